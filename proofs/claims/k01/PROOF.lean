import PyProof.Rows.All
import Wide.All
import OpenK.AllK
import Wide.FinOn
import KE.SortData
import HandS.ForMost
import HandS.Exc
import HandS.TupAny
import HandS.Deep
import HandS.Star
import HandS.AnyAll
import HandS.DictComp
import HandS.Flow
import HandS.Style
import HandS.Sort
import HandS.SortInts
import HandS.SortOrd
import HandS.SortRule
import HandS.ForDict
import HandS.ForList
import HandS.ForSpec
import HandS.ForExc
import HandS.ExcInit
import HandS.TryOnly
import HandS.TryMany
import HandS.Nested
import HandS.Lambda
import HandS.CallLocal
import HandS.OwnEq
import HandS.Text
import HandS.Strs
import HandS.Steps
import HandS.TupLen
import HandS.IsInst
import HandS.ListItems
import HandS.New
import HandS.Words
import HandS.Zip
import HandS.More
import HandS.Set
import HandS.WordsExc
import HandS.WordsList
import HandS.WordsDict
import KE.KDictKeyed
import KE.KeyNested
import HandS.ExcOwn
import HandS.Defaults
import HandS.Head0
import HandS.Head1
import HandS.Head2
import HandS.HeadEnd
import HandS.HeadHook1
import HandS.HeadHook2
import HandS.ExcValue
import HandS.Conv
import HandS.ExcField
import HandS.TupSets
import PyProof.ReprRoads
import PyProof.CallStr
import HandS.EndTab
import HandS.HeadWalk
import HandS.EndOwn
import KE.KStateDown
import HandS.Ends
import PySem.Challenge.RW_stepfree_k01_whole_needs
set_option Elab.async false
set_option linter.all false
section
/-! An evaluator for the fragment of Python that stepfree and its laws use. Values (IV) are plain data; what a name owns alone (SV) may be changed in place, all else is never changed. Core Lean alone. -/
namespace Vy
/-- values that nobody changes any more -/
inductive IV
  | non | bl (b : Bool) | int (i : Int) | str (s : List Nat) | tup (xs : List IV) | lst (xs : List IV) | dct (kvs : List (IV × IV)) | ins (c : Nat) (fs : List (Nat × IV))
  | fn (f : Nat) | cls (c : Nat) | ty (n : Nat) | lam (n : Nat)
  deriving Inhabited
/-- what a name holds, what an expression gives: und: nothing; fz: such a value; ol, od, oi: a list, a dict, an instance that nobody else holds; tb: the table of lambdas that the frame has made -/
inductive SV
  | und | fz (v : IV) | ol (xs : List SV) | od (kvs : List (IV × SV)) | oi (c : Nat) (fs : List (Nat × SV)) | tb
  deriving Inhabited
/-! ### from owned to plain -/
mutual
def SV.frz : SV → IV
  | .und => .non
  | .fz v => v
  | .ol xs => .lst (SV.frzL xs)
  | .od kvs => .dct (SV.frzD kvs)
  | .oi c fs => .ins c (SV.frzF fs)
  | .tb => .non
def SV.frzL : List SV → List IV
  | [] => []
  | x :: xs => x.frz :: SV.frzL xs
def SV.frzD : List (IV × SV) → List (IV × IV)
  | [] => []
  | (k, x) :: xs => (k, x.frz) :: SV.frzD xs
def SV.frzF : List (Nat × SV) → List (Nat × IV)
  | [] => []
  | (k, x) :: xs => (k, x.frz) :: SV.frzF xs
end
def SV.isF : SV → Bool
  | .fz _ => true
  | _ => false
/-- owned, all within plain -/
def SV.flat : SV → Bool
  | .und => false
  | .fz _ => true
  | .ol xs => xs.all SV.isF
  | .od kvs => kvs.all fun p => p.2.isF
  | .oi _ fs => fs.all fun p => p.2.isF
  | .tb => false
def fzs (xs : List IV) : List SV := xs.map .fz
def nl (xs : List IV) : SV := .ol (xs.map .fz)
def nd (kvs : List (IV × IV)) : SV := .od (kvs.map fun p => (p.1, .fz p.2))
abbrev Env := List SV
/-- results: done; an exception (class, attributes); a draw below n; no word -/
inductive Res (α : Type)
  | ok (a : α) (e : Env) | exc (c : Nat) (fs : List (Nat × IV)) (e : Env) | ask (n : Nat) (k : Nat → Res α) | bad (m : Nat)
def Res.bind {α β : Type} : Res α → (α → Env → Res β) → Res β
  | .ok a e, f => f a e
  | .exc c x e, _ => .exc c x e
  | .ask n k, f => .ask n fun i => (k i).bind f
  | .bad m, _ => .bad m
/-- where no error may come through -/
def Res.noX {α : Type} : Res α → Res α
  | .ok a e => .ok a e
  | .exc _ _ _ => .bad 70
  | .ask n k => .ask n fun i => (k i).noX
  | .bad m => .bad m
def retO {α : Type} (o : Option α) (e : Env) (m : Nat) : Res α := match o with
  | some a => .ok a e
  | none => .bad m
/-! ### equality -/
def beqN : List Nat → List Nat → Bool
  | [], [] => true
  | x :: xs, y :: ys => match Nat.beq x y with
    | true => beqN xs ys
    | false => false
  | _, _ => false
def b2i : Bool → Int
  | true => 1
  | false => 0
mutual
/-- data that == looks at by itself -/
def IV.dat : Nat → IV → Bool
  | 0, _ => false
  | _ + 1, .non => true
  | _ + 1, .bl _ => true
  | _ + 1, .int _ => true
  | _ + 1, .str s => s.all fun c => Nat.blt c 1114112
  | n + 1, .tup xs => IV.datL n xs
  | n + 1, .lst xs => IV.datL n xs
  | _ + 1, _ => false
def IV.datL : Nat → List IV → Bool
  | _, [] => true
  | n, x :: xs => IV.dat n x && IV.datL n xs
end
mutual
def ieq : IV → IV → Bool
  | .non, .non => true
  | .bl a, .bl b => a == b
  | .bl a, .int j => decide (b2i a = j)
  | .int i, .bl b => decide (i = b2i b)
  | .int i, .int j => decide (i = j)
  | .str x, .str y => beqN x y
  | .tup x, .tup y => ieqs x y
  | .lst x, .lst y => ieqs x y
  | _, _ => false
def ieqs : List IV → List IV → Bool
  | [], [] => true
  | x :: xs, y :: ys => ieq x y && ieqs xs ys
  | _, _ => false
end
def veq (a b : IV) : Option Bool := match IV.dat 60 a && IV.dat 60 b with
  | true => some (ieq a b)
  | false => none
/-! ### dicts: keys are ints, texts, tuples of these -/
def keyF : IV → Bool
  | .int _ => true
  | .str _ => true
  | _ => false
mutual
/-- a key within tuples: to some depth -/
def keyN : Nat → IV → Bool
  | _, .non => true
  | _, .bl _ => true
  | _, .int _ => true
  | _, .str _ => true
  | 0, _ => false
  | n + 1, .tup xs => keyNL n xs
  | _ + 1, _ => false
def keyNL : Nat → List IV → Bool
  | _, [] => true
  | n, x :: xs => keyN n x && keyNL n xs
end
def keyB : IV → Bool
  | .tup xs => keyNL 7 xs
  | k => keyF k
def keyT : IV → Bool
  | .tup _ => true
  | _ => false
def dget {α : Type} : List (IV × α) → IV → Option α
  | [], _ => none
  | (k, v) :: r, x => match ieq k x with
    | true => some v
    | false => dget r x
def kindOk (ks : List IV) (x : IV) : Bool := match ks with
  | [] => keyB x
  | k :: _ => keyB x && (keyT k == keyT x)
def drep : List (IV × SV) → IV → SV → List (IV × SV)
  | [], _, _ => []
  | (k, w) :: r, x, v => match ieq k x with
    | true => (k, v) :: r
    | false => (k, w) :: drep r x v
def dhas {α : Type} : List (IV × α) → IV → Bool
  | [], _ => false
  | (k, _) :: r, x => match ieq k x with
    | true => true
    | false => dhas r x
def dput (kvs : List (IV × SV)) (x : IV) (v : SV) : Option (List (IV × SV)) := match kindOk (kvs.map (·.1)) x with
  | true => match dhas kvs x with
    | true => some (drep kvs x v)
    | false => some (kvs ++ [(x, v)])
  | false => none
def ddel {α : Type} : List (IV × α) → IV → List (IV × α)
  | [], _ => []
  | (k, w) :: r, x => match ieq k x with
    | true => ddel r x
    | false => (k, w) :: ddel r x
abbrev dgetS (kvs : List (IV × SV)) (k : IV) : Option SV := dget kvs k
/-! ### sequences -/
def seqOf : IV → Option (List IV)
  | .tup xs => some xs
  | .lst xs => some xs
  | _ => none
def lstAt {α : Type} : List α → Nat → Option α
  | [], _ => none
  | x :: _, 0 => some x
  | _ :: r, n + 1 => lstAt r n
/-- the place of an index -/
def ixOf (n : Nat) : Int → Option Nat
  | .ofNat k => match Nat.blt k n with
    | true => some k
    | false => none
  | .negSucc k => match Nat.blt k n with
    | true => some (n - (k + 1))
    | false => none
def idx (xs : List IV) (i : Int) : Option IV := match ixOf xs.length i with
  | some k => lstAt xs k
  | none => none
def cutP (n d : Nat) : Option Int → Nat
  | none => d
  | some (.ofNat k) => match Nat.blt k n with
    | true => k
    | false => n
  | some (.negSucc k) => n - (k + 1)
def cut {α : Type} (xs : List α) (lo hi : Option Int) : List α :=
  (xs.drop (cutP xs.length 0 lo)).take (cutP xs.length xs.length hi - cutP xs.length 0 lo)
/-! ### order -/
def ltN : List Nat → List Nat → Bool
  | [], [] => false
  | [], _ => true
  | _, [] => false
  | x :: xs, y :: ys => match Nat.beq x y with
    | true => ltN xs ys
    | false => Nat.blt x y
/-- ints only within tuples -/
def allI : List IV → Option (List Int)
  | [] => some []
  | .int i :: r => match allI r with
    | some l => some (i :: l)
    | none => none
  | _ => none
def ltI : List Int → List Int → Bool
  | [], [] => false
  | [], _ => true
  | _, [] => false
  | x :: xs, y :: ys => match decide (x = y) with
    | true => ltI xs ys
    | false => decide (x < y)
/-! ### operators -/
def truth : IV → Option Bool
  | .non => some false
  | .bl b => some b
  | .int i => some (!decide (i = 0))
  | .str s => match Nat.ble s.length 1000000 with
    | true => some (!s.isEmpty)
    | false => none
  | .tup s => some (!s.isEmpty)
  | .lst s => some (!s.isEmpty)
  | .dct s => some (!s.isEmpty)
  | _ => none
def binop (o : Nat) (a b : IV) : Option SV := match o with
  | 0 => match a with
    | .int x => match b with
      | .int y => some (.fz (.int (x + y)))
      | _ => none
    | .str x => match b with
      | .str y => match Nat.ble (x.length + y.length) 1000000 with
        | true => some (.fz (.str (x ++ y)))
        | false => none
      | _ => none
    | .lst x => match b with
      | .lst y => match Nat.ble (x.length + y.length) 1000000 with
        | true => some (nl (x ++ y))
        | false => none
      | _ => none
    | .tup x => match b with
      | .tup y => match x with
        | [] => some (.fz (.tup y))
        | _ => match Nat.ble (x.length + y.length) 1000000 with
          | true => some (.fz (.tup (x ++ y)))
          | false => none
      | _ => none
    | _ => none
  | 1 => match a with
    | .int x => match b with
      | .int y => some (.fz (.int (x - y)))
      | _ => none
    | _ => none
  | 2 => match a with
    | .int x => match b with
      | .int y => match decide (-(2 ^ 64) < x) && decide (x < 2 ^ 64) || decide (-(2 ^ 64) < y) && decide (y < 2 ^ 64) with
        | true => some (.fz (.int (x * y)))
        | false => none
      | _ => none
    | _ => none
  | 3 => match a with
    | .int x => match b with
      | .int y => match decide (0 < y) && decide (y < 1073741824) with
        | true => some (.fz (.int (x / y)))
        | false => none
      | _ => none
    | _ => none
  | 4 => match a with
    | .int x => match b with
      | .int y => match decide (0 < y) with
        | true => some (.fz (.int (x % y)))
        | false => none
      | _ => none
    | _ => none
  | 5 => match a with
    | .int x => match b with
      | .int y => match decide (0 ≤ y) && decide (y ≤ 1000) && decide (x.natAbs < 2 ^ 64) with
        | true => some (.fz (.int (x ^ y.toNat)))
        | false => none
      | _ => none
    | _ => none
  | _ => none
def isPre : List Nat → List Nat → Bool
  | [], _ => true
  | _, [] => false
  | x :: xs, y :: ys => match Nat.beq x y with
    | true => isPre xs ys
    | false => false
def flatV : IV → Bool
  | .non => true
  | .bl _ => true
  | .int _ => true
  | .str _ => true
  | _ => false
def memI (x : IV) : List IV → Bool
  | [] => false
  | y :: ys => match ieq y x with
    | true => true
    | false => memI x ys
def isIn (a b : IV) : Option Bool := match b with
  | .tup xs => match IV.dat 60 a && IV.datL 60 xs with
    | true => some (memI a xs)
    | false => none
  | .lst xs => match IV.dat 60 a && IV.datL 60 xs with
    | true => some (memI a xs)
    | false => none
  | .dct kvs => match kindOk (kvs.map (·.1)) a with
    | true => some (dhas kvs a)
    | false => none
  | .str s => match a with
    | .str [c] => some (s.any fun d => Nat.beq c d)
    | _ => none
  | _ => none
def isNon : IV → Bool
  | .non => true
  | _ => false
def cmpop (o : Nat) (a b : IV) : Option Bool := match o with
  | 0 => veq a b
  | 1 => (veq a b).map (!·)
  | 2 => match a with
    | .int x => match b with
      | .int y => some (decide (x < y))
      | _ => none
    | .str x => match b with
      | .str y => some (ltN x y)
      | _ => none
    | _ => none
  | 3 => match a with
    | .int x => match b with
      | .int y => some (decide (x ≤ y))
      | _ => none
    | _ => none
  | 4 => match a with
    | .int x => match b with
      | .int y => some (decide (y < x))
      | _ => none
    | _ => none
  | 5 => match a with
    | .int x => match b with
      | .int y => some (decide (y ≤ x))
      | _ => none
    | _ => none
  | 6 => isIn a b
  | 7 => (isIn a b).map (!·)
  | 8 => match b with
    | .non => some (isNon a)
    | _ => none
  | 9 => match b with
    | .non => some (!isNon a)
    | _ => none
  | _ => none
/-! ### built-in functions -/
def hasTy (n : Nat) (v : IV) : Option Bool := match Nat.blt n 6 with
  | true => match v with
    | .int _ => some (Nat.beq n 0)
    | .bl _ => some (Nat.beq n 0 || Nat.beq n 1)
    | .str _ => some (Nat.beq n 2)
    | .tup _ => some (Nat.beq n 3)
    | .lst _ => some (Nat.beq n 4)
    | .dct _ => some (Nat.beq n 5)
    | .non => some false
    | .ins _ _ => some false
    | _ => none
  | false => none
def isiOne (v t : IV) : Option Bool := match t with
  | .ty n => hasTy n v
  | .cls c => match v with
    | .ins d _ => some (Nat.beq c d)
    | .non => some false
    | .bl _ => some false
    | .int _ => some false
    | .str _ => some false
    | .tup _ => some false
    | .lst _ => some false
    | .dct _ => some false
    | _ => none
  | _ => none
def isiAny (v : IV) : List IV → Option Bool
  | [] => some false
  | t :: ts => match isiOne v t with
    | some true => match isiAny v ts with
      | some _ => some true
      | none => none
    | some false => isiAny v ts
    | none => none
def allB : List IV → Option (List Bool)
  | [] => some []
  | .bl b :: r => match allB r with
    | some l => some (b :: l)
    | none => none
  | _ => none
def minI : Int → List Int → Int
  | a, [] => a
  | a, x :: xs => minI (if x < a then x else a) xs
def maxI : Int → List Int → Int
  | a, [] => a
  | a, x :: xs => maxI (if a < x then x else a) xs
/-! order -/
def strOf (s : List Nat) : PySem.Str := ⟨s.toArray⟩
mutual
/-- how it's ordered -/
def encV : IV → PySem.PyData
  | .int i => .int i
  | .str s => .str (strOf s)
  | .tup xs => .tuple (encL xs)
  | _ => .none
def encL : List IV → List PySem.PyData
  | [] => []
  | x :: xs => encV x :: encL xs
end
mutual
/-- the two can be ordered, place by place -/
def alkN : Nat → IV → IV → Bool
  | 0, _, _ => false
  | n + 1, a, b => match a with
    | .int _ => match b with
      | .int _ => true
      | _ => false
    | .str _ => match b with
      | .str _ => true
      | _ => false
    | .tup xs => match b with
      | .tup ys => alkL n xs ys
      | _ => false
    | _ => false
def alkL : Nat → List IV → List IV → Bool
  | _, [], _ => true
  | _, _ :: _, [] => true
  | n, x :: xs, y :: ys => alkN n x y && alkL n xs ys
end
def tupNe : IV → Bool
  | .tup (_ :: _) => true
  | _ => false
def atomB : IV → Bool
  | .int _ => true
  | .str _ => true
  | _ => false
def srtOk (xs : List IV) : Bool := (xs.all fun a => xs.all fun b => alkN 9 a b) && (xs.all tupNe || xs.all atomB)
/-- what sorted gives -/
def sortV (xs : List IV) : Option (List IV) := match srtOk xs with
  | true => some (xs.mergeSort (PySem.W.dataLe false encV))
  | false => none
def enumV : Nat → List IV → List IV
  | _, [] => []
  | n, x :: xs => .tup [.int n, x] :: enumV (n + 1) xs
def zipV : List IV → List IV → List IV
  | x :: xs, y :: ys => .tup [x, y] :: zipV xs ys
  | _, _ => []
def rangeV : Nat → Int → List IV
  | 0, _ => []
  | n + 1, a => .int a :: rangeV n (a + 1)
def lenV : IV → Option Nat
  | .str s => match Nat.ble s.length 1000000 with
    | true => some s.length
    | false => none
  | .tup s => some s.length
  | .lst s => some s.length
  | .dct s => some s.length
  | _ => none
def digits : Nat → Nat → List Nat → List Nat
  | 0, _, acc => acc
  | f + 1, n, acc => match Nat.blt n 10 with
    | true => (48 + n) :: acc
    | false => digits f (n / 10) ((48 + n % 10) :: acc)
def joinV (sep : List Nat) : List IV → Option (List Nat)
  | [] => some []
  | .str x :: r => match r with
    | [] => some x
    | _ => match joinV sep r with
      | some y => some (x ++ sep ++ y)
      | none => none
  | _ => none
def sumI : List Int → Int
  | [] => 0
  | x :: xs => x + sumI xs
def indexV (x : IV) : List IV → Nat → Option Nat
  | [], _ => none
  | y :: ys, n => match ieq y x with
    | true => some n
    | false => indexV x ys (n + 1)
def uniq : List IV → List IV → List IV
  | [], acc => acc.reverse
  | x :: xs, acc => match memI x acc with
    | true => uniq xs acc
    | false => uniq xs (x :: acc)
end Vy

end
section
/-! What expressions mean. -/
namespace Vy
/-- targets of stores to names -/
inductive Tg
  | n (i : Nat) | nil | cons (a : Tg) (r : Tg)
  deriving Inhabited, DecidableEq
inductive Fl
  | nx | ret (v : SV) | brk | cnt
structure CD where
  init : Nat
  keep : Bool
  meths : List (Nat × Nat)
/-- what is called: a def by its number, with what its names hold at the entry; the answer and what the arguments hold behind it -/
abbrev Callee := Nat → List SV → Res (SV × List SV)
/-- the classes -/
abbrev Tab := List CD
def setE (e : Env) (i : Nat) (v : SV) : Env := e.set i v
def getE (e : Env) (i : Nat) : SV := match e[i]? with
  | some v => v
  | none => .und
inductive OV
  | sl (i : Nat) | vl (v : IV)
/-- what an operand holds when it's used -/
def OV.at : OV → Env → Option IV
  | .vl v, _ => some v
  | .sl i, e => match (getE e i).flat with
    | true => some (getE e i).frz
    | false => none
abbrev Den := Env → Res SV
/-- an operand's value is taken for good -/
def thaw (d : Den) (e : Env) : Res IV := (d e).bind fun r e => .ok r.frz e
def dVar (i : Nat) : Den := fun e => match getE e i with
  | .und => .bad (1000 + i)
  | .fz v => .ok (.fz v) e
  | s => .ok (.fz s.frz) (setE e i (.fz s.frz))
def dCon (x : IV) : Den := fun e => .ok (.fz x) e
abbrev ODen := Env → Res OV
def oS (i : Nat) : ODen := fun e => match getE e i with
  | .und => .bad (1000 + i)
  | _ => .ok (.sl i) e
def oE (d : Den) : ODen := fun e => (d e).bind fun r e => .ok (.vl r.frz) e
def looked (o : ODen) (k : IV → Env → Res SV) : Den := fun e => (o e).bind fun x e => match x.at e with
  | some v => k v e
  | none => .bad 601
def looked2 (a b : ODen) (k : IV → IV → Env → Res SV) : Den := fun e => (a e).bind fun x e => (b e).bind fun y e => match x.at e with
  | some v => match y.at e with
    | some w => k v w e
    | none => .bad 602
  | none => .bad 603
def lkm : List (Nat × Nat) → Nat → Option Nat
  | [], _ => none
  | (k, v) :: r, f => match Nat.beq k f with
    | true => some v
    | false => lkm r f
def clsS : SV → Option Nat
  | .fz (.ins c _) => some c
  | .oi c _ => some c
  | _ => none
def metG (T : Tab) (c : Option Nat) (m : Nat) : Option Nat := match c with
  | some c => match T[c]? with
    | some k => lkm k.meths m
    | none => none
  | none => none
/-- a method of plain things that answers a truth value -/
def askB (C : Callee) (g : Nat) (vs : List IV) (e : Env) : Res Bool := go e (C g (vs.map .fz))
where go (e : Env) : Res (SV × List SV) → Res Bool
  | .ok r _ => match r.1 with
    | .fz (.bl b) => .ok b e
    | _ => .bad 45
  | .exc _ _ _ => .bad 46
  | .ask n k => .ask n fun i => go e (k i)
  | .bad m => .bad m
def truthR (T : Tab) (C : Callee) (v : IV) (e : Env) : Res Bool := match metG T (clsS (.fz v)) 1 with
  | some g => askB C g [v] e
  | none => retO (truth v) e 3
def eqR (T : Tab) (C : Callee) (v w : IV) (e : Env) : Res Bool := match metG T (clsS (.fz v)) 0 with
  | some g => askB C g [v, w] e
  | none => retO (veq v w) e 47
def dBin (o : Nat) (a b : ODen) : Den := looked2 a b fun v w e => retO (binop o v w) e (100 + o)
def dCmp (T : Tab) (C : Callee) (o : Nat) (a b : ODen) : Den := looked2 a b fun v w e => match o with
  | 0 => (eqR T C v w e).bind fun t e => .ok (.fz (.bl t)) e
  | 1 => (eqR T C v w e).bind fun t e => .ok (.fz (.bl (!t))) e
  | o => (retO (cmpop o v w) e (120 + o)).bind fun t e => .ok (.fz (.bl t)) e
def dChn (o p : Nat) (a b c : ODen) : Den := fun e => (a e).bind fun x e => (b e).bind fun y e => match x.at e with
  | some v => match y.at e with
    | some w => (retO (cmpop o v w) e (120 + o)).bind fun t e => match t with
      | false => .ok (.fz (.bl false)) e
      | true => (c e).bind fun z e => match y.at e with
        | some w => match z.at e with
          | some u => (retO (cmpop p w u) e (120 + p)).bind fun t e => .ok (.fz (.bl t)) e
          | none => .bad 604
        | none => .bad 605
    | none => .bad 606
  | none => .bad 607
def tst (T : Tab) (C : Callee) (o : ODen) (e : Env) : Res Bool := (o e).bind fun x e => match x.at e with
  | some v => truthR T C v e
  | none => .bad 608
def dAnd (a b : Den) : Den := fun e => (thaw a e).bind fun x e => (retO (truth x) e 3).bind fun t e => match t with
  | true => b e
  | false => .ok (.fz x) e
def dOr (a b : Den) : Den := fun e => (thaw a e).bind fun x e => (retO (truth x) e 3).bind fun t e => match t with
  | true => .ok (.fz x) e
  | false => b e
def dNot (T : Tab) (C : Callee) (o : ODen) : Den := fun e => (tst T C o e).bind fun t e => .ok (.fz (.bl (!t))) e
def dIte (T : Tab) (C : Callee) (c : ODen) (a b : Den) : Den := fun e => (tst T C c e).bind fun t e => match t with
  | true => a e
  | false => b e
def dNeg (o : ODen) : Den := looked o fun v e => match v with
  | .int i => .ok (.fz (.int (-i))) e
  | _ => .bad 4
abbrev LDen := Env → Res (List IV)
def lNil : LDen := fun e => .ok [] e
def lCons (d : Den) (r : LDen) : LDen := fun e => (thaw d e).bind fun x e => (r e).bind fun xs e => .ok (x :: xs) e
def lStar (o : ODen) (r : LDen) : LDen := fun e => (o e).bind fun x e => match x.at e with
  | some v => match seqOf v with
    | some ys => (r e).bind fun xs e => .ok (ys ++ xs) e
    | none => .bad 5
  | none => .bad 609
/-- so much may lie in a row -/
def fits (n : Nat) : Bool := Nat.ble n 1000000
def dTup (l : LDen) : Den := fun e => (l e).bind fun xs e => match fits xs.length with
  | true => .ok (.fz (.tup xs)) e
  | false => .bad 56
def dLst (l : LDen) : Den := fun e => (l e).bind fun xs e => match fits xs.length with
  | true => .ok (nl xs) e
  | false => .bad 57
def isInt : IV → Option Int
  | .int i => some i
  | _ => none
def subV (v w : IV) : Option IV := match v with
  | .tup xs => match w with
    | .int i => idx xs i
    | _ => none
  | .lst xs => match w with
    | .int i => idx xs i
    | _ => none
  | .str s => match w with
    | .int i => match fits s.length with
      | true => match ixOf s.length i with
        | some k => match lstAt s k with
          | some c => some (.str [c])
          | none => none
        | none => none
      | false => none
    | _ => none
  | .dct kvs => match kindOk (kvs.map (·.1)) w with
    | true => dget kvs w
    | false => none
  | _ => none
/-- an item of what a name holds -/
def subS (s : SV) (w : IV) : Option IV := match s with
  | .fz v => subV v w
  | .ol xs => match w with
    | .int i => match ixOf xs.length i with
      | some k => match lstAt xs k with
        | some (.fz v) => some v
        | _ => none
      | none => none
    | _ => none
  | .od kvs => match kindOk (kvs.map (·.1)) w with
    | true => match dgetS kvs w with
      | some (.fz v) => some v
      | _ => none
    | false => none
  | _ => none
def dSub (a i : ODen) : Den := fun e => (a e).bind fun x e => (i e).bind fun y e => match y.at e with
  | some w => (retO (match x with
    | .sl i => subS (getE e i) w
    | .vl v => subV v w) e 6).bind fun x e => .ok (.fz x) e
  | none => .bad 610
abbrev PDen := Env → Res (Option Int)
def pNo : PDen := fun e => .ok none e
def pSo (o : ODen) : PDen := fun e => (o e).bind fun x e => match x.at e with
  | some (.int i) => .ok (some i) e
  | _ => .bad 7
def slcV (v : IV) (lo hi : Option Int) : Option SV := match v with
  | .tup xs => some (.fz (.tup (cut xs lo hi)))
  | .lst xs => some (nl (cut xs lo hi))
  | .str xs => match fits xs.length with
    | true => some (.fz (.str (cut xs lo hi)))
    | false => none
  | _ => none
def dSlc (a : ODen) (lo hi : PDen) : Den := fun e => (a e).bind fun x e => (lo e).bind fun l e => (hi e).bind fun u e => match x.at e with
  | some v => retO (slcV v l u) e 8
  | none => .bad 611
def dRev (a : ODen) : Den := looked a fun v e => match v with
  | .lst xs => .ok (nl xs.reverse) e
  | _ => .bad 9
def lkf {α : Type} : List (Nat × α) → Nat → Option α
  | [], _ => none
  | (k, v) :: r, f => match Nat.beq k f with
    | true => some v
    | false => lkf r f
def attV (v : IV) (f : Nat) : Option IV := match v with
  | .ins _ fs => lkf fs f
  | _ => none
/-- an attribute of what a name holds -/
def attS (s : SV) (f : Nat) : Option IV := match s with
  | .fz v => attV v f
  | .oi _ fs => match lkf fs f with
    | some (.fz v) => some v
    | _ => none
  | _ => none
def dAtt (a : ODen) (f : Nat) : Den := fun e => (a e).bind fun x e => (retO (match x with
  | .sl i => attS (getE e i) f
  | .vl v => attV v f) e (2000 + f)).bind fun x e => .ok (.fz x) e
/-! calls -/
inductive AV
  | own (i : Nat) | val (v : IV)
abbrev ADen := Env → Res (List AV)
def aNil : ADen := fun e => .ok [] e
def aOwn (i : Nat) (r : ADen) : ADen := fun e => match getE e i with
  | .und => .bad (1000 + i)
  | .fz v => (r e).bind fun xs e => .ok (.val v :: xs) e
  | _ => (r e).bind fun xs e => .ok (.own i :: xs) e
/-- the object a method is called of -/
def recv (s : SV) (i : Nat) : AV := match s with
  | .fz v => .val v
  | _ => .own i
def aVal (d : Den) (r : ADen) : ADen := fun e => (thaw d e).bind fun x e => (r e).bind fun xs e => .ok (.val x :: xs) e
def AV.sv (e : Env) : AV → SV
  | .own i => getE e i
  | .val v => .fz v
def owns : List AV → List Nat
  | [] => []
  | .own i :: r => i :: owns r
  | .val _ :: r => owns r
def nodupN : List Nat → Bool
  | [] => true
  | i :: r => !(r.any fun j => Nat.beq i j) && nodupN r
/-- what the names hold behind a call -/
def back : List AV → List SV → Env → Env
  | .own i :: r, s :: ss, e => back r ss (setE e i s)
  | .val _ :: r, _ :: ss, e => back r ss e
  | _, _, e => e
def called (C : Callee) (f : Nat) (as : List AV) (e : Env) : Res SV := match nodupN (owns as) with
  | true => go (C f (as.map (AV.sv e)))
  | false => .bad 10
where go : Res (SV × List SV) → Res SV
  | .ok r _ => .ok r.1 (back as r.2 e)
  | .exc c fs outs => .exc c fs (back as outs e)
  | .ask n k => .ask n fun i => go (k i)
  | .bad m => .bad m
def dCall (C : Callee) (f : Nat) (a : ADen) : Den := fun e => (a e).bind fun as e => called C f as e
def dMth (T : Tab) (C : Callee) (m : Nat) (o : ODen) (a : ADen) : Den := fun e => (o e).bind fun x e => (a e).bind fun as e => match x with
  | .sl i => match metG T (clsS (getE e i)) m with
    | some g => called C g (recv (getE e i) i :: as) e
    | none => .bad 11
  | .vl v => match metG T (clsS (.fz v)) m with
    | some g => called C g (.val v :: as) e
    | none => .bad 11
def dNew (T : Tab) (C : Callee) (c : Nat) (a : ADen) : Den := fun e => (a e).bind fun as e => match T[c]? with
  | some k => match nodupN (owns as) with
    | true => go k.keep as e (C k.init (.oi c [] :: as.map (AV.sv e)))
    | false => .bad 10
  | none => .bad 12
where go (kp : Bool) (as : List AV) (e : Env) : Res (SV × List SV) → Res SV
  | .ok r _ => match r.2 with
    | s :: ss => match kp with
      | true => .ok s (back as ss e)
      | false => .ok (.fz s.frz) (back as ss e)
    | [] => .bad 12
  | .exc c fs outs => match outs with
    | _ :: ss => .exc c fs (back as ss e)
    | [] => .bad 12
  | .ask n k => .ask n fun i => go kp as e (k i)
  | .bad m => .bad m
def dputs : List (IV × SV) → List (IV × IV) → Option (List (IV × SV))
  | d, [] => some d
  | d, (k, v) :: r => match dput d k (.fz v) with
    | some d => dputs d r
    | none => none
def pairsOf : List IV → Option (List (IV × IV))
  | [] => some []
  | .tup [k, v] :: r => match pairsOf r with
    | some l => some ((k, v) :: l)
    | none => none
  | _ => none
/-! built-ins. 0 len 1 isinstance 2 all 3 any 4 tuple 5 list 7 sorted 9 str 10 min 11 max 12 sum 14 dict 15 int 16 bool 17 abs -/
def vSv (o : Option IV) : Option SV := o.map .fz
def bltV (b : Nat) (vs : List IV) : Option SV := match b with
  | 0 => match vs with
    | [v] => (lenV v).map fun n => .fz (.int n)
    | _ => none
  | 1 => match vs with
    | [v, .tup ts] => match ts with
      | [] => none
      | _ => (isiAny v ts).map fun t => .fz (.bl t)
    | [v, t] => (isiOne v t).map fun t => .fz (.bl t)
    | _ => none
  | 2 => match vs with
    | [.lst xs] => (allB xs).map fun l => .fz (.bl (l.all id))
    | _ => none
  | 3 => match vs with
    | [.lst xs] => (allB xs).map fun l => .fz (.bl (l.any id))
    | _ => none
  | 4 => match vs with
    | [.tup xs] => some (.fz (.tup xs))
    | [.lst xs] => some (.fz (.tup xs))
    | _ => none
  | 5 => match vs with
    | [.tup xs] => some (nl xs)
    | [.lst xs] => some (nl xs)
    | [.dct kvs] => some (nl (kvs.map (·.1)))
    | _ => none
  | 7 => match vs with
    | [.lst xs] => (sortV xs).map nl
    | [.dct kvs] => (sortV (kvs.map (·.1))).map nl
    | _ => none
  | 9 => match vs with
    | [.int i] => match decide (0 ≤ i) && decide (i < 10 ^ 20) with
      | true => some (.fz (.str (digits 30 i.toNat [])))
      | false => none
    | _ => none
  | 10 => match vs with
    | [.int x, .int y] => some (.fz (.int (if y < x then y else x)))
    | [.lst xs] => match allI xs with
      | some (x :: l) => some (.fz (.int (minI x l)))
      | _ => none
    | _ => none
  | 11 => match vs with
    | [.int x, .int y] => some (.fz (.int (if x < y then y else x)))
    | [.lst xs] => match allI xs with
      | some (x :: l) => some (.fz (.int (maxI x l)))
      | _ => none
    | _ => none
  | 12 => match vs with
    | [.lst xs] => (allI xs).map fun l => .fz (.int (sumI l))
    | _ => none
  | 14 => match vs with
    | [.lst xs] => match pairsOf xs with
      | some ps => (dputs [] ps).map .od
      | none => none
    | [.tup xs] => match pairsOf xs with
      | some ps => (dputs [] ps).map .od
      | none => none
    | [.dct kvs] => some (nd kvs)
    | _ => none
  | 15 => match vs with
    | [.int i] => some (.fz (.int i))
    | _ => none
  | 17 => match vs with
    | [.int i] => some (.fz (.int (if i < 0 then -i else i)))
    | _ => none
  | _ => none
abbrev OsDen := Env → Res (List OV)
def osNil : OsDen := fun e => .ok [] e
def osCons (o : ODen) (r : OsDen) : OsDen := fun e => (o e).bind fun x e => (r e).bind fun xs e => .ok (x :: xs) e
def atAll : List OV → Env → Option (List IV)
  | [], _ => some []
  | o :: r, e => match o.at e with
    | some v => match atAll r e with
      | some vs => some (v :: vs)
      | none => none
    | none => none
def dBlt (T : Tab) (C : Callee) (b : Nat) (os : OsDen) : Den := fun e => (os e).bind fun xs e => match atAll xs e with
  | some vs => match b with
    | 16 => match vs with
      | [v] => (truthR T C v e).bind fun t e => .ok (.fz (.bl t)) e
      | _ => .bad 48
    | b => retO (bltV b vs) e (200 + b)
  | none => .bad 612
/-! methods that only look: 1 items 2 get 7 join 8 index -/
def bmtV (m : Nat) (v : IV) (vs : List IV) : Option SV := match m with
  | 2 => match v with
    | .dct kvs => match vs with
      | [k] => match kindOk (kvs.map (·.1)) k with
        | true => some (.fz (match dget kvs k with
          | some x => x
          | none => .non))
        | false => none
      | [k, d] => match kindOk (kvs.map (·.1)) k with
        | true => some (.fz (match dget kvs k with
          | some x => x
          | none => d))
        | false => none
      | _ => none
    | _ => none
  | 7 => match v with
    | .str s => match vs with
      | [.lst xs] => match joinV s xs with
        | some t => match Nat.ble t.length 1000000 with
          | true => some (.fz (.str t))
          | false => none
        | none => none
      | _ => none
    | _ => none
  | 8 => match v with
    | .lst xs => match vs with
      | [x] => match flatV x && xs.all flatV with
        | true => (indexV x xs 0).map fun n => .fz (.int n)
        | false => none
      | _ => none
    | _ => none
  | _ => none
def dBmt (m : Nat) (o : ODen) (os : OsDen) : Den := fun e => (o e).bind fun x e => (os e).bind fun xs e => match x.at e with
  | some v => match atAll xs e with
    | some vs => retO (bmtV m v vs) e (300 + m)
    | none => .bad 613
  | none => .bad 614
/-! methods that change what a name owns: 0 append 6 pop -/
def mutV (m : Nat) (s : SV) (vs : List IV) : Option (SV × SV) := match m with
  | 0 => match s with
    | .ol xs => match vs with
      | [v] => match Nat.blt xs.length 1000000 with
        | true => some (.fz .non, .ol (xs ++ [.fz v]))
        | false => none
      | _ => none
    | _ => none
  | 6 => match s with
    | .ol xs => match vs with
      | [.int i] => match ixOf xs.length i with
        | some k => match lstAt xs k with
          | some x => some (x, .ol (xs.eraseIdx k))
          | none => none
        | none => none
      | [] => match lstAt xs (xs.length - 1) with
        | some x => some (x, .ol xs.dropLast)
        | none => none
      | _ => none
    | _ => none
  | 4 => match s with
    | .od kvs => match vs with
      | [.dct ls] => (dputs kvs ls).map fun d => (.fz .non, .od d)
      | _ => none
    | _ => none
  | _ => none
def dMut (m : Nat) (i : Nat) (l : LDen) : Den := fun e => (l e).bind fun vs e => match mutV m (getE e i) vs with
  | some r => .ok r.1 (setE e i r.2)
  | none => .bad (400 + m)
/-- .. of what an item of a name's owns -/
def dMutk (m : Nat) (i : Nat) (k : ODen) (l : LDen) : Den := fun e => (k e).bind fun x e => (l e).bind fun vs e => match x.at e with
  | some w => match getE e i with
    | .od kvs => match kindOk (kvs.map (·.1)) w with
      | true => match dgetS kvs w with
        | some s => match mutV m s vs with
          | some r => .ok r.1 (setE e i (.od (drep kvs w r.2)))
          | none => .bad (400 + m)
        | none => .bad 40
      | false => .bad 40
    | _ => .bad 40
  | none => .bad 615
def putF (fs : List (Nat × SV)) (f : Nat) (v : SV) : List (Nat × SV) := match fs with
  | [] => [(f, v)]
  | (g, w) :: r => match Nat.beq f g with
    | true => (f, v) :: r
    | false => (g, w) :: putF r f v
/-- .. of what an attribute of a name's owns -/
def dMuta (m : Nat) (i f : Nat) (l : LDen) : Den := fun e => (l e).bind fun vs e => match getE e i with
  | .oi c fs => match lkf fs f with
    | some s => match mutV m s vs with
      | some r => .ok r.1 (setE e i (.oi c (putF fs f r.2)))
      | none => .bad (400 + m)
    | none => .bad 41
  | _ => .bad 41
/-! stores to names -/
def bindT : Nat → Tg → IV → Env → Option Env
  | 0, _, _, _ => none
  | n + 1, t, v, e => match t with
    | .n i => some (setE e i (.fz v))
    | _ => match v with
      | .tup xs => bindTs n t xs e
      | _ => none
where bindTs : Nat → Tg → List IV → Env → Option Env
  | 0, _, _, _ => none
  | n + 1, t, xs, e => match t with
    | .nil => match xs with
      | [] => some e
      | _ => none
    | .cons a r => match xs with
      | x :: xs => match bindT n a x e with
        | some e => bindTs n r xs e
        | none => none
      | [] => none
    | .n _ => none
/-! what is walked -/
def itV (k : Nat) (v : IV) : Option (List IV) := match k with
  | 0 => match v with
    | .tup xs => some xs
    | .lst xs => some xs
    | .str s => some (s.map fun c => .str [c])
    | _ => none
  | 3 => match v with
    | .lst xs => some (enumV 0 xs)
    | .tup xs => some (enumV 0 xs)
    | _ => none
  | 5 => match v with
    | .dct kvs => some (kvs.map fun p => .tup [p.1, p.2])
    | _ => none
  | 6 => match v with
    | .dct kvs => some (kvs.map (·.2))
    | _ => none
  | _ => none
abbrev IDen := Env → Res (List IV)
/-- what is walked is let go for good -/
def gone (o : ODen) (e : Env) : Res IV := (o e).bind fun x e => match x with
  | .vl v => .ok v e
  | .sl i => (dVar i e).bind fun r e => .ok r.frz e
def iOne (k : Nat) (o : ODen) : IDen := fun e => (gone o e).bind fun v e => retO (itV k v) e (500 + k)
def iRng1 (o : ODen) : IDen := fun e => (gone o e).bind fun v e => match v with
  | .int n => match decide (-1000000 < n) && decide (n < 1000000) with
    | true => .ok (rangeV n.toNat 0) e
    | false => .bad 501
  | _ => .bad 501
def rng2K (v w : IV) (e : Env) : Res (List IV) := match v with
  | .int m => match w with
    | .int n => match decide (-1000000 < m) && decide (m < 1000000) && decide (-1000000 < n) && decide (n < 1000000) with
      | true => .ok (rangeV (n - m).toNat m) e
      | false => .bad 502
    | _ => .bad 502
  | _ => .bad 502
def iRng2 (a b : ODen) : IDen := fun e => (gone a e).bind fun v e => (gone b e).bind fun w e => rng2K v w e
def iZip (a b : ODen) : IDen := fun e => (gone a e).bind fun v e => (gone b e).bind fun w e => match v with
  | .lst xs => match w with
    | .lst ys => .ok (zipV xs ys) e
    | _ => .bad 504
  | .tup xs => match w with
    | .tup ys => .ok (zipV xs ys) e
    | _ => .bad 504
  | _ => .bad 504
/-- the tests of a comprehension -/
def tAll (T : Tab) (C : Callee) : List ODen → Env → Res Bool
  | [], e => .ok true e
  | o :: r, e => (tst T C o e).bind fun t e => match t with
    | true => tAll T C r e
    | false => .ok false e
def wipe : List Nat → Env → Env
  | [], e => e
  | i :: r, e => setE (wipe r e) i .und
/-- one turn after another -/
def compL (t : Tg) (own : List Nat) (ok : Env → Res Bool) (f : Den) : List IV → List SV → Env → Res (List SV)
  | [], acc, e => .ok acc e
  | x :: xs, acc, e => match bindT 20 t x e with
    | none => .bad 20
    | some e => (ok e).noX.bind fun b e => match b with
      | true => (f e).noX.bind fun y e => match fits acc.length with
        | true => compL t own ok f xs (acc ++ [y]) (wipe own e)
        | false => .bad 71
      | false => compL t own ok f xs acc (wipe own e)
def dLc (T : Tab) (C : Callee) (d : Den) (t : Tg) (it : IDen) (ifs : List ODen) (own : List Nat) : Den := fun e => (it e).bind fun xs e =>
  (compL t own (tAll T C ifs) d xs [] (wipe own e)).bind fun ys e => .ok (.ol ys) e
/-- two clauses -/
def compL2 (t : Tg) (own own2 : List Nat) (ok : Env → Res Bool) (it2 : IDen) (t2 : Tg) (ok2 : Env → Res Bool) (f : Den) : List IV → List SV → Env → Res (List SV)
  | [], acc, e => .ok acc e
  | x :: xs, acc, e => match bindT 20 t x e with
    | none => .bad 20
    | some e => (ok e).noX.bind fun b e => match b with
      | true => (it2 e).noX.bind fun zs e => (compL t2 own2 ok2 f zs acc (wipe own2 e)).bind fun acc e => compL2 t own own2 ok it2 t2 ok2 f xs acc (wipe own e)
      | false => compL2 t own own2 ok it2 t2 ok2 f xs acc (wipe own e)
def dLc2 (T : Tab) (C : Callee) (d : Den) (t : Tg) (it : IDen) (ifs : List ODen) (t2 : Tg) (it2 : IDen) (ifs2 : List ODen) (own own2 : List Nat) : Den := fun e => (it e).bind fun xs e =>
  (compL2 t own own2 (tAll T C ifs) it2 t2 (tAll T C ifs2) d xs [] (wipe own e)).bind fun ys e => .ok (.ol ys) e
/-- one turn of a dict comprehension -/
def compD (t : Tg) (own : List Nat) (ok : Env → Res Bool) (k v : Den) : List IV → List (IV × SV) → Env → Res (List (IV × SV))
  | [], acc, e => .ok acc e
  | x :: xs, acc, e => match bindT 20 t x e with
    | none => .bad 20
    | some e => (ok e).noX.bind fun b e => match b with
      | true => (thaw k e).noX.bind fun a e => (v e).noX.bind fun w e => match fits acc.length with
        | true => match dput acc a w with
          | some acc => compD t own ok k v xs acc (wipe own e)
          | none => .bad 21
        | false => .bad 72
      | false => compD t own ok k v xs acc (wipe own e)
def dDc (T : Tab) (C : Callee) (k v : Den) (t : Tg) (it : IDen) (ifs : List ODen) (own : List Nat) : Den := fun e => (it e).bind fun xs e =>
  (compD t own (tAll T C ifs) k v xs [] (wipe own e)).bind fun kvs e => .ok (.od kvs) e
abbrev KDen := List (IV × SV) → Env → Res (List (IV × SV))
def kNil : KDen := fun d e => .ok d e
def kCons (k v : Den) (r : KDen) : KDen := fun d e => (thaw k e).bind fun a e => (v e).bind fun w e => match dput d a w with
  | some d => r d e
  | none => .bad 21
def kStar (o : ODen) (r : KDen) : KDen := fun d e => (o e).bind fun x e => match x.at e with
  | some (.dct kvs) => match dputs d kvs with
    | some d => r d e
    | none => .bad 22
  | _ => .bad 22
def dDct (k : KDen) : Den := fun e => (k [] e).bind fun d e => .ok (.od d) e
end Vy

end
section
/-! Statements, defs, whole runs. -/
namespace Vy
abbrev SDen := Env → Res Fl
def sEx (d : Den) : SDen := fun e => (d e).bind fun _ e => .ok .nx e
def sAsg (t : Tg) (d : Den) : SDen := fun e => (d e).bind fun r e => match t with
  | .n i => .ok .nx (setE e i r)
  | t => (retO (bindT 20 t r.frz e) e 20).bind fun e' _ => .ok .nx e'
/-- a store into what a name owns -/
def setV (s : SV) (k : IV) (r : SV) : Option SV := match s with
  | .ol xs => match k with
    | .int i => match ixOf xs.length i with
      | some j => some (.ol (xs.set j r))
      | none => none
    | _ => none
  | .od kvs => (dput kvs k r).map .od
  | _ => none
/-- .. a row -/
def setL (s : SV) (k : IV) (r : SV) : Option SV := match s with
  | .ol xs => setV (.ol xs) k r
  | _ => none
def sAsub (i : Nat) (k : ODen) (d : Den) : SDen := fun e => (d e).bind fun r e => (k e).bind fun x e => match x.at e with
  | some w => (retO (setV (getE e i) w r) e 22).bind fun s e => .ok .nx (setE e i s)
  | none => .bad 616
def sAatt (i f : Nat) (d : Den) : SDen := fun e => (d e).bind fun r e => match getE e i with
  | .oi c fs => match Nat.blt fs.length 900 with
    | true => .ok .nx (setE e i (.oi c (putF fs f r)))
    | false => .bad 23
  | _ => .bad 23
def sAug (i o : Nat) (d : ODen) : SDen := fun e => match getE e i with
  | .fz v => (d e).bind fun x e => match x.at e with
    | some w => (retO (match o with
      | 0 => match v with
        | .int _ => binop 0 v w
        | .str _ => binop 0 v w
        | _ => none
      | 1 => binop 1 v w
      | _ => none) e 24).bind fun r e => .ok .nx (setE e i r)
    | none => .bad 617
  | .ol _ => match o with
    | 0 => (d e).bind fun x e => match x.at e with
      | some (.lst ys) => match getE e i with
        | .ol xs => match Nat.ble (xs.length + ys.length) 1000000 with
          | true => .ok .nx (setE e i (.ol (xs ++ fzs ys)))
          | false => .bad 25
        | _ => .bad 25
      | _ => .bad 25
    | _ => .bad 25
  | _ => .bad 25
def augI (o : Nat) (v w : IV) : Option IV := match v with
  | .int i => match w with
    | .int j => match o with
      | 0 => some (.int (i + j))
      | 1 => some (.int (i - j))
      | _ => none
    | _ => none
  | _ => none
/-- i[k] += e, ints in a row -/
def sAugs (i : Nat) (k : ODen) (o : Nat) (d : ODen) : SDen := fun e => match getE e i with
  | .ol _ => (k e).bind fun x e => match x.at e with
    | some w => match getE e i with
      | .ol xs => (retO (subS (.ol xs) w) e 26).bind fun old e => (d e).bind fun y e => match y.at e with
        | some v => (retO (augI o old v) e 27).bind fun r e => (retO (setL (getE e i) w (.fz r)) e 28).bind fun s e => .ok .nx (setE e i s)
        | none => .bad 618
      | _ => .bad 26
    | none => .bad 619
  | _ => .bad 26
abbrev EDen := Env → Res (List SV)
def eNil : EDen := fun e => .ok [] e
def eCons (d : Den) (r : EDen) : EDen := fun e => (d e).bind fun x e => (r e).bind fun xs e => .ok (x :: xs) e
def pars : List Nat → List SV → Env → Option Env
  | [], [], e => some e
  | i :: r, s :: ss, e => pars r ss (setE e i s)
  | _, _, _ => none
def sPar (ts : List Nat) (l : EDen) : SDen := fun e => (l e).bind fun ss e => (retO (pars ts ss e) e 29).bind fun e' _ => .ok .nx e'
def sRet (d : Den) : SDen := fun e => (d e).bind fun r e => .ok (.ret r) e
/-- return of a name: a local's own is handed on -/
def sRetv (np i : Nat) : SDen := fun e => match Nat.blt i np with
  | true => (dVar i e).bind fun r e => .ok (.ret r) e
  | false => match getE e i with
    | .und => .bad (1000 + i)
    | s => .ok (.ret s) (setE e i .und)
/-- the classes of errors and their attributes -/
def zipF : List Nat → List IV → Option (List (Nat × IV))
  | [], [] => some []
  | k :: ks, v :: vs => match zipF ks vs with
    | some r => some ((k, v) :: r)
    | none => none
  | _, _ => none
def sRs (T : List (List Nat)) (c : Nat) (l : LDen) : SDen := fun e => (l e).bind fun vs e => match T[c]? with
  | some fs => match zipF fs vs with
    | some r => .exc c r e
    | none => .bad 30
  | none => .bad 30
def sSeq (a b : SDen) : SDen := fun e => (a e).bind fun f e => match f with
  | .nx => b e
  | f => .ok f e
def sIf (T : Tab) (C : Callee) (c : ODen) (a b : SDen) : SDen := fun e => (tst T C c e).bind fun t e => match t with
  | true => a e
  | false => b e
def whileL (c : Env → Res Bool) (b : SDen) : Nat → SDen
  | 0 => fun _ => .bad 31
  | n + 1 => fun e => (c e).bind fun t e => match t with
    | false => .ok .nx e
    | true => (b e).bind fun f e => match f with
      | .nx => whileL c b n e
      | .cnt => whileL c b n e
      | .brk => .ok .nx e
      | .ret s => .ok (.ret s) e
def FUEL : Nat := 1000000
def sWh (T : Tab) (C : Callee) (c : ODen) (b : SDen) : SDen := fun e => whileL (tst T C c) b FUEL e
def forL (t : Tg) (b : SDen) : List IV → SDen
  | [], e => .ok .nx e
  | x :: xs, e => match bindT 20 t x e with
    | none => .bad 20
    | some e => (b e).bind fun f e => match f with
      | .nx => forL t b xs e
      | .cnt => forL t b xs e
      | .brk => .ok .nx e
      | .ret s => .ok (.ret s) e
def sFr (t : Tg) (it : IDen) (b : SDen) : SDen := fun e => (it e).bind fun xs e => forL t b xs e
def sDel (i : Nat) (k : ODen) : SDen := fun e => (k e).bind fun x e => match x.at e with
  | some w => match getE e i with
    | .od kvs => match kindOk (kvs.map (·.1)) w && dhas kvs w with
      | true => .ok .nx (setE e i (.od (ddel kvs w)))
      | false => .bad 32
    | _ => .bad 32
  | none => .bad 620
/-- i.setdefault(k, {})[l] = e -/
def sSdef (i : Nat) (k l : ODen) (d : Den) : SDen := fun e => (d e).bind fun r e => (k e).bind fun x e => (l e).bind fun y e => match x.at e with
  | some w => match y.at e with
    | some u => match getE e i with
      | .od kvs => match kindOk (kvs.map (·.1)) w with
        | true => match dgetS kvs w with
          | some (.od ls) => match dput ls u r with
            | some ls => .ok .nx (setE e i (.od (drep kvs w (.od ls))))
            | none => .bad 42
          | some _ => .bad 42
          | none => match dput [] u r with
            | some ls => .ok .nx (setE e i (.od (kvs ++ [(w, .od ls)])))
            | none => .bad 42
        | false => .bad 42
      | _ => .bad 42
    | none => .bad 621
  | none => .bad 622
def sBrk : SDen := fun e => .ok .brk e
def sCnt : SDen := fun e => .ok .cnt e
def sPas : SDen := fun e => .ok .nx e
/-- a def: how many parameters, how many names, the parameters that are stored to, the body -/
structure FD where
  np : Nat
  ns : Nat
  rp : List Nat
  body : Callee → SDen
/-- what the parameters hold behind the call: one that is stored to was a plain value -/
def outsOf (rp : List Nat) : Nat → List SV → List SV → List SV
  | i, s :: ss, x :: e => (match rp.any (Nat.beq i) with
    | true => s
    | false => x) :: outsOf rp (i + 1) ss e
  | _, _, _ => []
def plainAt (rp : List Nat) : Nat → List SV → Bool
  | _, [] => true
  | i, s :: ss => (match rp.any (Nat.beq i) with
    | true => s.isF
    | false => true) && plainAt rp (i + 1) ss
/-- what the caller gets -/
def ended (d : FD) (ss : List SV) : Res Fl → Res (SV × List SV)
  | .ok f e => match f with
    | .ret s => .ok (s, outsOf d.rp 0 ss e) []
    | .nx => .ok (.fz .non, outsOf d.rp 0 ss e) []
    | _ => .bad 34
  | .exc c fs e => .exc c fs (outsOf d.rp 0 ss e)
  | .ask n k => .ask n fun i => ended d ss (k i)
  | .bad m => .bad m
/-- a script: whole numbers, not too many -/
def scOk : IV → Bool
  | .lst xs => Nat.blt xs.length 1000 && xs.all fun x => match x with
    | .int _ => true
    | _ => false
  | _ => false
/-- the number of the next draw -/
def takeN (vs : List SV) : Res (SV × List SV) := match vs with
  | [.ol [.fz s, .fz (.int i)], .fz (.int (.ofNat (n + 1)))] => match scOk s with
    | true => .ask (n + 1) fun r => .ok (.fz (.int r), [.ol [.fz s, .fz (.int (i + 1))], .fz (.int (.ofNat (n + 1)))]) []
    | false => .bad 36
  | _ => .bad 36
def callN (F : List FD) (takeF : Nat) : Nat → Callee
  | 0 => fun _ _ => .bad 35
  | k + 1 => fun f vs => match Nat.beq f takeF with
    | true => match k with
      | 0 => .bad 36
      | _ + 1 => takeN vs
    | false => match F[f]? with
      | none => .bad 37
      | some d => match Nat.beq vs.length d.np && plainAt d.rp 0 vs with
        | true => ended d vs (d.body (callN F takeF k) (vs ++ List.replicate (d.ns - d.np) .und))
        | false => .bad 38
def check : Nat → Res (SV × List SV) → Bool
  | _, .ok (.fz (.bl true), _) _ => true
  | d + 1, .ask n k => (List.range n).all fun i => check d (k i)
  | _, _ => false
def lead : Res (SV × List SV) → List Nat → Nat × String
  | .ok (.fz (.bl b), _) _, _ => (0, toString b)
  | .ok _ _, _ => (0, "?")
  | .exc c _ _, _ => (c, "exc")
  | .bad m, _ => (m, "bad")
  | .ask n _, [] => (n, "ask")
  | .ask _ k, c :: cs => lead (k c) cs
end Vy

end
section
set_option maxRecDepth 100000
set_option maxHeartbeats 2000000
/-! What the evaluator's values stand for in the hand layer's abstract heap. -/
namespace Vy
open PySem L2
/-- a lambda that the frame makes: its words, the cells that it sees -/
structure LamD where
  q : Str
  ps : Arguments
  bd : Expr
  sc : Scope
  cl : List (Str × Addr)
/-- the function object of a lambda -/
def LamO (f : Addr) (L : LamD) (c : Addr) : HO := .ext fun h => ∃ pm ctv : Value, h.get? f = some (PySem.W.kla_obj "<lambda>" L.q L.ps L.bd L.sc L.cl pm c ctv)
/-- what the text's numbers stand for -/
structure Names where
  P : PySem.Program
  w : PySem.World
  K : PySem.W.Frag
  fn : Nat → Addr
  cl : Nat → Addr
  at_ : Nat → Str
  nc : Nat
  tP : Addr := 0
  tq : Str := ""
  lm : Nat → LamD := fun _ => ⟨"", ⟨[], [], none, [], [], none, []⟩, .Name "" ⟨0, 0, 0, 0⟩, ⟨.function, [], false, false, []⟩, []⟩
/-- the built-in types that are named -/
def tyName : Nat → String
  | 0 => "int"
  | 1 => "bool"
  | 2 => "str"
  | 3 => "tuple"
  | 4 => "list"
  | 5 => "dict"
  | _ => "object"
/-- keys -/
def keyOf : IV → Option Key
  | .int i => some (.inl i)
  | .str s => some (.inr (strOf s))
  | _ => none
def keysOf : List IV → Option (List Key)
  | [] => some []
  | x :: xs => match keyOf x, keysOf xs with
    | some k, some ks => some (k :: ks)
    | _, _ => none
mutual
def nkeyOf : IV → Option NestedKey
  | .non => some .none
  | .bl b => some (.num (b2i b))
  | .int i => some (.num i)
  | .str s => some (.text (strOf s))
  | .tup xs => (nkeysOf xs).map .tup
  | _ => none
def nkeysOf : List IV → Option (List NestedKey)
  | [] => some []
  | x :: xs => match nkeyOf x, nkeysOf xs with
    | some k, some ks => some (k :: ks)
    | _, _ => none
end
/-- a key of tuples that may be one -/
def nkOk (k : IV) (κ : NestedKey) : Prop := nkeyOf k = some κ ∧ κ.depth ≤ 8
abbrev NRow := NestedKey × Addr × V
/-- a dict at a whose keys are tuples: told of its own object alone -/
def nD (P : PySem.Program) (w : PySem.World) (a : Addr) (kvs : List NRow) : Heap → Prop := fun h =>
  (a == sysModules) = false ∧ kvs.length ≤ sizeLine ∧ ∃ xs : List (NestedKey × Addr × Value), Paired (fun p q => p.1 = q.1 ∧ p.2.1 = q.2.1 ∧ RelV p.2.2 q.2.2) kvs xs ∧
    ∃ o es ep, h.get? a = some o ∧ o.ExactDict ∧ o.data = .dict es ep ∧ es.toList = xs.map (entryOfKey (nestedKind P w)) ∧ (xs.map (·.1)).Nodup
def dN (Y : Names) (a : Addr) (kvs : List NRow) : HO := .ext (nD Y.P Y.w a kvs)
mutual
def RF (Y : Names) (h : Hp) : IV → V → Prop
  | .non, x => x = .non
  | .bl b, x => x = .bl b
  | .int i, x => x = .int i
  | .str s, x => x = .str (strOf s)
  | .tup xs, x => ∃ a vs, x = .ref a ∧ SqT Y.K h a vs ∧ RFL Y h xs vs
  | .lst xs, x => ∃ a vs, x = .ref a ∧ Rd h a (.lst vs) ∧ RFL Y h xs vs
  | .dct kvs, x => ∃ a, x = .ref a ∧ ((∃ ps, Rd h a (.dK ps) ∧ RFD Y h kvs ps) ∨ ∃ ps, Rd h a (dN Y a ps) ∧ RFT Y h kvs ps)
  | .ins c fs, x => ∃ a dx ps, x = .ref a ∧ c < Y.nc ∧ h a = some (.ins (Y.cl c) dx ps) ∧ h dx = some (.own a) ∧ RFF Y h fs ps
  | .fn f, x => x = .ref (Y.fn f)
  | .cls c, x => x = .ref (Y.cl c) ∧ c < Y.nc
  | .ty n, x => x = .ty (tyName n)
  | .lam n, x => ∃ f c, x = .ref f ∧ Rd h f (LamO f (Y.lm n) c) ∧ Rd h c (LamX.CodeO c (Y.lm n).q)
def RFL (Y : Names) (h : Hp) : List IV → List V → Prop
  | [], vs => vs = []
  | x :: xs, vs => ∃ v vr, vs = v :: vr ∧ RF Y h x v ∧ RFL Y h xs vr
def RFD (Y : Names) (h : Hp) : List (IV × IV) → List (Key × V) → Prop
  | [], ps => ps = []
  | (k, x) :: xs, ps => ∃ κ v pr, ps = (κ, v) :: pr ∧ keyOf k = some κ ∧ RF Y h x v ∧ RFD Y h xs pr
def RFT (Y : Names) (h : Hp) : List (IV × IV) → List NRow → Prop
  | [], ps => ps = []
  | (k, x) :: xs, ps => ∃ κ b v pr, ps = (κ, b, v) :: pr ∧ nkOk k κ ∧ RF Y h k (.ref b) ∧ RF Y h x v ∧ RFT Y h xs pr
def RFF (Y : Names) (h : Hp) : List (Nat × IV) → List (Str × V) → Prop
  | [], ps => ps = []
  | (k, x) :: xs, ps => ∃ v pr, ps = (Y.at_ k, v) :: pr ∧ RF Y h x v ∧ RFF Y h xs pr
end
mutual
/-- A: the addresses of what is owned within -/
def RS (Y : Names) (H h : Hp) : SV → V → List Addr → Prop
  | .und, _, _ => False
  | .fz v, x, A => A = [] ∧ RF Y h v x
  | .ol xs, x, A => ∃ a vs B, x = .ref a ∧ A = a :: B ∧ H a = some (.lst vs) ∧ RSL Y H h xs vs B
  | .od kvs, x, A => ∃ a B, x = .ref a ∧ A = a :: B ∧ ((∃ ps, H a = some (.dK ps) ∧ RSD Y H h kvs ps B) ∨ ∃ ps, H a = some (dN Y a ps) ∧ RST Y H h kvs ps B)
  | .oi c fs, x, A => ∃ a dx ps B, x = .ref a ∧ A = a :: dx :: B ∧ c < Y.nc ∧ H a = some (.ins (Y.cl c) dx ps) ∧ H dx = some (.own a) ∧ RSF Y H h fs ps B
  | .tb, x, A => ∃ ps : Array Value, x = .non ∧ A = [Y.tP] ∧ H Y.tP = some (.tbl ps) ∧ TriplesOk ps.toList ∧ ∀ (pos : Pos) (cv : Value), codeAmong pos ps.toList = some cv → ∃ c, cv = .ref c ∧ Rd h c (LamX.CodeO c Y.tq)
def RSL (Y : Names) (H h : Hp) : List SV → List V → List Addr → Prop
  | [], vs, A => vs = [] ∧ A = []
  | x :: xs, vs, A => ∃ v vr B C, vs = v :: vr ∧ A = B ++ C ∧ RS Y H h x v B ∧ RSL Y H h xs vr C
def RSD (Y : Names) (H h : Hp) : List (IV × SV) → List (Key × V) → List Addr → Prop
  | [], ps, A => ps = [] ∧ A = []
  | (k, x) :: xs, ps, A => ∃ κ v pr B C, ps = (κ, v) :: pr ∧ A = B ++ C ∧ keyOf k = some κ ∧ RS Y H h x v B ∧ RSD Y H h xs pr C
def RST (Y : Names) (H h : Hp) : List (IV × SV) → List NRow → List Addr → Prop
  | [], ps, A => ps = [] ∧ A = []
  | (k, x) :: xs, ps, A => ∃ κ b v pr B C, ps = (κ, b, v) :: pr ∧ A = B ++ C ∧ nkOk k κ ∧ RF Y h k (.ref b) ∧ RS Y H h x v B ∧ RST Y H h xs pr C
def RSF (Y : Names) (H h : Hp) : List (Nat × SV) → List (Str × V) → List Addr → Prop
  | [], ps, A => ps = [] ∧ A = []
  | (k, x) :: xs, ps, A => ∃ v pr B C, ps = (Y.at_ k, v) :: pr ∧ A = B ++ C ∧ RS Y H h x v B ∧ RSF Y H h xs pr C
end
/-! ### order of heaps -/
def plainO : HO → Prop
  | .frz _ _ => False
  | _ => True
/-- all that may be read in the one may be read in the other -/
def Le (h h' : Hp) : Prop := ∀ a u, plainO u → Rd h a u → Rd h' a u
theorem Le.refl (h : Hp) : Le h h := fun _ _ _ r => r
theorem Le.trans {h h1 h2 : Hp} (a : Le h h1) (b : Le h1 h2) : Le h h2 := fun c u p r => b c u p (a c u p r)
/-- exactly the same, and more -/
def Sub (h h' : Hp) : Prop := ∀ a o, h a = some o → h' a = some o
theorem Sub.le {h h' : Hp} (s : Sub h h') : Le h h' := fun a u _ r => by
  rcases r with r | ⟨o, r⟩
  · exact .inl (s _ _ r)
  · exact .inr ⟨o, s _ _ r⟩
theorem Sub.refl (h : Hp) : Sub h h := fun _ _ r => r
theorem Sub.trans {h h1 h2 : Hp} (a : Sub h h1) (b : Sub h1 h2) : Sub h h2 := fun c o r => b c o (a c o r)
theorem Sub.new {h : Hp} {a : Addr} {o : HO} (n : h a = none) : Sub h (upd h a o) := fun b u e => by
  rw [upd_ne (ne_of_none e n)]; exact e
/-- instances are never locked -/
def Ins (h h' : Hp) : Prop := ∀ a, (∀ C dx ps, h a = some (.ins C dx ps) → h' a = some (.ins C dx ps)) ∧ ∀ x, h a = some (.own x) → h' a = some (.own x)
/-- the order that values follow -/
structure Up (h h' : Hp) : Prop where
  le : Le h h'
  ins : Ins h h'
  dom : ∀ a, h a ≠ none → h' a ≠ none
theorem Up.refl (h : Hp) : Up h h := ⟨.refl h, fun _ => ⟨fun _ _ _ r => r, fun _ r => r⟩, fun _ z => z⟩
theorem Up.trans {h h1 h2 : Hp} (a : Up h h1) (b : Up h1 h2) : Up h h2 := ⟨a.le.trans b.le, fun c => ⟨fun C dx ps r => (b.ins c).1 _ _ _ ((a.ins c).1 _ _ _ r), fun x r => (b.ins c).2 _ ((a.ins c).2 _ r)⟩, fun c z => b.dom c (a.dom c z)⟩
theorem Sub.up {h h' : Hp} (s : Sub h h') : Up h h' := ⟨s.le, fun a => ⟨fun _ _ _ r => s _ _ r, fun _ r => s _ _ r⟩, fun a z => by
  cases q : h a with
  | none => exact absurd q z
  | some o => rw [s a o q]; exact fun w => nomatch w⟩
theorem Le.sqT {K : PySem.W.Frag} {h h' : Hp} {a : Addr} {xs : List V} (l : Le h h') (s : SqT K h a xs) : SqT K h' a xs := by
  rcases s with s | s
  · exact .inl (l _ _ True.intro s)
  · exact .inr s
mutual
theorem RF.up {Y : Names} {h h' : Hp} (u : Up h h') : ∀ (x : IV) {v : V}, RF Y h x v → RF Y h' x v
  | .non, _, r => r
  | .bl _, _, r => r
  | .int _, _, r => r
  | .str _, _, r => r
  | .tup xs, _, ⟨a, vs, e, s, r⟩ => ⟨a, vs, e, u.le.sqT s, RFL.up u xs r⟩
  | .lst xs, _, ⟨a, vs, e, s, r⟩ => ⟨a, vs, e, u.le _ _ True.intro s, RFL.up u xs r⟩
  | .dct kvs, _, ⟨a, e, r⟩ => ⟨a, e, r.imp (fun ⟨ps, s, r⟩ => ⟨ps, u.le _ _ True.intro s, RFD.up u kvs r⟩) fun ⟨ps, s, r⟩ => ⟨ps, u.le _ _ True.intro s, RFT.up u kvs r⟩⟩
  | .ins c fs, _, ⟨a, dx, ps, e, nc, s, s2, r⟩ => ⟨a, dx, ps, e, nc, (u.ins a).1 _ _ _ s, (u.ins dx).2 _ s2, RFF.up u fs r⟩
  | .fn _, _, r => r
  | .cls _, _, r => r
  | .ty _, _, r => r
  | .lam _, _, ⟨f, c, e, r1, r2⟩ => ⟨f, c, e, u.le _ _ True.intro r1, u.le _ _ True.intro r2⟩
theorem RFL.up {Y : Names} {h h' : Hp} (u : Up h h') : ∀ (xs : List IV) {vs : List V}, RFL Y h xs vs → RFL Y h' xs vs
  | [], _, r => r
  | x :: xs, _, ⟨v, vr, e, r1, r2⟩ => ⟨v, vr, e, RF.up u x r1, RFL.up u xs r2⟩
theorem RFD.up {Y : Names} {h h' : Hp} (u : Up h h') : ∀ (xs : List (IV × IV)) {vs : List (Key × V)}, RFD Y h xs vs → RFD Y h' xs vs
  | [], _, r => r
  | (k, x) :: xs, _, ⟨κ, v, vr, e, q, r1, r2⟩ => ⟨κ, v, vr, e, q, RF.up u x r1, RFD.up u xs r2⟩
theorem RFT.up {Y : Names} {h h' : Hp} (u : Up h h') : ∀ (xs : List (IV × IV)) {vs : List NRow}, RFT Y h xs vs → RFT Y h' xs vs
  | [], _, r => r
  | (k, x) :: xs, _, ⟨κ, b, v, vr, e, q, rk, r1, r2⟩ => ⟨κ, b, v, vr, e, q, RF.up u k rk, RF.up u x r1, RFT.up u xs r2⟩
theorem RFF.up {Y : Names} {h h' : Hp} (u : Up h h') : ∀ (xs : List (Nat × IV)) {vs : List (Str × V)}, RFF Y h xs vs → RFF Y h' xs vs
  | [], _, r => r
  | (k, x) :: xs, _, ⟨v, vr, e, r1, r2⟩ => ⟨v, vr, e, RF.up u x r1, RFF.up u xs r2⟩
end
mutual
/-- what is owned stands as it is while its own addresses do -/
theorem RS.up {Y : Names} {H H' h h' : Hp} (u : Up h h') : ∀ (s : SV) {x : V} {A : List Addr}, RS Y H h s x A → (∀ a ∈ A, H' a = H a) → RS Y H' h' s x A
  | .und, _, _, r, _ => r
  | .fz v, _, _, ⟨e, r⟩, _ => ⟨e, RF.up u v r⟩
  | .ol xs, _, _, ⟨a, vs, B, e, eA, q, r⟩, k => by
    subst eA
    exact ⟨a, vs, B, e, rfl, (k a List.mem_cons_self).trans q, RSL.up u xs r fun b hb => k b (List.mem_cons_of_mem _ hb)⟩
  | .od kvs, _, _, ⟨a, B, e, eA, r⟩, k => by
    subst eA
    refine ⟨a, B, e, rfl, r.imp (fun ⟨ps, q, r⟩ => ⟨ps, (k a List.mem_cons_self).trans q, RSD.up u kvs r fun b hb => k b (List.mem_cons_of_mem _ hb)⟩) fun ⟨ps, q, r⟩ => ⟨ps, (k a List.mem_cons_self).trans q, RST.up u kvs r fun b hb => k b (List.mem_cons_of_mem _ hb)⟩⟩
  | .oi c fs, _, _, ⟨a, dx, ps, B, e, eA, nc, q, q2, r⟩, k => by
    subst eA
    exact ⟨a, dx, ps, B, e, rfl, nc, (k a List.mem_cons_self).trans q, (k dx (List.mem_cons_of_mem _ List.mem_cons_self)).trans q2, RSF.up u fs r fun b hb => k b (List.mem_cons_of_mem _ (List.mem_cons_of_mem _ hb))⟩
  | .tb, _, _, ⟨ps, e, eA, q, tr, r⟩, k => by
    subst eA
    refine ⟨ps, e, rfl, (k _ List.mem_cons_self).trans q, tr, fun pos cv h => ?_⟩
    obtain ⟨c, e1, e2⟩ := r pos cv h
    exact ⟨c, e1, u.le _ _ True.intro e2⟩
theorem RSL.up {Y : Names} {H H' h h' : Hp} (u : Up h h') : ∀ (xs : List SV) {vs : List V} {A : List Addr}, RSL Y H h xs vs A → (∀ a ∈ A, H' a = H a) → RSL Y H' h' xs vs A
  | [], _, _, r, _ => r
  | s :: xs, _, _, ⟨v, vr, B, C, e, eA, r1, r2⟩, k => by
    subst eA
    exact ⟨v, vr, B, C, e, rfl, RS.up u s r1 fun b hb => k b (List.mem_append_left _ hb), RSL.up u xs r2 fun b hb => k b (List.mem_append_right _ hb)⟩
theorem RSD.up {Y : Names} {H H' h h' : Hp} (u : Up h h') : ∀ (xs : List (IV × SV)) {vs : List (Key × V)} {A : List Addr}, RSD Y H h xs vs A → (∀ a ∈ A, H' a = H a) → RSD Y H' h' xs vs A
  | [], _, _, r, _ => r
  | (_, s) :: xs, _, _, ⟨κ, v, vr, B, C, e, eA, q, r1, r2⟩, k => by
    subst eA
    exact ⟨κ, v, vr, B, C, e, rfl, q, RS.up u s r1 fun b hb => k b (List.mem_append_left _ hb), RSD.up u xs r2 fun b hb => k b (List.mem_append_right _ hb)⟩
theorem RST.up {Y : Names} {H H' h h' : Hp} (u : Up h h') : ∀ (xs : List (IV × SV)) {vs : List NRow} {A : List Addr}, RST Y H h xs vs A → (∀ a ∈ A, H' a = H a) → RST Y H' h' xs vs A
  | [], _, _, r, _ => r
  | (ky, s) :: xs, _, _, ⟨κ, b, v, vr, B, C, e, eA, q, rk, r1, r2⟩, k => by
    subst eA
    exact ⟨κ, b, v, vr, B, C, e, rfl, q, RF.up u ky rk, RS.up u s r1 fun b hb => k b (List.mem_append_left _ hb), RST.up u xs r2 fun b hb => k b (List.mem_append_right _ hb)⟩
theorem RSF.up {Y : Names} {H H' h h' : Hp} (u : Up h h') : ∀ (xs : List (Nat × SV)) {vs : List (Str × V)} {A : List Addr}, RSF Y H h xs vs A → (∀ a ∈ A, H' a = H a) → RSF Y H' h' xs vs A
  | [], _, _, r, _ => r
  | (_, s) :: xs, _, _, ⟨v, vr, B, C, e, eA, r1, r2⟩, k => by
    subst eA
    exact ⟨v, vr, B, C, e, rfl, RS.up u s r1 fun b hb => k b (List.mem_append_left _ hb), RSF.up u xs r2 fun b hb => k b (List.mem_append_right _ hb)⟩
end
end Vy

end
section
set_option maxRecDepth 100000
set_option maxHeartbeats 2000000
/-! States, what may follow a state, weakest preconditions of results, readings. -/
namespace Vy
open PySem L2
/-! ### results -/
def wpR {α : Type} : Res α → (α → Env → Prop) → (Nat → List (Nat × IV) → Env → Prop) → Prop
  | .ok a e, Q, _ => Q a e
  | .exc c fs e, _, E => E c fs e
  | .ask n k, Q, E => ∀ i, i < n → wpR (k i) Q E
  | .bad _, _, _ => False
theorem wpR_bind {α β : Type} {r : Res α} {f : α → Env → Res β} {Q : β → Env → Prop} {E : Nat → List (Nat × IV) → Env → Prop} : wpR (r.bind f) Q E ↔ wpR r (fun a e => wpR (f a e) Q E) E := by
  induction r with
  | ok a e => exact Iff.rfl
  | exc c fs e => exact Iff.rfl
  | ask n k ih => exact ⟨fun h i hi => (ih i).mp (h i hi), fun h i hi => (ih i).mpr (h i hi)⟩
  | bad m => exact Iff.rfl
theorem wpR_mono {α : Type} {r : Res α} {Q Q' : α → Env → Prop} {E E' : Nat → List (Nat × IV) → Env → Prop} (h : wpR r Q E) (hQ : ∀ a e, Q a e → Q' a e) (hE : ∀ c fs e, E c fs e → E' c fs e) : wpR r Q' E' := by
  induction r with
  | ok a e => exact hQ _ _ h
  | exc c fs e => exact hE _ _ _ h
  | ask n k ih => exact fun i hi => ih i (h i hi)
  | bad m => exact h
theorem wpR_retO {α : Type} {o : Option α} {e : Env} {m : Nat} {Q : α → Env → Prop} {E : Nat → List (Nat × IV) → Env → Prop} : wpR (retO o e m) Q E ↔ ∃ a, o = some a ∧ Q a e := by
  cases o with
  | none => exact ⟨fun h => h.elim, fun ⟨_, h, _⟩ => nomatch h⟩
  | some a => exact ⟨fun h => ⟨a, rfl, h⟩, fun ⟨_, h, q⟩ => by cases h; exact q⟩
/-! ### from owned to plain -/
theorem Up.of_sub {h h' : Hp} (s : Sub h h') : Up h h' := s.up
mutual
theorem RS.frz {Y : Names} {H h h' : Hp} (u : Up h h') : ∀ (s : SV) {x : V} {A : List Addr}, RS Y H h s x A → (∀ a ∈ A, h' a = H a) → RF Y h' s.frz x
  | .und, _, _, r, _ => r.elim
  | .fz v, _, _, ⟨_, r⟩, _ => RF.up u v r
  | .ol xs, _, _, ⟨a, vs, B, e, eA, q, r⟩, k => by
    subst eA
    exact ⟨a, vs, e, .inl ((k a List.mem_cons_self).trans q), RSL.frz u xs r fun b hb => k b (List.mem_cons_of_mem _ hb)⟩
  | .od kvs, _, _, ⟨a, B, e, eA, r⟩, k => by
    subst eA
    refine ⟨a, e, r.imp (fun ⟨ps, q, r⟩ => ⟨ps, .inl ((k a List.mem_cons_self).trans q), RSD.frz u kvs r fun b hb => k b (List.mem_cons_of_mem _ hb)⟩) fun ⟨ps, q, r⟩ => ⟨ps, .inl ((k a List.mem_cons_self).trans q), RST.frz u kvs r fun b hb => k b (List.mem_cons_of_mem _ hb)⟩⟩
  | .oi c fs, _, _, ⟨a, dx, ps, B, e, eA, nc, q, q2, r⟩, k => by
    subst eA
    exact ⟨a, dx, ps, e, nc, (k a List.mem_cons_self).trans q, (k dx (List.mem_cons_of_mem _ List.mem_cons_self)).trans q2, RSF.frz u fs r fun b hb => k b (List.mem_cons_of_mem _ (List.mem_cons_of_mem _ hb))⟩
  | .tb, _, _, ⟨_, e, _⟩, _ => e
theorem RSL.frz {Y : Names} {H h h' : Hp} (u : Up h h') : ∀ (xs : List SV) {vs : List V} {A : List Addr}, RSL Y H h xs vs A → (∀ a ∈ A, h' a = H a) → RFL Y h' (SV.frzL xs) vs
  | [], _, _, ⟨e, _⟩, _ => e
  | s :: xs, _, _, ⟨v, vr, B, C, e, eA, r1, r2⟩, k => by
    subst eA
    exact ⟨v, vr, e, RS.frz u s r1 fun b hb => k b (List.mem_append_left _ hb), RSL.frz u xs r2 fun b hb => k b (List.mem_append_right _ hb)⟩
theorem RSD.frz {Y : Names} {H h h' : Hp} (u : Up h h') : ∀ (xs : List (IV × SV)) {vs : List (Key × V)} {A : List Addr}, RSD Y H h xs vs A → (∀ a ∈ A, h' a = H a) → RFD Y h' (SV.frzD xs) vs
  | [], _, _, ⟨e, _⟩, _ => e
  | (_, s) :: xs, _, _, ⟨κ, v, vr, B, C, e, eA, q, r1, r2⟩, k => by
    subst eA
    exact ⟨κ, v, vr, e, q, RS.frz u s r1 fun b hb => k b (List.mem_append_left _ hb), RSD.frz u xs r2 fun b hb => k b (List.mem_append_right _ hb)⟩
theorem RST.frz {Y : Names} {H h h' : Hp} (u : Up h h') : ∀ (xs : List (IV × SV)) {vs : List NRow} {A : List Addr}, RST Y H h xs vs A → (∀ a ∈ A, h' a = H a) → RFT Y h' (SV.frzD xs) vs
  | [], _, _, ⟨e, _⟩, _ => e
  | (ky, s) :: xs, _, _, ⟨κ, b, v, vr, B, C, e, eA, q, rk, r1, r2⟩, k => by
    subst eA
    exact ⟨κ, b, v, vr, e, q, RF.up u ky rk, RS.frz u s r1 fun b hb => k b (List.mem_append_left _ hb), RST.frz u xs r2 fun b hb => k b (List.mem_append_right _ hb)⟩
theorem RSF.frz {Y : Names} {H h h' : Hp} (u : Up h h') : ∀ (xs : List (Nat × SV)) {vs : List (Str × V)} {A : List Addr}, RSF Y H h xs vs A → (∀ a ∈ A, h' a = H a) → RFF Y h' (SV.frzF xs) vs
  | [], _, _, ⟨e, _⟩, _ => e
  | (_, s) :: xs, _, _, ⟨v, vr, B, C, e, eA, r1, r2⟩, k => by
    subst eA
    exact ⟨v, vr, e, RS.frz u s r1 fun b hb => k b (List.mem_append_left _ hb), RSF.frz u xs r2 fun b hb => k b (List.mem_append_right _ hb)⟩
end
/-- what is owned at A is let go -/
def hidA (H h : Hp) (A : List Addr) : Hp := fun b => if b ∈ A then H b else h b
theorem hidA_in {H h : Hp} {A : List Addr} {b : Addr} (e : b ∈ A) : hidA H h A b = H b := if_pos e
theorem hidA_out {H h : Hp} {A : List Addr} {b : Addr} (e : b ∉ A) : hidA H h A b = h b := if_neg e
theorem hidA_sub {H h : Hp} {A : List Addr} (n : ∀ a ∈ A, h a = none) : Sub h (hidA H h A) := fun b o e => by
  rw [hidA_out fun z => by rw [n b z] at e; cases e]
  exact e
theorem hidA_nil {H h : Hp} : hidA H h [] = h := by
  funext b
  exact hidA_out (by simp)
theorem RS.let {Y : Names} {H h : Hp} {s : SV} {x : V} {A : List Addr} (r : RS Y H h s x A) (n : ∀ a ∈ A, h a = none) : RF Y (hidA H h A) s.frz x :=
  RS.frz (hidA_sub n).up s r fun a ha => hidA_in ha
/-! ### states -/
abbrev Fp := Nat → List Addr
/-- the names' values by the evaluator's env; h: what nobody changes any more; F: what each name owns -/
structure St (Y : Names) (H h : Hp) (σ : L2.St) (e : Env) (F : Fp) : Prop where
  len : σ.length = e.length
  rel : ∀ i s, e[i]? = some s → (s = .und ∧ F i = []) ∨ ∃ x, σ[i]? = some (some x) ∧ RS Y H h s x (F i)
  out : ∀ i, e.length ≤ i → F i = []
  nd : ∀ i, (F i).Nodup
  dj : ∀ i j, i ≠ j → ∀ a ∈ F i, a ∉ F j
  hd : ∀ i, ∀ a ∈ F i, h a = none
  le : Up h H
def isDct : HO → Prop
  | .dK _ => True
  | .ext _ => True
  | _ => False
/-- the same, or locked -/
def Kp (o : HO) (u : Option HO) (known : Prop) : Prop := u = some o ∨ (known ∧ ∃ ob, u = some (.frz ob o) ∧ isDct o)
theorem Kp.some {o : HO} {u : Option HO} {p : Prop} (k : Kp o u p) : ∃ o', u = some o' := by
  rcases k with k | ⟨_, ob, k, _⟩
  · exact ⟨_, k⟩
  · exact ⟨_, k⟩
/-- what may come behind a state -/
structure Go (H h : Hp) (F : Fp) (H' h' : Hp) (F' : Fp) : Prop where
  keep : ∀ a o, H a = some o → (∀ i, a ∉ F i) → Kp o (H' a) (h' a ≠ none)
  up : Up h h'
  nh : ∀ a, h' a ≠ none → h a ≠ none ∨ H a = none ∨ ∃ i, a ∈ F i
  nf : ∀ a i, a ∈ F' i → H a = none ∨ ∃ j, a ∈ F j
theorem Go.refl {H h : Hp} {F : Fp} : Go H h F H h F := ⟨fun _ o e _ => .inl e, .refl h, fun _ e => .inl e, fun _ i e => .inr ⟨i, e⟩⟩
theorem Go.trans {H h H1 h1 H2 h2 : Hp} {F F1 F2 : Fp} (a : Go H h F H1 h1 F1) (b : Go H1 h1 F1 H2 h2 F2) : Go H h F H2 h2 F2 where
  keep := fun c o e n => by
    have nb : ∀ i, c ∉ F1 i := fun i z => by
      rcases a.nf c i z with q | ⟨j, q⟩
      · rw [q] at e; cases e
      · exact n j q
    rcases a.keep c o e n with k | ⟨kn, ob, k, d⟩
    · exact b.keep c o k nb
    · rcases b.keep c _ k nb with k2 | ⟨_, _, _, d2⟩
      · exact .inr ⟨b.up.dom c kn, ob, k2, d⟩
      · exact d2.elim
  up := a.up.trans b.up
  nh := fun c z => by
    rcases b.nh c z with q | q | ⟨i, q⟩
    · exact a.nh c q
    · by_cases w : ∃ j, c ∈ F j
      · exact .inr (.inr w)
      · refine .inr (.inl ?_)
        cases e : H c with
        | none => rfl
        | some o =>
          obtain ⟨o', eo⟩ := (a.keep c o e fun j y => w ⟨j, y⟩).some
          rw [eo] at q
          cases q
    · rcases a.nf c i q with q | q
      · exact .inr (.inl q)
      · exact .inr (.inr q)
  nf := fun c i z => by
    rcases b.nf c i z with q | ⟨j, q⟩
    · by_cases w : ∃ j, c ∈ F j
      · exact .inr w
      · refine .inl ?_
        cases e : H c with
        | none => rfl
        | some o =>
          obtain ⟨o', eo⟩ := (a.keep c o e fun j y => w ⟨j, y⟩).some
          rw [eo] at q
          cases q
    · exact a.nf c j q
/-- what nobody knows stays as it is -/
theorem Go.same {H h H' h' : Hp} {F F' : Fp} (g : Go H h F H' h' F') {a : Addr} {o : HO} (e : H a = some o) (n : ∀ i, a ∉ F i) (z : h a = none) : H' a = some o ∧ h' a = none := by
  have z' : h' a = none := by
    cases q : h' a with
    | none => rfl
    | some u =>
      rcases g.nh a (by rw [q]; exact fun w => nomatch w) with w | w | ⟨i, w⟩
      · exact absurd z w
      · rw [w] at e; cases e
      · exact absurd w (n i)
  rcases g.keep a o e n with k | ⟨kn, _⟩
  · exact ⟨k, z'⟩
  · exact absurd z' kn
/-- what an expression gives: owned by nobody else -/
structure Own (H h H' h' : Hp) (F F' : Fp) (A : List Addr) : Prop where
  nd : A.Nodup
  hd : ∀ a ∈ A, h' a = none
  dj : ∀ a ∈ A, ∀ i, a ∉ F' i
  nf : ∀ a ∈ A, H a = none ∨ ∃ j, a ∈ F j
theorem Own.nil {H h H' h' : Hp} {F F' : Fp} : Own H h H' h' F F' [] := ⟨.nil, fun _ z => absurd z (by simp), fun _ z => absurd z (by simp), fun _ z => absurd z (by simp)⟩
/-! ### readings -/
/-- how an exception lies: class, attributes, its own dict -/
abbrev XR := Hp → Hp → Nat → List (Nat × IV) → Option Addr → Prop
/-- the frame: the text's names, the wish about exceptions -/
structure Fr where
  Y : Names
  W : WX
  xc : Nat → Addr
  xr : XR
  par : Nat → Option V
  ns : Nat
def EXx (R : Fr) (H h : Hp) (F : Fp) (σ : L2.St) : Nat → List (Nat × IV) → Env → Prop := fun c fs e' => ∀ σ' H' h' F' d, (σ' = σ) → Go H h F H' h' F' → St R.Y H' h' σ' e' F' → R.xr H' h' c fs d → R.W (.ref (R.xc c)) d σ' H'
def OKs (R : Fr) (H h : Hp) (F : Fp) (σ : L2.St) (Q : VK) : SV → Env → Prop := fun r e' => ∀ x A H' h' F', Go H h F H' h' F' → St R.Y H' h' σ e' F' → RS R.Y H' h' r x A → Own H h H' h' F F' A → Q x H'
def OKv (R : Fr) (H h : Hp) (F : Fp) (σ : L2.St) (Q : VK) : IV → Env → Prop := fun r e' => ∀ x H' h' F', Go H h F H' h' F' → St R.Y H' h' σ e' F' → RF R.Y h' r x → Q x H'
/-- an expression's reading by the evaluator -/
def tE (R : Fr) (d : Den) : TE := fun σ H Q => ∃ e h F, St R.Y H h σ e F ∧ wpR (d e) (OKs R H h F σ Q) (EXx R H h F σ)
theorem OKs.go {R : Fr} {H h H1 h1 : Hp} {F F1 : Fp} {σ : L2.St} {Q : VK} (g : Go H h F H1 h1 F1) {r : SV} {e : Env} (q : OKs R H h F σ Q r e) : OKs R H1 h1 F1 σ Q r e := fun x A H' h' F' g' s r o =>
  q x A H' h' F' (g.trans g') s r ⟨o.nd, o.hd, o.dj, fun a ha => by
    rcases o.nf a ha with z | ⟨j, z⟩
    · by_cases w : ∃ j, a ∈ F j
      · exact .inr w
      · refine .inl ?_
        cases e : H a with
        | none => rfl
        | some o =>
          obtain ⟨o', eo⟩ := (g.keep a o e fun j y => w ⟨j, y⟩).some
          rw [eo] at z
          cases z
    · exact g.nf a j z⟩
theorem EXx.go {R : Fr} {H h H1 h1 : Hp} {F F1 : Fp} {σ : L2.St} (g : Go H h F H1 h1 F1) {c : Nat} {fs : List (Nat × IV)} {e : Env} (q : EXx R H h F σ c fs e) : EXx R H1 h1 F1 σ c fs e := fun σ' H' h' F' d es g' s x => q σ' H' h' F' d es (g.trans g') s x
/-- weaken a reading -/
theorem pe_weak {X : Cx} {e : Expr} {t t' : TE} (h : PE X e t) (i : ∀ σ H Q, t' σ H Q → t σ H Q) : PE X e t' := ⟨fun pins s σ H Q I q => h.run pins s σ H Q I (i σ H Q q)⟩
theorem pt_weak {X : Cx} {e : Expr} {t t' : TT} (h : PT X e t) (i : ∀ σ H Q, t' σ H Q → t σ H Q) : PT X e t' := ⟨fun pins s σ H Q I q => h.run pins s σ H Q I (i σ H Q q)⟩
theorem pw_weak {X : Cx} {e : Expr} {t t' : TT} (h : PW X e t) (i : ∀ σ H Q, t' σ H Q → t σ H Q) : PW X e t' := ⟨fun w pins s σ H Q I q => h.run w pins s σ H Q I (i σ H Q q)⟩
theorem pa_weak {X : Cx} {e : List Expr} {t t' : TA} (h : PA X e t) (i : ∀ σ H Q, t' σ H Q → t σ H Q) : PA X e t' := ⟨fun w pins s σ H Q I q => h.run w pins s σ H Q I (i σ H Q q)⟩
theorem ps_weak {X : Cx} {e : Stmt} {t t' : TS} (h : PS X e t) (i : ∀ D σ H, t' D σ H → t D σ H) : PS X e t' := ⟨fun pins s σ H Q I q => h.run pins s σ H Q I (i Q σ H q)⟩
theorem pss_weak {X : Cx} {e : List Stmt} {t t' : TS} (h : PSs X e t) (i : ∀ D σ H, t' D σ H → t D σ H) : PSs X e t' := ⟨fun pins s σ H Q I q => h.run pins s σ H Q I (i Q σ H q)⟩
/-! ### reading a state -/
section
variable {Y : Names} {H h : Hp} {σ : L2.St} {e : Env} {F : Fp}
theorem getE_some {e : Env} {i : Nat} {s : SV} (q : getE e i = s) (n : s ≠ .und) : e[i]? = some s := by
  unfold getE at q
  cases z : e[i]? with
  | none => rw [z] at q; exact absurd q.symm n
  | some w => rw [z] at q; exact congrArg some q
theorem St.at_ (S : St Y H h σ e F) {i : Nat} {s : SV} (q : getE e i = s) (n : s ≠ .und) : ∃ x, σ[i]? = some (some x) ∧ RS Y H h s x (F i) := by
  rcases S.rel i s (getE_some q n) with ⟨z, _⟩ | z
  · exact absurd z n
  · exact z
/-- a name's own is let go -/
theorem St.letGo (S : St Y H h σ e F) {i : Nat} {s : SV} {x : V} (q : e[i]? = some s) (hx : σ[i]? = some (some x)) (r : RS Y H h s x (F i)) :
    let h' := hidA H h (F i)
    let F' : Fp := fun j => if j = i then [] else F j
    St Y H h' σ (setE e i (.fz s.frz)) F' ∧ Go H h F H h' F' ∧ RF Y h' s.frz x := by
  intro h' F'
  have rf : RF Y h' s.frz x := r.let (S.hd i)
  have us : Sub h h' := hidA_sub (S.hd i)
  have ni : i < e.length := (List.getElem?_eq_some_iff.mp q).1
  have fe : ∀ j, j ≠ i → F' j = F j := fun j z => if_neg z
  have fi : F' i = [] := if_pos rfl
  refine ⟨⟨by simpa [setE] using S.len, fun j t ht => ?_, fun j hj => ?_, fun j => ?_, fun j l hjl a ha => ?_, fun j a ha => ?_, ⟨fun a u p z => ?_, fun a => ⟨fun C dx ps z => ?_, fun y z => ?_⟩, fun a z => ?_⟩⟩, ⟨fun _ o e _ => .inl e, us.up, fun a z => ?_, fun a j z => ?_⟩, rf⟩
  · by_cases hj : j = i
    · subst hj
      rw [show (setE e j (.fz s.frz))[j]? = some (.fz s.frz) from by simp [setE, ni]] at ht
      cases ht
      exact .inr ⟨x, hx, fi, rf⟩
    · rw [show (setE e i (.fz s.frz))[j]? = e[j]? from by simp [setE, List.getElem?_set_ne (Ne.symm hj)]] at ht
      rw [fe j hj]
      rcases S.rel j t ht with z | ⟨y, z1, z2⟩
      · exact .inl z
      · exact .inr ⟨y, z1, RS.up us.up t z2 fun _ _ => rfl⟩
  · by_cases z : j = i
    · rw [z]; exact fi
    · rw [fe j z]; exact S.out j (by simpa [setE] using hj)
  · by_cases z : j = i
    · rw [z, fi]; exact .nil
    · rw [fe j z]; exact S.nd j
  · by_cases z : j = i
    · rw [z, fi] at ha; cases ha
    · rw [fe j z] at ha
      by_cases w : l = i
      · rw [w, fi]; simp
      · rw [fe l w]; exact S.dj j l hjl a ha
  · by_cases z : j = i
    · rw [z, fi] at ha; cases ha
    · rw [fe j z] at ha
      rw [show h' a = h a from hidA_out (S.dj j i z a ha)]
      exact S.hd j a ha
  · by_cases w : a ∈ F i
    · unfold Rd at z ⊢
      rw [show h' a = H a from hidA_in w] at z
      exact z
    · unfold Rd at z
      rw [show h' a = h a from hidA_out w] at z
      exact S.le.le a u p z
  · by_cases w : a ∈ F i
    · rw [show h' a = H a from hidA_in w] at z; exact z
    · rw [show h' a = h a from hidA_out w] at z; exact (S.le.ins a).1 _ _ _ z
  · by_cases w : a ∈ F i
    · rw [show h' a = H a from hidA_in w] at z; exact z
    · rw [show h' a = h a from hidA_out w] at z; exact (S.le.ins a).2 _ z
  · by_cases w : a ∈ F i
    · rw [show h' a = H a from hidA_in w] at z; exact z
    · rw [show h' a = h a from hidA_out w] at z; exact S.le.dom a z
  · by_cases w : a ∈ F i
    · exact .inr (.inr ⟨i, w⟩)
    · rw [show h' a = h a from hidA_out w] at z; exact .inl z
  · by_cases w : j = i
    · rw [w, fi] at z; cases z
    · rw [fe j w] at z; exact .inr ⟨j, z⟩
/-- what an expression gave is let go -/
theorem St.letRes {H0 h0 : Hp} {F0 : Fp} (S : St Y H h σ e F) {r : SV} {x : V} {A : List Addr} (q : RS Y H h r x A) (o : Own H0 h0 H h F0 F A) (hn : ∀ a ∈ A, h0 a = none ∨ True) :
    let h' := hidA H h A
    St Y H h' σ e F ∧ (Go H0 h0 F0 H h F → Go H0 h0 F0 H h' F) ∧ RF Y h' r.frz x := by
  intro h'
  have us : Sub h h' := hidA_sub o.hd
  refine ⟨⟨S.len, fun j t ht => ?_, S.out, S.nd, S.dj, fun j a ha => ?_, ⟨fun a u p z => ?_, fun a => ⟨fun C dx ps z => ?_, fun y z => ?_⟩, fun a z => ?_⟩⟩, fun g => ⟨fun a o e n => (g.keep a o e n).imp id fun ⟨kn, r⟩ => ⟨us.up.dom a kn, r⟩, g.up.trans us.up, fun a z => ?_, g.nf⟩, q.let o.hd⟩
  · rcases S.rel j t ht with z | ⟨y, z1, z2⟩
    · exact .inl z
    · exact .inr ⟨y, z1, RS.up us.up t z2 fun _ _ => rfl⟩
  · rw [show h' a = h a from hidA_out fun w => o.dj a w j ha]
    exact S.hd j a ha
  · by_cases w : a ∈ A
    · unfold Rd at z ⊢
      rw [show h' a = H a from hidA_in w] at z
      exact z
    · unfold Rd at z
      rw [show h' a = h a from hidA_out w] at z
      exact S.le.le a u p z
  · by_cases w : a ∈ A
    · rw [show h' a = H a from hidA_in w] at z; exact z
    · rw [show h' a = h a from hidA_out w] at z; exact (S.le.ins a).1 _ _ _ z
  · by_cases w : a ∈ A
    · rw [show h' a = H a from hidA_in w] at z; exact z
    · rw [show h' a = h a from hidA_out w] at z; exact (S.le.ins a).2 _ z
  · by_cases w : a ∈ A
    · rw [show h' a = H a from hidA_in w] at z; exact z
    · rw [show h' a = h a from hidA_out w] at z; exact S.le.dom a z
  · by_cases w : a ∈ A
    · exact .inr (o.nf a w)
    · rw [show h' a = h a from hidA_out w] at z; exact g.nh a z
end
end Vy

end
section
set_option maxRecDepth 100000
set_option maxHeartbeats 2000000
/-! What operations ask and give; operands. -/
namespace Vy
open PySem L2
/-! ### what is owned is there -/
mutual
theorem RS.dom {Y : Names} {H h : Hp} : ∀ (s : SV) {x : V} {A : List Addr}, RS Y H h s x A → ∀ a ∈ A, H a ≠ none
  | .und, _, _, r, _, _ => r.elim
  | .fz v, _, _, ⟨e, _⟩, a, ha => by rw [e] at ha; cases ha
  | .ol xs, _, _, ⟨b, vs, B, e, eA, q, r⟩, a, ha => by
    subst eA
    rcases List.mem_cons.mp ha with z | z
    · rw [z, q]; exact fun w => nomatch w
    · exact RSL.dom xs r a z
  | .od kvs, _, _, ⟨b, B, e, eA, r⟩, a, ha => by
    subst eA
    rcases List.mem_cons.mp ha with z | z
    · rw [z]
      rcases r with ⟨ps, q, _⟩ | ⟨ps, q, _⟩ <;> (rw [q]; exact fun w => nomatch w)
    · rcases r with ⟨ps, q, r⟩ | ⟨ps, q, r⟩
      · exact RSD.dom kvs r a z
      · exact RST.dom kvs r a z
  | .oi c fs, _, _, ⟨b, dx, ps, B, e, eA, nc, q, q2, r⟩, a, ha => by
    subst eA
    rcases List.mem_cons.mp ha with z | z
    · rw [z, q]; exact fun w => nomatch w
    · rcases List.mem_cons.mp z with z | z
      · rw [z, q2]; exact fun w => nomatch w
      · exact RSF.dom fs r a z
  | .tb, _, _, ⟨ps, e, eA, q, _⟩, a, ha => by
    subst eA
    rw [List.mem_singleton.mp ha, q]
    exact fun w => nomatch w
theorem RSL.dom {Y : Names} {H h : Hp} : ∀ (xs : List SV) {vs : List V} {A : List Addr}, RSL Y H h xs vs A → ∀ a ∈ A, H a ≠ none
  | [], _, _, ⟨_, e⟩, a, ha => by rw [e] at ha; cases ha
  | s :: xs, _, _, ⟨v, vr, B, C, e, eA, r1, r2⟩, a, ha => by
    subst eA
    rcases List.mem_append.mp ha with z | z
    · exact RS.dom s r1 a z
    · exact RSL.dom xs r2 a z
theorem RSD.dom {Y : Names} {H h : Hp} : ∀ (xs : List (IV × SV)) {vs : List (Key × V)} {A : List Addr}, RSD Y H h xs vs A → ∀ a ∈ A, H a ≠ none
  | [], _, _, ⟨_, e⟩, a, ha => by rw [e] at ha; cases ha
  | (_, s) :: xs, _, _, ⟨κ, v, vr, B, C, e, eA, q, r1, r2⟩, a, ha => by
    subst eA
    rcases List.mem_append.mp ha with z | z
    · exact RS.dom s r1 a z
    · exact RSD.dom xs r2 a z
theorem RST.dom {Y : Names} {H h : Hp} : ∀ (xs : List (IV × SV)) {vs : List NRow} {A : List Addr}, RST Y H h xs vs A → ∀ a ∈ A, H a ≠ none
  | [], _, _, ⟨_, e⟩, a, ha => by rw [e] at ha; cases ha
  | (_, s) :: xs, _, _, ⟨κ, b, v, vr, B, C, e, eA, q, rk, r1, r2⟩, a, ha => by
    subst eA
    rcases List.mem_append.mp ha with z | z
    · exact RS.dom s r1 a z
    · exact RST.dom xs r2 a z
theorem RSF.dom {Y : Names} {H h : Hp} : ∀ (xs : List (Nat × SV)) {vs : List (Str × V)} {A : List Addr}, RSF Y H h xs vs A → ∀ a ∈ A, H a ≠ none
  | [], _, _, ⟨_, e⟩, a, ha => by rw [e] at ha; cases ha
  | (_, s) :: xs, _, _, ⟨v, vr, B, C, e, eA, r1, r2⟩, a, ha => by
    subst eA
    rcases List.mem_append.mp ha with z | z
    · exact RS.dom s r1 a z
    · exact RSF.dom xs r2 a z
end
theorem St.dom {Y : Names} {H h : Hp} {σ : L2.St} {e : Env} {F : Fp} (S : St Y H h σ e F) {i : Nat} {a : Addr} (ha : a ∈ F i) : H a ≠ none := by
  cases q : e[i]? with
  | none =>
    rw [S.out i (List.getElem?_eq_none_iff.mp q)] at ha
    cases ha
  | some s =>
    rcases S.rel i s q with ⟨_, z⟩ | ⟨x, _, z⟩
    · rw [z] at ha; cases ha
    · exact RS.dom s z a ha
/-! ### what an operation gives: only new things, nothing changed -/
def Gives (Y : Names) (H h : Hp) (s : SV) (Q : VK) : Prop := ∀ z H' h' A, Sub H H' → Sub h h' → Up h' H' → (∀ a, h' a ≠ none → h a ≠ none ∨ H a = none) → (∀ a ∈ A, H a = none) → (∀ a ∈ A, h' a = none) → A.Nodup → RS Y H' h' s z A → Q z H'
section
variable {Y : Names} {H h : Hp} {σ : L2.St} {e : Env} {F : Fp} {Q : VK}
/-- a state goes along with what is new -/
theorem St.more {H' h' : Hp} (S : St Y H h σ e F) (hH : Sub H H') (hh : Sub h h') (up : Up h' H') (n : ∀ a, h' a ≠ none → h a ≠ none ∨ H a = none) : St Y H' h' σ e F ∧ Go H h F H' h' F := by
  have same : ∀ i, ∀ a ∈ F i, H' a = H a := fun i a ha => by
    cases q : H a with
    | none => exact absurd q (S.dom ha)
    | some o => exact hH a o q
  refine ⟨⟨S.len, fun i s q => ?_, S.out, S.nd, S.dj, fun i a ha => ?_, up⟩, ⟨fun a o q _ => .inl (hH a o q), hh.up, fun a z => ?_, fun a i z => .inr ⟨i, z⟩⟩⟩
  · rcases S.rel i s q with z | ⟨x, z1, z2⟩
    · exact .inl z
    · exact .inr ⟨x, z1, RS.up hh.up s z2 (same i)⟩
  · cases q : h' a with
    | none => rfl
    | some o =>
      rcases n a (by rw [q]; exact fun w => nomatch w) with z | z
      · exact absurd (S.hd i a ha) z
      · exact absurd z (S.dom ha)
  · rcases n a z with z | z
    · exact .inl z
    · exact .inr (.inl z)
theorem gives_of {R : Fr} {s : SV} (S : St R.Y H h σ e F) (q : OKs R H h F σ Q s e) : Gives R.Y H h s Q := fun z H' h' A hH hh up n nA nA' nd r => by
  obtain ⟨S', g⟩ := S.more hH hh up n
  exact q z A H' h' F g S' r ⟨nd, nA', fun a ha i w => S.dom w (nA a ha), fun a ha => .inl (nA a ha)⟩
/-- a plain value that is there -/
theorem Gives.old {v : IV} {z : V} (g : Gives Y H h (.fz v) Q) (up : Up h H) (r : RF Y h v z) : Q z H :=
  g z H h [] (.refl H) (.refl h) up (fun _ z => .inl z) (fun _ z => absurd z (by simp)) (fun _ z => absurd z (by simp)) .nil ⟨rfl, r⟩
theorem upd_up {h H : Hp} (up : Up h H) {p : Addr} {o : HO} (n : H p = none) : Up (upd h p o) (upd H p o) := by
  refine ⟨fun a u pl r => ?_, fun a => ⟨fun C dx ps r => ?_, fun x r => ?_⟩, fun a r => ?_⟩
  · by_cases z : a = p
    · subst z
      unfold Rd at r ⊢
      rw [upd_same] at r
      rw [upd_same]
      exact r
    · unfold Rd at r
      rw [upd_ne z] at r
      rcases up.le a u pl r with q | ⟨ob, q⟩
      · exact .inl (by rw [upd_ne z]; exact q)
      · exact .inr ⟨ob, by rw [upd_ne z]; exact q⟩
  · by_cases z : a = p
    · subst z
      rw [upd_same] at r
      rw [upd_same]
      exact r
    · rw [upd_ne z] at r
      rw [upd_ne z]
      exact (up.ins a).1 _ _ _ r
  · by_cases z : a = p
    · subst z
      rw [upd_same] at r
      rw [upd_same]
      exact r
    · rw [upd_ne z] at r
      rw [upd_ne z]
      exact (up.ins a).2 _ r
  · by_cases z : a = p
    · subst z
      rw [upd_same]
      exact fun w => nomatch w
    · rw [upd_ne z] at r
      rw [upd_ne z]
      exact up.dom a r
theorem Up.fresh {h H : Hp} (up : Up h H) {p : Addr} (n : H p = none) : h p = none := by
  cases q : h p with
  | none => rfl
  | some o => exact absurd n (up.dom p (by rw [q]; exact fun w => nomatch w))
end
end Vy

end
section
set_option maxRecDepth 100000
set_option maxHeartbeats 2000000
/-! Operands; names, constants; operators. -/
namespace Vy
open PySem L2
/-- what an operand that is looked at stands for: its own top may be owned, all within is plain -/
def Top (Y : Names) (H h : Hp) : IV → V → Prop
  | .lst xs, x => ∃ a vs, x = .ref a ∧ Rd H a (.lst vs) ∧ RFL Y h xs vs
  | .dct kvs, x => ∃ a, x = .ref a ∧ ((∃ ps, Rd H a (.dK ps) ∧ RFD Y h kvs ps) ∨ ∃ ps, Rd H a (dN Y a ps) ∧ RFT Y h kvs ps)
  | .ins c fs, x => ∃ a dx ps, x = .ref a ∧ c < Y.nc ∧ H a = some (.ins (Y.cl c) dx ps) ∧ RFF Y h fs ps
  | v, x => RF Y h v x
theorem RF.top {Y : Names} {H h : Hp} (up : Up h H) {v : IV} {x : V} (r : RF Y h v x) : Top Y H h v x := by
  cases v with
  | lst xs =>
    obtain ⟨a, vs, e, s, r⟩ := r
    exact ⟨a, vs, e, up.le _ _ True.intro s, r⟩
  | dct kvs =>
    obtain ⟨a, e, r⟩ := r
    exact ⟨a, e, r.imp (fun ⟨ps, s, r⟩ => ⟨ps, up.le _ _ True.intro s, r⟩) fun ⟨ps, s, r⟩ => ⟨ps, up.le _ _ True.intro s, r⟩⟩
  | ins c fs =>
    obtain ⟨a, dx, ps, e, nc, s, _, r⟩ := r
    exact ⟨a, dx, ps, e, nc, (up.ins a).1 _ _ _ s, r⟩
  | _ => exact r
theorem RSL.flat {Y : Names} {H h : Hp} : ∀ (xs : List SV) {vs : List V} {A : List Addr}, RSL Y H h xs vs A → xs.all SV.isF = true → RFL Y h (SV.frzL xs) vs
  | [], _, _, ⟨e, _⟩, _ => e
  | s :: xs, _, _, ⟨v, vr, B, C, e, eA, r1, r2⟩, z => by
    obtain ⟨z1, z2⟩ := Bool.and_eq_true_iff.mp (show (s.isF && xs.all SV.isF) = true from z)
    cases s with
    | fz w => exact ⟨v, vr, e, r1.2, RSL.flat xs r2 z2⟩
    | _ => cases z1
theorem RSD.flat {Y : Names} {H h : Hp} : ∀ (xs : List (IV × SV)) {vs : List (Key × V)} {A : List Addr}, RSD Y H h xs vs A → (xs.all fun p => p.2.isF) = true → RFD Y h (SV.frzD xs) vs
  | [], _, _, ⟨e, _⟩, _ => e
  | (k, s) :: xs, _, _, ⟨κ, v, vr, B, C, e, eA, q, r1, r2⟩, z => by
    obtain ⟨z1, z2⟩ := Bool.and_eq_true_iff.mp (show (s.isF && xs.all fun p => p.2.isF) = true from z)
    cases s with
    | fz w => exact ⟨κ, v, vr, e, q, r1.2, RSD.flat xs r2 z2⟩
    | _ => cases z1
theorem RST.flat {Y : Names} {H h : Hp} : ∀ (xs : List (IV × SV)) {vs : List NRow} {A : List Addr}, RST Y H h xs vs A → (xs.all fun p => p.2.isF) = true → RFT Y h (SV.frzD xs) vs
  | [], _, _, ⟨e, _⟩, _ => e
  | (k, s) :: xs, _, _, ⟨κ, b, v, vr, B, C, e, eA, q, rk, r1, r2⟩, z => by
    obtain ⟨z1, z2⟩ := Bool.and_eq_true_iff.mp (show (s.isF && xs.all fun p => p.2.isF) = true from z)
    cases s with
    | fz w => exact ⟨κ, b, v, vr, e, q, rk, r1.2, RST.flat xs r2 z2⟩
    | _ => cases z1
theorem RSF.flat {Y : Names} {H h : Hp} : ∀ (xs : List (Nat × SV)) {vs : List (Str × V)} {A : List Addr}, RSF Y H h xs vs A → (xs.all fun p => p.2.isF) = true → RFF Y h (SV.frzF xs) vs
  | [], _, _, ⟨e, _⟩, _ => e
  | (k, s) :: xs, _, _, ⟨v, vr, B, C, e, eA, r1, r2⟩, z => by
    obtain ⟨z1, z2⟩ := Bool.and_eq_true_iff.mp (show (s.isF && xs.all fun p => p.2.isF) = true from z)
    cases s with
    | fz w => exact ⟨v, vr, e, r1.2, RSF.flat xs r2 z2⟩
    | _ => cases z1
theorem RS.top {Y : Names} {H h : Hp} (up : Up h H) {s : SV} {x : V} {A : List Addr} (r : RS Y H h s x A) (f : s.flat = true) : Top Y H h s.frz x := by
  cases s with
  | und => cases f
  | fz v => exact RF.top up r.2
  | ol xs =>
    obtain ⟨a, vs, B, e, _, q, r⟩ := r
    exact ⟨a, vs, e, .inl q, RSL.flat xs r f⟩
  | od kvs =>
    obtain ⟨a, B, e, _, r⟩ := r
    exact ⟨a, e, r.imp (fun ⟨ps, q, r⟩ => ⟨ps, .inl q, RSD.flat kvs r f⟩) fun ⟨ps, q, r⟩ => ⟨ps, .inl q, RST.flat kvs r f⟩⟩
  | oi c fs =>
    obtain ⟨a, dx, ps, B, e, _, nc, q, _, r⟩ := r
    exact ⟨a, dx, ps, e, nc, q, RSF.flat fs r f⟩
  | tb => cases f
/-! ### operands -/
def OVr (Y : Names) (h : Hp) (σ : L2.St) : OV → V → Prop
  | .sl i, x => σ[i]? = some (some x)
  | .vl v, x => RF Y h v x
theorem OVr.up {Y : Names} {h h' : Hp} {σ : L2.St} (u : Up h h') {o : OV} {x : V} (r : OVr Y h σ o x) : OVr Y h' σ o x := by
  cases o with
  | sl i => exact r
  | vl v => exact RF.up u v r
def OKo (R : Fr) (H h : Hp) (F : Fp) (σ : L2.St) (Q : VK) : OV → Env → Prop := fun o e' => ∀ x H' h' F', Go H h F H' h' F' → St R.Y H' h' σ e' F' → OVr R.Y h' σ o x → Q x H'
def tO (R : Fr) (d : ODen) : TE := fun σ H Q => ∃ e h F, St R.Y H h σ e F ∧ wpR (d e) (OKo R H h F σ Q) (EXx R H h F σ)
section
variable {R : Fr} {H h : Hp} {σ : L2.St} {e : Env} {F : Fp} {Q : VK}
theorem St.top (S : St R.Y H h σ e F) {o : OV} {x : V} {v : IV} (r : OVr R.Y h σ o x) (q : o.at e = some v) : Top R.Y H h v x := by
  cases o with
  | vl w =>
    have z : some w = some v := q
    cases z
    exact RF.top S.le r
  | sl i =>
    have q : (match (getE e i).flat with | true => some (getE e i).frz | false => none) = some v := q
    cases f : (getE e i).flat with
    | false => rw [f] at q; cases q
    | true =>
      rw [f] at q
      have q : some (getE e i).frz = some v := q
      cases q
      obtain ⟨y, hy, ry⟩ := S.at_ (i := i) rfl (by intro z; rw [z] at f; cases f)
      have r : σ[i]? = some (some x) := r
      rw [hy] at r
      cases r
      exact RS.top S.le ry f
/-- what an expression gave, let go -/
theorem OKv.of {f : IV → Env → Prop} {r : SV} (q : ∀ x H' h' F' e', Go H h F H' h' F' → St R.Y H' h' σ e' F' → RF R.Y h' r.frz x → Q x H') {e' : Env} : OKs R H h F σ Q r e' := fun x A H' h' F' g S rs o => by
  obtain ⟨S2, g2, rf⟩ := S.letRes rs o (fun _ _ => .inr True.intro)
  exact q x H' _ F' e' (g2 g) S2 rf
theorem tO_oE {d : Den} (t : tO R (oE d) σ H Q) : tE R d σ H Q := by
  obtain ⟨e, h, F, S, w⟩ := t
  refine ⟨e, h, F, S, wpR_mono (wpR_bind.mp w) (fun r e' q => ?_) fun _ _ _ q => q⟩
  intro x A H' h' F' g S' rs o
  obtain ⟨S2, g2, rf⟩ := S'.letRes rs o (fun _ _ => .inr True.intro)
  exact q x H' _ F' (g2 g) S2 rf
theorem tO_oS {i : Nat} (t : tO R (oS i) σ H Q) : tVar i σ H Q := by
  obtain ⟨e, h, F, S, w⟩ := t
  unfold oS at w
  cases q : getE e i with
  | und => rw [q] at w; exact w.elim
  | _ =>
    rw [q] at w
    obtain ⟨x, hx, rx⟩ := S.at_ q (fun z => nomatch z)
    exact ⟨x, hx, w x H h F .refl S hx⟩
theorem tE_var {i : Nat} (t : tE R (dVar i) σ H Q) : tVar i σ H Q := by
  obtain ⟨e, h, F, S, w⟩ := t
  unfold dVar at w
  have go : ∀ s, getE e i = s → s ≠ .und → wpR (.ok (.fz s.frz) (setE e i (.fz s.frz))) (OKs R H h F σ Q) (EXx R H h F σ) → tVar i σ H Q := fun s q n w => by
    obtain ⟨x, hx, rx⟩ := S.at_ q n
    obtain ⟨S2, g2, rf⟩ := S.letGo (getE_some q n) hx rx
    exact ⟨x, hx, w x [] H _ _ g2 S2 ⟨rfl, rf⟩ .nil⟩
  cases q : getE e i with
  | und => rw [q] at w; exact w.elim
  | fz v =>
    rw [q] at w
    obtain ⟨x, hx, rx⟩ := S.at_ q (fun z => nomatch z)
    exact ⟨x, hx, w x [] H h F .refl S ⟨rfl, rx.2⟩ .nil⟩
  | ol xs => rw [q] at w; exact go _ q (fun z => nomatch z) w
  | od xs => rw [q] at w; exact go _ q (fun z => nomatch z) w
  | oi c xs => rw [q] at w; exact go _ q (fun z => nomatch z) w
  | tb => rw [q] at w; exact go _ q (fun z => nomatch z) w
theorem tE_con {x : IV} {v : V} (hv : ∀ h, RF R.Y h x v) (t : tE R (dCon x) σ H Q) : tC v σ H Q := by
  obtain ⟨e, h, F, S, w⟩ := t
  exact w v [] H h F .refl S ⟨rfl, hv h⟩ .nil
/-! ### two operands -/
/-- an operator of two, by what it gives -/
def rG (Y : Names) (g : IV → IV → Option SV) : R2 := fun x y H Q => ∃ v w s h, Top Y H h v x ∧ Top Y H h w y ∧ Up h H ∧ g v w = some s ∧ Gives Y H h s Q
theorem tE_look2 {a b : ODen} {g : IV → IV → Option SV} {k : IV → IV → Env → Res SV} (hk : ∀ v w e, ∃ m, k v w e = retO (g v w) e m) (t : tE R (looked2 a b k) σ H Q) : tOp (rG R.Y g) (tO R a) (tO R b) σ H Q := by
  obtain ⟨e, h, F, S, w⟩ := t
  refine ⟨e, h, F, S, wpR_mono (wpR_bind.mp w) (fun ox e1 w1 => ?_) fun _ _ _ q => q⟩
  intro x H1 h1 F1 g1 S1 rx
  refine ⟨e1, h1, F1, S1, wpR_mono (wpR_bind.mp w1) (fun oy e2 w2 => ?_) fun _ _ _ q => q.go g1⟩
  intro y H2 h2 F2 g2 S2 ry
  cases qx : ox.at e2 with
  | none => rw [qx] at w2; exact w2.elim
  | some v =>
    rw [qx] at w2
    cases qy : oy.at e2 with
    | none => rw [qy] at w2; exact w2.elim
    | some u =>
      rw [qy] at w2
      obtain ⟨m, em⟩ := hk v u e2
      have w2 : wpR (k v u e2) (OKs R H h F σ Q) (EXx R H h F σ) := w2
      rw [em] at w2
      obtain ⟨s, es, qs⟩ := wpR_retO.mp w2
      exact ⟨v, u, s, h2, S2.top (rx.up g2.up) qx, S2.top ry qy, S2.le, es, gives_of S2 (OKs.go (g1.trans g2) qs)⟩
/-- .. answering a truth value -/
def rB (Y : Names) (g : IV → IV → Option Bool) : R2 := fun x y H Q => ∃ v w b h, Top Y H h v x ∧ Top Y H h w y ∧ Up h H ∧ g v w = some b ∧ Q (.bl b) H
theorem Gives.bl {Y : Names} {b : Bool} (g : Gives Y H h (.fz (.bl b)) Q) (up : Up h H) : Q (.bl b) H := g.old up rfl
theorem tE_look2b {a b : ODen} {g : IV → IV → Option Bool} {k : IV → IV → Env → Res SV} (hk : ∀ v w e, ∃ m, k v w e = (retO (g v w) e m).bind fun t e => .ok (.fz (.bl t)) e) (t : tE R (looked2 a b k) σ H Q) : tOp (rB R.Y g) (tO R a) (tO R b) σ H Q := by
  have t2 := tE_look2 (g := fun v w => (g v w).map fun b => .fz (.bl b)) (fun v w e => by
    obtain ⟨m, em⟩ := hk v w e
    refine ⟨m, ?_⟩
    rw [em]
    cases g v w <;> rfl) t
  obtain ⟨e, h, F, S, w⟩ := t2
  refine ⟨e, h, F, S, wpR_mono w (fun ox e1 w1 => ?_) fun _ _ _ q => q⟩
  intro x H1 h1 F1 g1 S1 rx
  obtain ⟨e2, h2, F2, S2, w2⟩ := w1 x H1 h1 F1 g1 S1 rx
  refine ⟨e2, h2, F2, S2, wpR_mono w2 (fun oy e3 w3 => ?_) fun _ _ _ q => q⟩
  intro y H3 h3 F3 g3 S3 ry
  obtain ⟨v, u, s, h4, tv, tu, up, es, gs⟩ := w3 y H3 h3 F3 g3 S3 ry
  cases q : g v u with
  | none =>
    have es : (g v u).map (fun b => SV.fz (.bl b)) = some s := es
    rw [q] at es; cases es
  | some b =>
    have es : (g v u).map (fun b => SV.fz (.bl b)) = some s := es
    rw [q] at es
    cases es
    exact ⟨v, u, b, h4, tv, tu, up, q, gs.bl up⟩
end
end Vy

end
section
set_option maxRecDepth 100000
set_option maxHeartbeats 2000000
/-! Operators by values. -/
namespace Vy
open PySem L2
theorem RFL.length {Y : Names} {h : Hp} : ∀ {xs : List IV} {vs : List V}, RFL Y h xs vs → vs.length = xs.length
  | [], _, r => by rw [show _ = _ from r]; rfl
  | _ :: xs, _, ⟨v, vr, e, _, r⟩ => by rw [e, List.length_cons, List.length_cons, RFL.length r]
theorem RFL.append {Y : Names} {h : Hp} : ∀ {xs ys : List IV} {vs ws : List V}, RFL Y h xs vs → RFL Y h ys ws → RFL Y h (xs ++ ys) (vs ++ ws)
  | [], _, _, _, r, q => by rw [show _ = _ from r]; exact q
  | _ :: xs, _, _, _, ⟨v, vr, e, r1, r⟩, q => by rw [e]; exact ⟨v, vr ++ _, rfl, r1, RFL.append r q⟩
theorem RFL.get {Y : Names} {h : Hp} : ∀ {xs : List IV} {vs : List V} {i : Nat} {x : IV}, RFL Y h xs vs → xs[i]? = some x → ∃ v, vs[i]? = some v ∧ RF Y h x v
  | [], _, i, _, _, q => by simp at q
  | y :: xs, _, 0, _, ⟨v, vr, e, r1, _⟩, q => by
    rw [e]
    simp at q
    subst q
    exact ⟨v, rfl, r1⟩
  | y :: xs, _, i + 1, _, ⟨v, vr, e, _, r⟩, q => by
    rw [e]
    obtain ⟨w, h1, h2⟩ := RFL.get (i := i) r (by simpa using q)
    exact ⟨w, by simpa using h1, h2⟩
theorem RFL.drop {Y : Names} {h : Hp} : ∀ {xs : List IV} {vs : List V} (n : Nat), RFL Y h xs vs → RFL Y h (xs.drop n) (vs.drop n)
  | _, _, 0, r => r
  | [], _, n + 1, r => by rw [show _ = _ from r]; exact rfl
  | _ :: xs, _, n + 1, ⟨v, vr, e, _, r⟩ => by rw [e]; exact RFL.drop n r
theorem RFL.take {Y : Names} {h : Hp} : ∀ {xs : List IV} {vs : List V} (n : Nat), RFL Y h xs vs → RFL Y h (xs.take n) (vs.take n)
  | _, _, 0, _ => by simp [RFL]
  | [], _, n + 1, r => by rw [show _ = _ from r]; exact rfl
  | _ :: xs, _, n + 1, ⟨v, vr, e, r1, r⟩ => by rw [e]; exact ⟨v, vr.take n, rfl, r1, RFL.take n r⟩
theorem RFL.reverse {Y : Names} {h : Hp} {xs : List IV} {vs : List V} (r : RFL Y h xs vs) : RFL Y h xs.reverse vs.reverse := by
  induction xs generalizing vs with
  | nil => rw [show _ = _ from r]; exact rfl
  | cons x xs ih =>
    obtain ⟨v, vr, e, r1, r⟩ := r
    rw [e, List.reverse_cons, List.reverse_cons]
    exact RFL.append (ih r) ⟨v, [], rfl, r1, rfl⟩
/-- plain things, held by a new list -/
theorem RFL.fzs {Y : Names} {H h : Hp} : ∀ {xs : List IV} {vs : List V}, RFL Y h xs vs → RSL Y H h (xs.map .fz) vs []
  | [], _, r => ⟨r, rfl⟩
  | _ :: xs, _, ⟨v, vr, e, r1, r⟩ => ⟨v, vr, [], [], e, rfl, ⟨rfl, r1⟩, RFL.fzs r⟩
section
variable {Y : Names} {H h : Hp} {Q : VK}
/-- a new list of plain things -/
theorem Gives.nl {xs : List IV} {vs : List V} (g : Gives Y H h (nl xs) Q) (up : Up h H) (r : RFL Y h xs vs) {p : Addr} (n : H p = none) : Q (.ref p) (upd H p (.lst vs)) := by
  have hn := up.fresh n
  refine g (.ref p) (upd H p (.lst vs)) h [p] (.new n) (.refl h) ⟨fun a u pl z => ?_, fun a => ⟨fun C dx ps z => ?_, fun x z => ?_⟩, fun a z => ?_⟩ (fun _ z => .inl z) (fun a z => ?_) (fun a z => ?_) (by simp) ⟨p, vs, [], rfl, rfl, upd_same, RFL.fzs r⟩
  · have na : a ≠ p := by
      rintro rfl
      rcases z with z | ⟨_, z⟩ <;> (rw [hn] at z; cases z)
    rcases up.le a u pl z with q | ⟨o, q⟩
    · exact .inl (by rw [upd_ne na]; exact q)
    · exact .inr ⟨o, by rw [upd_ne na]; exact q⟩
  · have na : a ≠ p := by rintro rfl; rw [hn] at z; cases z
    rw [upd_ne na]; exact (up.ins a).1 _ _ _ z
  · have na : a ≠ p := by rintro rfl; rw [hn] at z; cases z
    rw [upd_ne na]; exact (up.ins a).2 _ z
  · have na : a ≠ p := by rintro rfl; exact z hn
    rw [upd_ne na]; exact up.dom a z
  · rw [List.mem_singleton.mp z]; exact n
  · rw [List.mem_singleton.mp z]; exact hn
/-- a new tuple -/
theorem Gives.tup {xs : List IV} {vs : List V} (g : Gives Y H h (.fz (.tup xs)) Q) (up : Up h H) (r : RFL Y h xs vs) {p : Addr} (n : H p = none) : Q (.ref p) (upd H p (.tup vs)) := by
  have hn := up.fresh n
  have s : Sub h (upd h p (.tup vs)) := .new hn
  refine g (.ref p) (upd H p (.tup vs)) (upd h p (.tup vs)) [] (.new n) s (upd_up up n) (fun a z => ?_) (fun _ z => absurd z (by simp)) (fun _ z => absurd z (by simp)) .nil ⟨rfl, p, vs, rfl, .inl (.inl upd_same), RFL.up s.up xs r⟩
  by_cases e : a = p
  · rw [e]; exact .inr n
  · rw [upd_ne e] at z; exact .inl z
end
theorem strOf_append (x y : List Nat) : strOf x ++ strOf y = strOf (x ++ y) := by
  show (⟨x.toArray ++ y.toArray⟩ : Str) = ⟨(x ++ y).toArray⟩
  simp
theorem strOf_length (x : List Nat) : (strOf x).length = x.length := by
  show x.toArray.size = x.length
  simp
theorem line1 {n : Nat} (h : Nat.ble n 1000000 = true) : n ≤ sizeLine := by
  have := Nat.le_of_ble_eq_true h
  rw [sizeLine_eq]
  omega
theorem lstRd {H h : Hp} {a : Addr} {vs : List V} (r : Rd H a (.lst vs)) : (H a = some (.lst vs)) ∨ ∃ o, H a = some (.frz o (.lst vs)) := r
section
variable {X : Cx} {Y : Names}
theorem rd_list {H : Hp} {a : Addr} {vs : List V} {pins : List (Addr × Obj)} {σ : L2.St} {s : Shared} (I : Inv X pins σ H s) (r : Rd H a (.lst vs)) :
    ∃ (its : List Value) (n : Nat), Vals vs its ∧ vs.length ≤ sizeLine ∧ s.heap.get? a = some { cls := .type "list", data := .seq its.toArray n } := by
  obtain ⟨z, its, n, rv, e⟩ := r.ok I.hok
  exact ⟨its, n, rv, z, e⟩
/-- two lists, added -/
theorem op_addL : OpR X (binaryOp .Add) (fun x y H Q => ∃ a b xs zs, x = .ref a ∧ y = .ref b ∧ Rd H a (.lst xs) ∧ Rd H b (.lst zs) ∧ xs.length + zs.length ≤ sizeLine ∧ ∀ p, H p = none → Q (.ref p) (upd H p (.lst (xs ++ zs)))) := by
  intro pins s σ H x y v u Q I rx ry h
  obtain ⟨a, b, xs, zs, ex, ey, h1, h2, hz, q⟩ := h
  subst ex ey
  cases rx; cases ry
  obtain ⟨m1, n1, v1, _, g1⟩ := rd_list I h1
  obtain ⟨m2, n2, v2, _, g2⟩ := rd_list I h2
  have l1 := v1.length
  have l2 := v2.length
  refine PySem.P.add_list g1 g2 ?_ (by simp only [List.size_toArray]; omega)
  rw [show m1.toArray ++ m2.toArray = (m1 ++ m2).toArray from by simp]
  refine ⟨.ref _, _, I.lnew (t' := s.toks) (v1.append v2) (by simp only [List.length_append]; omega), rfl, q _ I.fresh⟩
theorem ops_add (hK : Y.K = X.K) : OpR X (binaryOp .Add) (rG Y (binop 0)) := by
  intro pins s σ H x y v u Q I rx ry hh
  obtain ⟨a, b, r, h, ta, tb, up, e, g⟩ := hh
  unfold binop at e
  cases a with
  | int i =>
    cases b with
    | int j =>
      cases e
      rw [show x = .int i from ta] at rx
      rw [show y = .int j from tb] at ry
      exact op_add pins s σ H _ _ v u Q I rx ry ⟨i, j, rfl, rfl, g.old up rfl⟩
    | _ => cases e
  | str i =>
    cases b with
    | str j =>
      dsimp only at e
      cases q : Nat.ble (i.length + j.length) 1000000 with
      | false => rw [q] at e; cases e
      | true =>
        rw [q] at e
        cases e
        rw [show x = .str (strOf i) from ta] at rx
        rw [show y = .str (strOf j) from tb] at ry
        refine op_add_str pins s σ H _ _ v u Q I rx ry ⟨strOf i, strOf j, rfl, rfl, by rw [strOf_length, strOf_length]; exact line1 q, ?_⟩
        rw [strOf_append]
        exact g.old up rfl
    | _ => cases e
  | lst i =>
    cases b with
    | lst j =>
      dsimp only at e
      cases q : Nat.ble (i.length + j.length) 1000000 with
      | false => rw [q] at e; cases e
      | true =>
        rw [q] at e
        cases e
        obtain ⟨p1, v1, rfl, r1, f1⟩ := ta
        obtain ⟨p2, v2, rfl, r2, f2⟩ := tb
        refine op_addL pins s σ H _ _ v u Q I rx ry ⟨p1, p2, v1, v2, rfl, rfl, r1, r2, by rw [f1.length, f2.length]; exact line1 q, fun p n => g.nl up (f1.append f2) n⟩
    | _ => cases e
  | tup i =>
    cases b with
    | tup j =>
      obtain ⟨p1, v1, rfl, r1, f1⟩ := ta
      obtain ⟨p2, v2, rfl, r2, f2⟩ := tb
      rw [hK] at r1 r2
      have r1 := up.le.sqT r1
      have r2 := up.le.sqT r2
      cases i with
      | nil =>
        cases e
        have f1 : v1 = [] := f1
        subst f1
        by_cases hz : v2.length ≤ sizeLine
        · exact op_catA pins s σ H _ _ v u Q I rx ry ⟨p1, p2, [], v2, rfl, rfl, r1, r2, by simpa using hz, fun _ => g.old up ⟨p2, v2, rfl, by rw [hK]; assumption, f2⟩, fun z => absurd rfl z, fun z => absurd rfl z⟩
        · obtain ⟨_, rv, _, hz2⟩ := I.tuple r2
          exact absurd hz2 hz
      | cons i0 i =>
        dsimp only at e
        cases q : Nat.ble ((i0 :: i).length + j.length) 1000000 with
        | false => rw [q] at e; cases e
        | true =>
          rw [q] at e
          cases e
          refine op_catA pins s σ H _ _ v u Q I rx ry ⟨p1, p2, v1, v2, rfl, rfl, r1, r2, by rw [f1.length, f2.length]; exact line1 q, fun z => ?_, fun _ z => ?_, fun _ _ p n => g.tup up (f1.append f2) n⟩
          · obtain ⟨_, _, z2, _⟩ := f1
            rw [z] at z2
            cases z2
          · have f3 := f1.append f2
            rw [z, List.append_nil] at f3
            exact g.old up ⟨p1, v1, rfl, by rw [hK]; assumption, f3⟩
    | _ => cases e
  | _ => cases e
theorem bAnd {a b : Bool} (h : (a && b) = true) : a = true ∧ b = true := Bool.and_eq_true_iff.mp h
theorem ops_int {f : Value → Value → Sem Value} {o : Nat} {C : Int → Int → Prop} {g : Int → Int → V} (hf : OpR X f (rI C g))
    (hb : ∀ v w r, binop o v w = some r → ∃ i j k, v = .int i ∧ w = .int j ∧ C i j ∧ r = .fz (.int k) ∧ g i j = .int k) : OpR X f (rG Y (binop o)) := by
  intro pins s σ H x y v u Q I rx ry hh
  obtain ⟨a, b, r, h, ta, tb, up, e, gg⟩ := hh
  obtain ⟨i, j, k, rfl, rfl, hc, rfl, eg⟩ := hb a b r e
  exact hf pins s σ H x y v u Q I rx ry ⟨i, j, ta, tb, hc, by rw [eg]; exact gg.old up rfl⟩
theorem rI0_of {f : Value → Value → Sem Value} {g : Int → Int → V} (hf : OpR X f (rI0 g)) : OpR X f (rI (fun _ _ => True) g) := fun pins s σ H x y v u Q I rx ry h => by
  obtain ⟨i, j, e1, e2, _, q⟩ := h
  exact hf pins s σ H x y v u Q I rx ry ⟨i, j, e1, e2, q⟩
theorem ops_sub : OpR X (binaryOp .Sub) (rG Y (binop 1)) := ops_int (rI0_of op_sub) fun v w r e => by
  unfold binop at e
  cases v <;> cases w <;> cases e
  exact ⟨_, _, _, rfl, rfl, trivial, rfl, rfl⟩
theorem ops_mul : OpR X (binaryOp .Mult) (rG Y (binop 2)) := ops_int op_mul fun v w r e => by
  unfold binop at e
  cases v <;> cases w <;> try cases e
  rename_i x y
  dsimp only at e
  cases q : (decide (-(2 ^ 64) < x) && decide (x < 2 ^ 64) || decide (-(2 ^ 64) < y) && decide (y < 2 ^ 64)) with
  | false => rw [q] at e; cases e
  | true =>
    rw [q] at e
    cases e
    refine ⟨_, _, _, rfl, rfl, ?_, rfl, rfl⟩
    rcases Bool.or_eq_true_iff.mp q with z | z
    · exact .inl ⟨of_decide_eq_true (bAnd z).1, of_decide_eq_true (bAnd z).2⟩
    · exact .inr ⟨of_decide_eq_true (bAnd z).1, of_decide_eq_true (bAnd z).2⟩
theorem ops_fdiv : OpR X (binaryOp .FloorDiv) (rG Y (binop 3)) := ops_int op_fdiv fun v w r e => by
  unfold binop at e
  cases v <;> cases w <;> try cases e
  rename_i x y
  dsimp only at e
  cases q : (decide (0 < y) && decide (y < 1073741824)) with
  | false => rw [q] at e; cases e
  | true =>
    rw [q] at e
    cases e
    exact ⟨_, _, _, rfl, rfl, ⟨of_decide_eq_true (bAnd q).1, of_decide_eq_true (bAnd q).2⟩, rfl, rfl⟩
theorem ops_mod : OpR X (binaryOp .Mod) (rG Y (binop 4)) := ops_int op_mod fun v w r e => by
  unfold binop at e
  cases v <;> cases w <;> try cases e
  rename_i x y
  dsimp only at e
  cases q : decide (0 < y) with
  | false => rw [q] at e; cases e
  | true =>
    rw [q] at e
    cases e
    exact ⟨_, _, _, rfl, rfl, of_decide_eq_true q, rfl, rfl⟩
theorem ops_pow : OpR X (binaryOp .Pow) (rG Y (binop 5)) := ops_int op_pow fun v w r e => by
  unfold binop at e
  cases v <;> cases w <;> try cases e
  rename_i x y
  dsimp only at e
  cases q : (decide (0 ≤ y) && decide (y ≤ 1000) && decide (x.natAbs < 2 ^ 64)) with
  | false => rw [q] at e; cases e
  | true =>
    rw [q] at e
    cases e
    obtain ⟨q1, q3⟩ := bAnd q
    obtain ⟨q1, q2⟩ := bAnd q1
    have := of_decide_eq_true q2
    exact ⟨_, _, _, rfl, rfl, ⟨of_decide_eq_true q1, by omega, of_decide_eq_true q3⟩, rfl, rfl⟩
end
end Vy

end
section
set_option maxRecDepth 100000
set_option maxHeartbeats 2000000
/-! Data; comparing. -/
namespace Vy
open PySem L2
mutual
def toD : IV → PyData
  | .bl b => .bool b
  | .int i => .int i
  | .str s => .str (strOf s)
  | .tup xs => .tuple (toDL xs)
  | .lst xs => .list (toDL xs)
  | _ => .none
def toDL : List IV → List PyData
  | [] => []
  | x :: xs => toD x :: toDL xs
end
theorem strOk_of {s : List Nat} (h : (s.all fun c => Nat.blt c 1114112) = true) : PyData.strOk (strOf s) = true := by
  show (s.toArray.all fun c => decide (c < 0x110000)) = true
  rw [List.all_toArray]
  refine List.all_eq_true.mpr fun c hc => ?_
  exact decide_eq_true (Nat.blt_eq.mp (List.all_eq_true.mp h c hc))
mutual
theorem toD_lay : ∀ (n : Nat) (v : IV), IV.dat n v = true → (toD v).canLay0 = true ∧ (toD v).depth ≤ n
  | 0, _, z => by rw [IV.dat] at z; cases z
  | n + 1, .non, _ => ⟨by rw [toD.eq_def, PyData.canLay0], by rw [toD.eq_def, PyData.depth]; omega⟩
  | n + 1, .bl b, _ => ⟨by rw [toD, PyData.canLay0], by rw [toD, PyData.depth]; omega⟩
  | n + 1, .int b, _ => ⟨by rw [toD, PyData.canLay0], by rw [toD, PyData.depth]; omega⟩
  | n + 1, .str s, z => ⟨by rw [toD, PyData.canLay0]; exact strOk_of (by rw [IV.dat] at z; exact z), by rw [toD, PyData.depth]; omega⟩
  | n + 1, .tup xs, z => by
    rw [IV.dat] at z
    obtain ⟨a, b⟩ := toDL_lay n xs z
    rw [toD, PyData.canLay0, PyData.depth]
    exact ⟨a, by omega⟩
  | n + 1, .lst xs, z => by
    rw [IV.dat] at z
    obtain ⟨a, b⟩ := toDL_lay n xs z
    rw [toD, PyData.canLay0, PyData.depth]
    exact ⟨a, by omega⟩
  | n + 1, .dct _, z => by rw [IV.dat] at z <;> first | cases z | (intros; exact fun w => nomatch w)
  | n + 1, .ins _ _, z => by rw [IV.dat] at z <;> first | cases z | (intros; exact fun w => nomatch w)
  | n + 1, .fn _, z => by rw [IV.dat] at z <;> first | cases z | (intros; exact fun w => nomatch w)
  | n + 1, .cls _, z => by rw [IV.dat] at z <;> first | cases z | (intros; exact fun w => nomatch w)
  | n + 1, .ty _, z => by rw [IV.dat] at z <;> first | cases z | (intros; exact fun w => nomatch w)
  | n + 1, .lam _, z => by rw [IV.dat] at z <;> first | cases z | (intros; exact fun w => nomatch w)
theorem toDL_lay : ∀ (n : Nat) (xs : List IV), IV.datL n xs = true → PyData.canLayAll0 (toDL xs) = true ∧ PyData.depthAll (toDL xs) ≤ n
  | n, [], _ => ⟨by rw [toDL, PyData.canLayAll0], by rw [toDL, PyData.depthAll]; omega⟩
  | n, x :: xs, z => by
    rw [IV.datL] at z
    obtain ⟨z1, z2⟩ := bAnd z
    obtain ⟨a, b⟩ := toD_lay n x z1
    obtain ⟨c, d⟩ := toDL_lay n xs z2
    rw [toDL, PyData.canLayAll0, PyData.depthAll, a, c]
    exact ⟨rfl, by omega⟩
end
theorem toD_ok {v : IV} (h : IV.dat 60 v = true) : SeqAt.shaped (toD v) = true := by
  obtain ⟨a, b⟩ := toD_lay 60 v h
  unfold SeqAt.shaped
  rw [a]
  exact decide_eq_true (by omega)
theorem toDL_ok {xs : List IV} (h : IV.datL 60 xs = true) : SeqAt.shaped (.list (toDL xs)) = true := by
  obtain ⟨a, b⟩ := toDL_lay 60 xs h
  unfold SeqAt.shaped
  rw [PyData.canLay0, PyData.depth, a]
  exact decide_eq_true (by omega)
theorem beqN_eq : ∀ x y : List Nat, beqN x y = decide (x = y)
  | [], [] => rfl
  | [], _ :: _ => rfl
  | _ :: _, [] => rfl
  | x :: xs, y :: ys => by
    rw [beqN]
    cases h : Nat.beq x y with
    | true =>
      have := Nat.eq_of_beq_eq_true h
      subst this
      dsimp only
      rw [beqN_eq xs ys]
      simp
    | false =>
      have := Nat.ne_of_beq_eq_false h
      simp [this]
theorem strOf_inj {x y : List Nat} : strOf x = strOf y ↔ x = y := by
  constructor
  · intro h
    injection h with h
    simpa using congrArg Array.toList h
  · rintro rfl; rfl
theorem strOf_beq (x y : List Nat) : (strOf x == strOf y) = beqN x y := by
  rw [beqN_eq]
  by_cases h : x = y
  · subst h; simp
  · have : ¬ strOf x = strOf y := fun z => h (strOf_inj.mp z)
    rw [beq_eq_false_iff_ne.mpr this, decide_eq_false h]
theorem b2i_if (b : Bool) : (if b = true then (1 : Int) else 0) = b2i b := by cases b <;> rfl
mutual
theorem toD_eqv : ∀ (n m : Nat) (v w : IV), IV.dat n v = true → IV.dat m w = true → PyData.eqv (toD v) (toD w) = ieq v w
  | 0, _, _, _, z, _ => by rw [IV.dat] at z; cases z
  | _, 0, _, _, _, z => by rw [IV.dat] at z; cases z
  | n + 1, m + 1, v, w, z1, z2 => by
    cases v <;> cases w <;> first
      | (simp [IV.dat] at z1; done)
      | (simp [IV.dat] at z2; done)
      | (simp only [toD, PyData.eqv, ieq]; done)
      | (simp only [toD, PyData.eqv, ieq, b2i_if]; done)
      | (simp only [toD, PyData.eqv, ieq, b2i_if]; rfl)
      | (simp only [toD, PyData.eqv, ieq]; exact strOf_beq _ _)
      | (simp only [IV.dat] at z1 z2; simp only [toD, PyData.eqv, ieq]; exact toDL_eqv n m _ _ z1 z2)
theorem toDL_eqv : ∀ (n m : Nat) (v w : List IV), IV.datL n v = true → IV.datL m w = true → PyData.eqvAll (toDL v) (toDL w) = ieqs v w
  | _, _, [], [], _, _ => by simp only [toDL, PyData.eqvAll, ieqs]
  | _, _, [], _ :: _, _, _ => by simp only [toDL, PyData.eqvAll, ieqs]
  | _, _, _ :: _, [], _, _ => by simp only [toDL, PyData.eqvAll, ieqs]
  | n, m, x :: xs, y :: ys, z1, z2 => by
    rw [IV.datL] at z1 z2
    obtain ⟨a1, a2⟩ := bAnd z1
    obtain ⟨b1, b2⟩ := bAnd z2
    simp only [toDL, PyData.eqvAll, ieqs]
    rw [toD_eqv n m x y a1 b1, toDL_eqv n m xs ys a2 b2]
end
mutual
theorem RF.dp {Y : Names} {h H : Hp} (up : Up h H) : ∀ (n : Nat) (v : IV) {x : V}, IV.dat n v = true → RF Y h v x → Dp Y.K H x (toD v)
  | 0, _, _, z, _ => by rw [IV.dat] at z; cases z
  | n + 1, .non, x, _, r => by rw [show x = .non from r, toD.eq_def]; exact .non
  | n + 1, .bl b, x, _, r => by rw [show x = .bl b from r, toD]; exact .bl b
  | n + 1, .int b, x, _, r => by rw [show x = .int b from r, toD]; exact .int b
  | n + 1, .str b, x, _, r => by rw [show x = .str (strOf b) from r, toD]; exact .str _
  | n + 1, .tup xs, _, z, ⟨a, vs, e, s, r⟩ => by
    rw [IV.dat] at z
    rw [e, toD]
    exact .tup (up.le.sqT s) (RFL.dp up n xs z r)
  | n + 1, .lst xs, _, z, ⟨a, vs, e, s, r⟩ => by
    rw [IV.dat] at z
    rw [e, toD]
    exact .lst (.inl (up.le _ _ True.intro s)) (RFL.dp up n xs z r)
  | n + 1, .dct _, _, z, _ => by rw [IV.dat] at z <;> first | cases z | (intros; exact fun w => nomatch w)
  | n + 1, .ins _ _, _, z, _ => by rw [IV.dat] at z <;> first | cases z | (intros; exact fun w => nomatch w)
  | n + 1, .fn _, _, z, _ => by rw [IV.dat] at z <;> first | cases z | (intros; exact fun w => nomatch w)
  | n + 1, .cls _, _, z, _ => by rw [IV.dat] at z <;> first | cases z | (intros; exact fun w => nomatch w)
  | n + 1, .ty _, _, z, _ => by rw [IV.dat] at z <;> first | cases z | (intros; exact fun w => nomatch w)
  | n + 1, .lam _, _, z, _ => by rw [IV.dat] at z <;> first | cases z | (intros; exact fun w => nomatch w)
theorem RFL.dp {Y : Names} {h H : Hp} (up : Up h H) : ∀ (n : Nat) (xs : List IV) {vs : List V}, IV.datL n xs = true → RFL Y h xs vs → DpAll Y.K H vs (toDL xs)
  | n, [], vs, _, r => by rw [show vs = [] from r, toDL]; exact .nil
  | n, x :: xs, _, z, ⟨v, vr, e, r1, r⟩ => by
    rw [IV.datL] at z
    obtain ⟨z1, z2⟩ := bAnd z
    rw [e, toDL]
    exact .cons (RF.dp up n x z1 r1) (RFL.dp up n xs z2 r)
end
theorem Top.dp {Y : Names} {h H : Hp} (up : Up h H) {v : IV} {x : V} (z : IV.dat 60 v = true) (r : Top Y H h v x) : Dp Y.K H x (toD v) := by
  cases v with
  | lst xs =>
    obtain ⟨a, vs, e, s, r⟩ := r
    rw [IV.dat] at z
    rw [e, toD]
    exact .lst (.inl s) (RFL.dp up 59 xs z r)
  | dct _ => rw [IV.dat] at z <;> first | cases z | (intros; exact fun w => nomatch w)
  | ins _ _ => rw [IV.dat] at z <;> first | cases z | (intros; exact fun w => nomatch w)
  | _ => exact RF.dp up 60 _ z r
/-! ### == and != -/
section
variable {X : Cx} {Y : Names}
theorem ops_eq (hK : Y.K = X.K) (hu : X.A.units + 64 < cLine) : OpR X (compareOp .Eq) (rB Y veq) := by
  intro pins s σ H x y v u Q I rx ry hh
  obtain ⟨a, b, t, h, ta, tb, up, e, q⟩ := hh
  unfold veq at e
  cases z : (IV.dat 60 a && IV.dat 60 b) with
  | false => rw [z] at e; cases e
  | true =>
    rw [z] at e
    cases e
    obtain ⟨z1, z2⟩ := bAnd z
    refine op_eqD hu pins s σ H _ _ v u Q I rx ry ⟨toD a, toD b, hK ▸ ta.dp up z1, hK ▸ tb.dp up z2, toD_ok z1, toD_ok z2, ?_⟩
    rw [toD_eqv 60 60 a b z1 z2]
    exact q
theorem ops_ne (hK : Y.K = X.K) (hu : X.A.units + 64 < cLine) : OpR X (compareOp .NotEq) (rB Y fun v w => (veq v w).map (!·)) := by
  intro pins s σ H x y v u Q I rx ry hh
  obtain ⟨a, b, t, h, ta, tb, up, e, q⟩ := hh
  unfold veq at e
  dsimp only at e
  cases z : (IV.dat 60 a && IV.dat 60 b) with
  | false => rw [z] at e; cases e
  | true =>
    rw [z] at e
    cases e
    obtain ⟨z1, z2⟩ := bAnd z
    refine op_neD hu pins s σ H _ _ v u Q I rx ry ⟨toD a, toD b, hK ▸ ta.dp up z1, hK ▸ tb.dp up z2, toD_ok z1, toD_ok z2, ?_⟩
    rw [toD_eqv 60 60 a b z1 z2]
    exact q
end
end Vy

end
section
set_option maxRecDepth 100000
set_option maxHeartbeats 2000000
/-! Keys, dicts that are looked into. -/
namespace Vy
open PySem L2
theorem keyOf_ieq {a b : IV} {κ μ : Key} (ha : keyOf a = some κ) (hb : keyOf b = some μ) : ieq a b = decide (κ = μ) := by
  cases a <;> simp only [keyOf, Option.some.injEq, reduceCtorEq] at ha <;> cases b <;> simp only [keyOf, Option.some.injEq, reduceCtorEq] at hb <;> subst ha hb
  · simp only [ieq]; simp
  · simp only [ieq]; simp
  · simp only [ieq]; simp
  · simp only [ieq]; rw [beqN_eq]; simp [strOf_inj]
mutual
theorem nkeyOf_ieq : ∀ (a b : IV) {κ μ : NestedKey}, nkeyOf a = some κ → nkeyOf b = some μ → ieq a b = NestedKey.beq κ μ
  | .non, b, _, _, ha, hb => by
    simp only [nkeyOf, Option.some.injEq] at ha; subst ha
    cases b <;> simp only [nkeyOf, Option.some.injEq, reduceCtorEq, Option.map_eq_some_iff] at hb <;> first | (subst hb; simp only [ieq, NestedKey.beq]) | (obtain ⟨_, _, rfl⟩ := hb; simp only [ieq, NestedKey.beq])
  | .bl x, b, _, _, ha, hb => by
    simp only [nkeyOf, Option.some.injEq] at ha; subst ha
    cases b <;> simp only [nkeyOf, Option.some.injEq, reduceCtorEq, Option.map_eq_some_iff] at hb <;> first | (subst hb; simp only [ieq, NestedKey.beq]; done) | (obtain ⟨_, _, rfl⟩ := hb; simp only [ieq, NestedKey.beq]; done) | (subst hb; simp only [ieq, NestedKey.beq]; rename_i y; cases x <;> cases y <;> rfl)
  | .int x, b, _, _, ha, hb => by
    simp only [nkeyOf, Option.some.injEq] at ha; subst ha
    cases b <;> simp only [nkeyOf, Option.some.injEq, reduceCtorEq, Option.map_eq_some_iff] at hb <;> first | (subst hb; simp only [ieq, NestedKey.beq]; done) | (obtain ⟨_, _, rfl⟩ := hb; simp only [ieq, NestedKey.beq]; done)
  | .str x, b, _, _, ha, hb => by
    simp only [nkeyOf, Option.some.injEq] at ha; subst ha
    cases b <;> simp only [nkeyOf, Option.some.injEq, reduceCtorEq, Option.map_eq_some_iff] at hb <;> first | (subst hb; simp only [ieq, NestedKey.beq]; done) | (obtain ⟨_, _, rfl⟩ := hb; simp only [ieq, NestedKey.beq]; done) | (subst hb; simp only [ieq, NestedKey.beq]; rw [beqN_eq]; simp [strOf_inj])
  | .tup xs, b, _, _, ha, hb => by
    simp only [nkeyOf, Option.map_eq_some_iff] at ha
    obtain ⟨ks, hk, rfl⟩ := ha
    cases b <;> simp only [nkeyOf, Option.some.injEq, reduceCtorEq, Option.map_eq_some_iff] at hb <;> first | (subst hb; simp only [ieq, NestedKey.beq]; done) | (obtain ⟨ls, hl, rfl⟩ := hb; simp only [ieq, NestedKey.beq]; exact nkeysOf_ieq _ _ hk hl)
  | .lst _, _, _, _, ha, _ => by simp [nkeyOf] at ha
  | .dct _, _, _, _, ha, _ => by simp [nkeyOf] at ha
  | .ins _ _, _, _, _, ha, _ => by simp [nkeyOf] at ha
  | .fn _, _, _, _, ha, _ => by simp [nkeyOf] at ha
  | .cls _, _, _, _, ha, _ => by simp [nkeyOf] at ha
  | .ty _, _, _, _, ha, _ => by simp [nkeyOf] at ha
  | .lam _, _, _, _, ha, _ => by simp [nkeyOf] at ha
theorem nkeysOf_ieq : ∀ (a b : List IV) {κ μ : List NestedKey}, nkeysOf a = some κ → nkeysOf b = some μ → ieqs a b = NestedKey.beqAll κ μ
  | [], [], _, _, ha, hb => by
    simp only [nkeysOf, Option.some.injEq] at ha hb; subst ha hb; simp only [ieqs, NestedKey.beqAll]
  | [], y :: ys, _, _, ha, hb => by
    simp only [nkeysOf, Option.some.injEq] at ha; subst ha
    simp only [nkeysOf] at hb
    split at hb <;> cases hb
    simp only [ieqs, NestedKey.beqAll]
  | x :: xs, [], _, _, ha, hb => by
    simp only [nkeysOf, Option.some.injEq] at hb; subst hb
    simp only [nkeysOf] at ha
    split at ha <;> cases ha
    simp only [ieqs, NestedKey.beqAll]
  | x :: xs, y :: ys, _, _, ha, hb => by
    simp only [nkeysOf] at ha hb
    split at ha <;> cases ha
    split at hb <;> cases hb
    rename_i a1 a2 _ _ _ _ b1 b2
    simp only [ieqs, NestedKey.beqAll]
    rw [nkeyOf_ieq x y a1 b1, nkeysOf_ieq xs ys a2 b2]
end
/-- the heap holds a key's tree -/
structure Fits (Y : Names) (X : Cx) : Prop where
  K : Y.K = X.K
  P : Y.P = X.prog
  w : Y.w = X.w
  inj : ∀ i j, Y.at_ i = Y.at_ j → i = j
section
variable {X : Cx} {Y : Names} {pins : List (Addr × Obj)} {σ : L2.St} {H h : Hp} {s : Shared}
mutual
theorem RF.nkey (hY : Fits Y X) (I : Inv X pins σ H s) (up : Up h H) : ∀ (v : IV) {x : V} {u : Value} {κ : NestedKey}, RF Y h v x → RelV x u → nkeyOf v = some κ → NestedIs s.heap κ u
  | .non, _, _, _, r, q, e => by
    simp only [nkeyOf, Option.some.injEq] at e
    rw [show _ = V.non from r] at q
    cases q; subst e; exact .none
  | .bl b, _, _, _, r, q, e => by
    simp only [nkeyOf, Option.some.injEq] at e
    rw [show _ = V.bl b from r] at q
    cases q; subst e; exact .bool (by cases b <;> rfl)
  | .int b, _, _, _, r, q, e => by
    simp only [nkeyOf, Option.some.injEq] at e
    rw [show _ = V.int b from r] at q
    obtain ⟨t, rfl⟩ := q
    subst e; exact .int b t
  | .str b, _, _, _, r, q, e => by
    simp only [nkeyOf, Option.some.injEq] at e
    rw [show _ = V.str (strOf b) from r] at q
    obtain ⟨t, rfl⟩ := q
    subst e; exact .text _ t
  | .tup xs, _, _, _, ⟨a, vs, ex, st, r⟩, q, e => by
    simp only [nkeyOf, Option.map_eq_some_iff] at e
    obtain ⟨ks, hk, rfl⟩ := e
    subst ex
    cases q
    have st := up.le.sqT st
    rw [hY.K] at st
    obtain ⟨its, rv, ⟨o, e1, e2, n, e3⟩, _⟩ := I.tuple st
    exact .tup e1 e2 e3 (by simpa using RFL.nkeys hY I up xs r rv hk)
  | .lst _, _, _, _, _, _, e => by simp [nkeyOf] at e
  | .dct _, _, _, _, _, _, e => by simp [nkeyOf] at e
  | .ins _ _, _, _, _, _, _, e => by simp [nkeyOf] at e
  | .fn _, _, _, _, _, _, e => by simp [nkeyOf] at e
  | .cls _, _, _, _, _, _, e => by simp [nkeyOf] at e
  | .ty _, _, _, _, _, _, e => by simp [nkeyOf] at e
  | .lam _, _, _, _, _, _, e => by simp [nkeyOf] at e
theorem RFL.nkeys (hY : Fits Y X) (I : Inv X pins σ H s) (up : Up h H) : ∀ (v : List IV) {x : List V} {u : List Value} {κ : List NestedKey}, RFL Y h v x → Vals x u → nkeysOf v = some κ → NestedAll s.heap κ u
  | [], _, _, _, r, q, e => by
    simp only [nkeysOf, Option.some.injEq] at e
    rw [show _ = [] from r] at q
    cases q; subst e; exact .nil
  | x :: xs, _, _, _, ⟨v, vr, ex, r1, r⟩, q, e => by
    simp only [nkeysOf] at e
    split at e <;> cases e
    rename_i e1 e2
    subst ex
    cases q with
    | cons q1 q2 => exact .cons (RF.nkey hY I up x r1 q1 e1) (RFL.nkeys hY I up xs r q2 e2)
end
end
/-! ### keys that may be -/
mutual
theorem nkeyOf_some : ∀ (n : Nat) (v : IV), keyN n v = true → ∃ κ, nkeyOf v = some κ ∧ κ.depth ≤ n
  | n, .non, _ => ⟨.none, by simp only [nkeyOf], by simp only [NestedKey.depth]; omega⟩
  | n, .bl b, _ => ⟨.num (b2i b), by simp only [nkeyOf], by simp only [NestedKey.depth]; omega⟩
  | n, .int b, _ => ⟨.num b, by simp only [nkeyOf], by simp only [NestedKey.depth]; omega⟩
  | n, .str b, _ => ⟨.text (strOf b), by simp only [nkeyOf], by simp only [NestedKey.depth]; omega⟩
  | 0, .tup xs, z => by simp [keyN] at z
  | n + 1, .tup xs, z => by
    rw [keyN] at z
    obtain ⟨ks, e, d⟩ := nkeysOf_some n xs z
    exact ⟨.tup ks, by simp only [nkeyOf, e, Option.map_some], by simp only [NestedKey.depth]; omega⟩
  | 0, .lst _, z => by simp [keyN] at z
  | 0, .dct _, z => by simp [keyN] at z
  | 0, .ins _ _, z => by simp [keyN] at z
  | 0, .fn _, z => by simp [keyN] at z
  | 0, .cls _, z => by simp [keyN] at z
  | 0, .ty _, z => by simp [keyN] at z
  | 0, .lam _, z => by simp [keyN] at z
  | n + 1, .lst _, z => by simp [keyN] at z
  | n + 1, .dct _, z => by simp [keyN] at z
  | n + 1, .ins _ _, z => by simp [keyN] at z
  | n + 1, .fn _, z => by simp [keyN] at z
  | n + 1, .cls _, z => by simp [keyN] at z
  | n + 1, .ty _, z => by simp [keyN] at z
  | n + 1, .lam _, z => by simp [keyN] at z
theorem nkeysOf_some : ∀ (n : Nat) (xs : List IV), keyNL n xs = true → ∃ κ, nkeysOf xs = some κ ∧ NestedKey.depthAll κ ≤ n
  | n, [], _ => ⟨[], by simp only [nkeysOf], by simp only [NestedKey.depthAll]; omega⟩
  | n, x :: xs, z => by
    rw [keyNL] at z
    obtain ⟨z1, z2⟩ := bAnd z
    obtain ⟨k, e1, d1⟩ := nkeyOf_some n x z1
    obtain ⟨ks, e2, d2⟩ := nkeysOf_some n xs z2
    exact ⟨k :: ks, by simp only [nkeysOf, e1, e2], by simp only [NestedKey.depthAll]; omega⟩
end
theorem keyB_t {k : IV} (h : keyB k = true) (t : keyT k = true) : ∃ κ, nkeyOf k = some κ ∧ κ.depth ≤ 8 := by
  cases k <;> first | cases t | skip
  rename_i xs
  have h : keyNL 7 xs = true := h
  obtain ⟨ks, e, d⟩ := nkeysOf_some 7 xs h
  exact ⟨.tup ks, by simp only [nkeyOf, e, Option.map_some], by simp only [NestedKey.depth]; omega⟩
theorem keyB_f {k : IV} (h : keyB k = true) (t : keyT k = false) : ∃ κ, keyOf k = some κ := by
  cases k with
  | int i => exact ⟨.inl i, rfl⟩
  | str x => exact ⟨.inr (strOf x), rfl⟩
  | tup xs => cases t
  | _ => cases h
theorem keyOf_keyT {k : IV} {κ : Key} (e : keyOf k = some κ) : keyT k = false := by
  cases k with
  | int i => rfl
  | str x => rfl
  | _ => cases e
theorem nkey_ref_keyT {Y : Names} {h : Hp} {k : IV} {κ : NestedKey} {b : Addr} (e : nkeyOf k = some κ) (r : RF Y h k (.ref b)) : keyT k = true := by
  cases k with
  | tup xs => rfl
  | non => cases (show V.ref b = V.non from r)
  | bl x => cases (show V.ref b = V.bl x from r)
  | int x => cases (show V.ref b = V.int x from r)
  | str x => cases (show V.ref b = V.str (strOf x) from r)
  | _ => simp [nkeyOf] at e
theorem keyOf_kV {Y : Names} {h : Hp} {k : IV} {κ : Key} {y : V} (e : keyOf k = some κ) (r : RF Y h k y) : y = kV κ := by
  cases k <;> simp only [keyOf, Option.some.injEq, reduceCtorEq] at e <;> subst e <;> exact r
/-! ### what lies at a key -/
/-- a dict's rows, by what its values stand for -/
def RDg {α : Type} (P : α → V → Prop) : List (IV × α) → List (Key × V) → Prop
  | [], ps => ps = []
  | (k, x) :: xs, ps => ∃ κ v pr, ps = (κ, v) :: pr ∧ keyOf k = some κ ∧ P x v ∧ RDg P xs pr
def RTg {α : Type} (Y : Names) (h : Hp) (P : α → V → Prop) : List (IV × α) → List NRow → Prop
  | [], ps => ps = []
  | (k, x) :: xs, ps => ∃ κ b v pr, ps = (κ, b, v) :: pr ∧ nkOk k κ ∧ RF Y h k (.ref b) ∧ P x v ∧ RTg Y h P xs pr
theorem RFD.g {Y : Names} {h : Hp} : ∀ {kvs : List (IV × IV)} {ps : List (Key × V)}, RFD Y h kvs ps → RDg (RF Y h) kvs ps
  | [], _, r => r
  | (k, x) :: xs, _, ⟨κ, v, pr, e, ek, r1, r⟩ => ⟨κ, v, pr, e, ek, r1, RFD.g r⟩
theorem RFT.g {Y : Names} {h : Hp} : ∀ {kvs : List (IV × IV)} {ps : List NRow}, RFT Y h kvs ps → RTg Y h (RF Y h) kvs ps
  | [], _, r => r
  | (k, x) :: xs, _, ⟨κ, b, v, pr, e, ek, rk, r1, r⟩ => ⟨κ, b, v, pr, e, ek, rk, r1, RFT.g r⟩
abbrev PS_ (Y : Names) (H h : Hp) : SV → V → Prop := fun s v => ∃ B, RS Y H h s v B
theorem RSD.g {Y : Names} {H h : Hp} : ∀ {kvs : List (IV × SV)} {ps : List (Key × V)} {A : List Addr}, RSD Y H h kvs ps A → RDg (PS_ Y H h) kvs ps
  | [], _, _, r => r.1
  | (k, x) :: xs, _, _, ⟨κ, v, pr, B, C, e, _, ek, r1, r⟩ => ⟨κ, v, pr, e, ek, ⟨B, r1⟩, RSD.g r⟩
theorem RST.g {Y : Names} {H h : Hp} : ∀ {kvs : List (IV × SV)} {ps : List NRow} {A : List Addr}, RST Y H h kvs ps A → RTg Y h (PS_ Y H h) kvs ps
  | [], _, _, r => r.1
  | (k, x) :: xs, _, _, ⟨κ, b, v, pr, B, C, e, _, ek, rk, r1, r⟩ => ⟨κ, b, v, pr, e, ek, rk, ⟨B, r1⟩, RST.g r⟩
section
variable {α : Type} {P : α → V → Prop} {Y : Names} {h : Hp}
theorem RDg.get {k : IV} {κ : Key} (ek : keyOf k = some κ) : ∀ {kvs : List (IV × α)} {ps : List (Key × V)}, RDg P kvs ps → match dget kvs k with
    | some w => ∃ x, valV ps κ = some x ∧ P w x
    | none => valV ps κ = none
  | [], ps, r => by rw [show ps = [] from r]; exact valV_nil
  | (k0, w) :: kvs, _, ⟨κ0, v, pr, e, e0, r1, r⟩ => by
    subst e
    have q := keyOf_ieq e0 ek
    rw [dget, q]
    by_cases z : κ0 = κ
    · rw [decide_eq_true z]
      exact ⟨v, valV_pos z, r1⟩
    · rw [decide_eq_false z]
      have := RDg.get ek r
      cases g : dget kvs k with
      | none => rw [g] at this; exact (valV_neg z).trans this
      | some w' =>
        rw [g] at this
        obtain ⟨x, e, rx⟩ := this
        exact ⟨x, (valV_neg z).trans e, rx⟩
def atN (ps : List NRow) (κ : NestedKey) : Option V := (ps.find? fun p => decide (p.1 = κ)).map (·.2.2)
theorem RTg.get {k : IV} {κ : NestedKey} (ek : nkeyOf k = some κ) : ∀ {kvs : List (IV × α)} {ps : List NRow}, RTg Y h P kvs ps → match dget kvs k with
    | some w => ∃ x, atN ps κ = some x ∧ P w x
    | none => atN ps κ = none
  | [], ps, r => by rw [show ps = [] from r]; rfl
  | (k0, w) :: kvs, _, ⟨κ0, b, v, pr, e, e0, rk, r1, r⟩ => by
    subst e
    have q := nkeyOf_ieq k0 k e0.1 ek
    rw [← NestedKey.decide_eq] at q
    rw [dget, q]
    unfold atN
    by_cases z : κ0 = κ
    · rw [decide_eq_true z]
      exact ⟨v, by simp [List.find?_cons, z], r1⟩
    · rw [decide_eq_false z]
      have := RTg.get ek r
      cases g : dget kvs k with
      | none => rw [g] at this; simpa [List.find?_cons, z, atN] using this
      | some w' =>
        rw [g] at this
        obtain ⟨x, e, rx⟩ := this
        exact ⟨x, by simpa [List.find?_cons, z, atN] using e, rx⟩
theorem RDg.isSome {k : IV} {κ : Key} (ek : keyOf k = some κ) {kvs : List (IV × α)} {ps : List (Key × V)} (r : RDg P kvs ps) : (dget kvs k).isSome = (valV ps κ).isSome := by
  have := RDg.get ek r
  cases g : dget kvs k with
  | none => rw [g] at this; rw [show valV ps κ = none from this]; rfl
  | some w => rw [g] at this; obtain ⟨x, hx, _⟩ := this; rw [hx]; rfl
theorem RTg.isSome {k : IV} {κ : NestedKey} (ek : nkeyOf k = some κ) {kvs : List (IV × α)} {ps : List NRow} (r : RTg Y h P kvs ps) : (dget kvs k).isSome = (atN ps κ).isSome := by
  have := RTg.get ek r
  cases g : dget kvs k with
  | none => rw [g] at this; rw [show atN ps κ = none from this]; rfl
  | some w => rw [g] at this; obtain ⟨x, hx, _⟩ := this; rw [hx]; rfl
theorem dget_isSome (k : IV) : ∀ kvs : List (IV × α), (dget kvs k).isSome = dhas kvs k
  | [] => rfl
  | (k0, w) :: kvs => by
    rw [dget, dhas]
    cases ieq k0 k with
    | true => rfl
    | false => exact dget_isSome k kvs
theorem RDg.length : ∀ {kvs : List (IV × α)} {ps : List (Key × V)}, RDg P kvs ps → ps.length = kvs.length
  | [], _, r => by rw [show _ = _ from r]; rfl
  | (k, x) :: xs, _, ⟨κ, v, pr, e, _, _, r⟩ => by rw [e, List.length_cons, List.length_cons, RDg.length r]
theorem RTg.length : ∀ {kvs : List (IV × α)} {ps : List NRow}, RTg Y h P kvs ps → ps.length = kvs.length
  | [], _, r => by rw [show _ = _ from r]; rfl
  | (k, x) :: xs, _, ⟨κ, b, v, pr, e, _, _, _, r⟩ => by rw [e, List.length_cons, List.length_cons, RTg.length r]
end
abbrev NPair (kvs : List NRow) (xs : List (NestedKey × Addr × Value)) : Prop := Paired (fun p q => p.1 = q.1 ∧ p.2.1 = q.2.1 ∧ RelV p.2.2 q.2.2) kvs xs
theorem NPair.at {κ : NestedKey} : ∀ {kvs : List NRow} {xs : List (NestedKey × Addr × Value)}, NPair kvs xs → RelO (atN kvs κ) ((atKey xs κ).map (·.2)) := by
  intro kvs xs r
  induction r with
  | nil => exact True.intro
  | @cons p q ps qs h t ih =>
    obtain ⟨h1, _, h2⟩ := h
    unfold atN atKey at *
    by_cases e : p.1 = κ
    · have e' : q.1 = κ := h1.symm.trans e
      simp only [List.find?_cons, decide_eq_true e, decide_eq_true e', Option.map_some]
      exact h2
    · have e' : ¬ q.1 = κ := fun z => e (h1.trans z)
      simp only [List.find?_cons, decide_eq_false e, decide_eq_false e']
      exact ih
/-! ### dicts in the heap -/
section
variable {α : Type} {P : α → V → Prop} {X : Cx} {Y : Names} {pins : List (Addr × Obj)} {σ : L2.St} {H h : Hp} {s : Shared} {a : Addr}
/-- a dict in the heap whose keys are ints and texts -/
def IsDK {α : Type} (P : α → V → Prop) (X : Cx) (Y : Names) (h : Hp) (s : Shared) (a : Addr) (kvs : List (IV × α)) : Prop :=
  (a == sysModules) = false ∧ ∃ ps vs, RDg P kvs ps ∧ ps.length ≤ sizeLine ∧ KV ps vs ∧ s.heap.DictOf (mixKind X.prog X.w) a vs
/-- .. tuples -/
def IsDN {α : Type} (P : α → V → Prop) (X : Cx) (Y : Names) (h : Hp) (s : Shared) (a : Addr) (kvs : List (IV × α)) : Prop :=
  (a == sysModules) = false ∧ ∃ ps xs, RTg Y h P kvs ps ∧ ps.length ≤ sizeLine ∧ NPair ps xs ∧ s.heap.DictOfH (nestedKind X.prog X.w) a xs
theorem RTg.all (hY : Fits Y X) (I : Inv X pins σ H s) (up : Up h H) : ∀ {kvs : List (IV × α)} {ps : List NRow} {xs : List (NestedKey × Addr × Value)}, RTg Y h P kvs ps → NPair ps xs → ∀ x ∈ xs, (nestedKind X.prog X.w).is s.heap x.1 x.2.1
  | [], ps, xs, r, q, x, hx => by
    rw [show ps = [] from r] at q
    cases q
    cases hx
  | (k, v) :: kvs, _, _, ⟨κ, b, v1, pr, e, e1, rk, r1, r⟩, q, x, hx => by
    subst e
    cases q with
    | @cons _ q0 _ qs h0 t =>
      rcases List.mem_cons.mp hx with z | z
      · subst z
        obtain ⟨h1, h2, _⟩ := h0
        refine ⟨?_, ?_⟩
        · rw [← h1, ← h2]
          exact RF.nkey hY I up k rk rfl e1.1
        · rw [← h1]
          exact e1.2
      · exact RTg.all hY I up r t x z
/-- the two faces of an empty dict -/
theorem dk_nil_dn {w : PySem.World} {P : PySem.Program} {hp : Heap} (d : hp.DictOf (mixKind P w) a ([] : List (Key × Value))) : hp.DictOfH (nestedKind P w) a [] := by
  obtain ⟨o, es, ep, h1, h2, h3, h4, h5, _⟩ := d
  have e : es.toList = [] := by
    cases q : es.toList with
    | nil => rfl
    | cons x l => rw [q] at h5; cases h5
  exact ⟨o, es, ep, h1, h2, h3, e, fun _ z => absurd z (by simp), .nil⟩
theorem dn_nil_dk {w : PySem.World} {P : PySem.Program} {hp : Heap} (d : hp.DictOfH (nestedKind P w) a []) : hp.DictOf (mixKind P w) a ([] : List (Key × Value)) := by
  obtain ⟨o, es, ep, h1, h2, h3, e, _, _⟩ := d
  have e : es.toList = [] := e
  have e2 : es = #[] := by simpa using e
  subst e2
  exact ⟨o, #[], ep, h1, h2, h3, fun i hi => absurd hi (by simp), .nil, .nil⟩
theorem isDK_rd (hY : Fits Y X) (I : Inv X pins σ H s) {kvs : List (IV × α)} {ps : List (Key × V)} (e : Rd H a (.dK ps)) (r : RDg P kvs ps) : IsDK P X Y h s a kvs := by
  obtain ⟨z, hd, vs, rel, dd⟩ := dk_rd I.hok e
  exact ⟨hd, ps, vs, r, z, rel, dd⟩
theorem dN_rd (hY : Fits Y X) (I : Inv X pins σ H s) {ps : List NRow} (e : Rd H a (dN Y a ps)) : nD X.prog X.w a ps s.heap := by
  have q := (e.ok I.hok).1
  rw [hY.P, hY.w] at q
  exact q
theorem isDN_rd (hY : Fits Y X) (I : Inv X pins σ H s) (up : Up h H) {kvs : List (IV × α)} {ps : List NRow} (e : Rd H a (dN Y a ps)) (r : RTg Y h P kvs ps) : IsDN P X Y h s a kvs := by
  obtain ⟨hd, z, xs, rel, o, es, ep, h1, h2, h3, h4, h5⟩ := dN_rd hY I e
  exact ⟨hd, ps, xs, r, z, rel, o, es, ep, h1, h2, h3, h4, RTg.all hY I up r rel, h5⟩
theorem IsDK.nil (d : IsDK P X Y h s a []) : IsDN P X Y h s a [] := by
  obtain ⟨hd, ps, vs, r, z, rel, dd⟩ := d
  have e : ps = [] := r
  subst e
  cases rel
  exact ⟨hd, [], [], rfl, z, .nil, dk_nil_dn dd⟩
theorem IsDN.nil (d : IsDN P X Y h s a []) : IsDK P X Y h s a [] := by
  obtain ⟨hd, ps, xs, r, z, rel, dd⟩ := d
  have e : ps = [] := r
  subst e
  cases rel
  exact ⟨hd, [], [], rfl, z, .nil, dn_nil_dk dd⟩
theorem IsDK.keyT {k : IV} {v : α} {kvs : List (IV × α)} (d : IsDK P X Y h s a ((k, v) :: kvs)) : Vy.keyT k = false := by
  obtain ⟨_, _, _, ⟨κ, _, _, _, e, _, _⟩, _⟩ := d
  exact keyOf_keyT e
theorem IsDN.keyT {k : IV} {v : α} {kvs : List (IV × α)} (d : IsDN P X Y h s a ((k, v) :: kvs)) : Vy.keyT k = true := by
  obtain ⟨_, _, _, ⟨κ, b, _, _, _, e, rk, _, _⟩, _⟩ := d
  exact nkey_ref_keyT e.1 rk
/-- a dict that is looked into at a key -/
theorem dict_at (d : IsDK P X Y h s a kvs ∨ IsDN P X Y h s a kvs) {k : IV} (ok : kindOk (kvs.map (·.1)) k = true) :
    (keyT k = false ∧ (∃ κ, keyOf k = some κ) ∧ IsDK P X Y h s a kvs) ∨ (keyT k = true ∧ (∃ κ, nkOk k κ) ∧ IsDN P X Y h s a kvs) := by
  cases kvs with
  | nil =>
    have ok : keyB k = true := ok
    cases t : keyT k with
    | true => exact .inr ⟨rfl, keyB_t ok t, d.elim (·.nil) id⟩
    | false => exact .inl ⟨rfl, keyB_f ok t, d.elim id (·.nil)⟩
  | cons p r =>
    obtain ⟨k0, v0⟩ := p
    obtain ⟨ok, ok2⟩ := bAnd (show (keyB k && (keyT k0 == keyT k)) = true from ok)
    have ok2 := eq_of_beq ok2
    rcases d with d | d
    · rw [d.keyT] at ok2
      exact .inl ⟨ok2.symm, keyB_f ok ok2.symm, d⟩
    · rw [d.keyT] at ok2
      exact .inr ⟨ok2.symm, keyB_t ok ok2.symm, d⟩
theorem Top.isD (hY : Fits Y X) (I : Inv X pins σ H s) (up : Up h H) {kvs : List (IV × IV)} {x : V} (t : Top Y H h (.dct kvs) x) : ∃ a, x = .ref a ∧ (IsDK (RF Y h) X Y h s a kvs ∨ IsDN (RF Y h) X Y h s a kvs) := by
  obtain ⟨a, e, d⟩ := t
  rcases d with ⟨ps, r, q⟩ | ⟨ps, r, q⟩
  · exact ⟨a, e, .inl (isDK_rd hY I r q.g)⟩
  · exact ⟨a, e, .inr (isDN_rd hY I up r q.g)⟩
theorem RS.isD (hY : Fits Y X) (I : Inv X pins σ H s) (up : Up h H) {kvs : List (IV × SV)} {x : V} {A : List Addr} (t : RS Y H h (.od kvs) x A) : ∃ a, x = .ref a ∧ (IsDK (PS_ Y H h) X Y h s a kvs ∨ IsDN (PS_ Y H h) X Y h s a kvs) := by
  obtain ⟨a, B, e, _, d⟩ := t
  rcases d with ⟨ps, r, q⟩ | ⟨ps, r, q⟩
  · exact ⟨a, e, .inl (isDK_rd hY I (.inl r) q.g)⟩
  · exact ⟨a, e, .inr (isDN_rd hY I up (.inl r) q.g)⟩
/-- a key's own value -/
theorem Top.key {k : IV} {y : V} (t : Top Y H h k y) (ok : keyB k = true) : RF Y h k y := by
  cases k <;> first | exact t | cases ok
theorem kindOk_key {ks : List IV} {k : IV} (ok : kindOk ks k = true) : keyB k = true := by
  cases ks with
  | nil => exact ok
  | cons _ _ => exact (bAnd ok).1
theorem nkOk.is (hY : Fits Y X) (I : Inv X pins σ H s) (up : Up h H) {k : IV} {κ : NestedKey} {b : Addr} (e : nkOk k κ) (r : RF Y h k (.ref b)) : (nestedKind X.prog X.w).is s.heap κ b :=
  ⟨RF.nkey hY I up k r rfl e.1, e.2⟩
theorem keyT_ref {k : IV} {y : V} (t : keyT k = true) (r : RF Y h k y) : ∃ b, y = .ref b := by
  cases k <;> first | (obtain ⟨a, _, e, _⟩ := r; exact ⟨a, e⟩) | (cases t; done)
/-- d[k] -/
theorem dv_get {A : Around} {E : Value → Shared → Prop} {kvs : List (IV × α)} {k : IV} {w : α} {y : V} {u : Value} {Q : Value → Shared → Prop} (hY : Fits Y X) (hu : A.units + 9 < cLine) (I : Inv X pins σ H s) (up : Up h H)
    (d : IsDK P X Y h s a kvs ∨ IsDN P X Y h s a kvs) (ok : kindOk (kvs.map (·.1)) k = true) (rk : RF Y h k y) (ry : RelV y u) (g : dget kvs k = some w)
    (q : ∀ x w' s', Inv X pins σ H s' → P w x → RelV x w' → Q w' s') : wpAny (model X.prog X.w) A (getItem (.ref a) u) Q E s := by
  rcases dict_at d ok with ⟨t, ⟨κ, ek⟩, hd, ps, vs, r, z, rel, dd⟩ | ⟨t, ⟨κ, ek⟩, hd, ps, xs, r, z, rel, dd⟩
  · have := RDg.get ek r
    rw [g] at this
    obtain ⟨x, hx, rx⟩ := this
    rw [keyOf_kV ek rk] at ry
    obtain ⟨w', hw, rw'⟩ := RelO.some_of (v := x) (o := valueAt vs κ) (by rw [← hx]; exact rel.val κ)
    exact wpAny_getItem_of (kV_is ry) dd.mapOf hw (q x w' _ (I.tok _) rx rw')
  · have := RTg.get ek.1 r
    rw [g] at this
    obtain ⟨x, hx, rx⟩ := this
    obtain ⟨b, rfl⟩ := keyT_ref t rk
    cases ry
    obtain ⟨w', hw, rw'⟩ := RelO.some_of (v := x) (o := (atKey xs κ).map (·.2)) (by rw [← hx]; exact rel.at)
    obtain ⟨p, hp, hp2⟩ := Option.map_eq_some_iff.mp hw
    refine wpAny_getItem_heap (show A.in1.units + 8 < cLine by rw [Around.in1_units]; omega) (nkOk.is hY I up ek rk) dd hp ?_
    rw [hp2]
    exact q x w' _ (I.tok _) rx rw'
/-- k in d -/
theorem dv_in {A : Around} {E : Value → Shared → Prop} {kvs : List (IV × α)} {k : IV} {y : V} {u : Value} {Q : Value → Shared → Prop} (hY : Fits Y X) (hu : A.units + 9 < cLine) (I : Inv X pins σ H s) (up : Up h H)
    (d : IsDK P X Y h s a kvs ∨ IsDN P X Y h s a kvs) (ok : kindOk (kvs.map (·.1)) k = true) (rk : RF Y h k y) (ry : RelV y u)
    (q : ∀ s', Inv X pins σ H s' → Q (.bool (dhas kvs k)) s') : wpAny (model X.prog X.w) A (compareOp .In u (.ref a)) Q E s := by
  rw [← dget_isSome] at q
  rcases dict_at d ok with ⟨t, ⟨κ, ek⟩, hd, ps, vs, r, z, rel, dd⟩ | ⟨t, ⟨κ, ek⟩, hd, ps, xs, r, z, rel, dd⟩
  · have e : (dget kvs k).isSome = (valV ps κ).isSome := RDg.isSome ek r
    rw [keyOf_kV ek rk] at ry
    refine wpAny_in_of (kV_is ry) hd dd.mapOf ?_
    rw [← (rel.val κ).isSome_eq, ← e]
    exact q _ (I.tok _)
  · have e : (dget kvs k).isSome = (atN ps κ).isSome := RTg.isSome ek.1 r
    obtain ⟨b, rfl⟩ := keyT_ref t rk
    cases ry
    refine wpAny_in_heap (show A.in1.units + 8 < cLine by rw [Around.in1_units]; omega) (nkOk.is hY I up ek rk) hd dd ?_
    have q2 := (NPair.at (κ := κ) rel).isSome_eq
    rw [Option.isSome_map] at q2
    rw [← q2, ← e]
    exact q _ (I.tok _)
theorem dv_notIn {A : Around} {E : Value → Shared → Prop} {kvs : List (IV × α)} {k : IV} {y : V} {u : Value} {Q : Value → Shared → Prop} (hY : Fits Y X) (hu : A.units + 9 < cLine) (I : Inv X pins σ H s) (up : Up h H)
    (d : IsDK P X Y h s a kvs ∨ IsDN P X Y h s a kvs) (ok : kindOk (kvs.map (·.1)) k = true) (rk : RF Y h k y) (ry : RelV y u)
    (q : ∀ s', Inv X pins σ H s' → Q (.bool (!dhas kvs k)) s') : wpAny (model X.prog X.w) A (compareOp .NotIn u (.ref a)) Q E s := by
  rw [← dget_isSome] at q
  rcases dict_at d ok with ⟨t, ⟨κ, ek⟩, hd, ps, vs, r, z, rel, dd⟩ | ⟨t, ⟨κ, ek⟩, hd, ps, xs, r, z, rel, dd⟩
  · have e : (dget kvs k).isSome = (valV ps κ).isSome := RDg.isSome ek r
    rw [keyOf_kV ek rk] at ry
    refine wpAny_notIn_of (kV_is ry) hd dd.mapOf ?_
    rw [← (rel.val κ).isSome_eq, ← e]
    exact q _ (I.tok _)
  · have e : (dget kvs k).isSome = (atN ps κ).isSome := RTg.isSome ek.1 r
    obtain ⟨b, rfl⟩ := keyT_ref t rk
    cases ry
    refine PyProof.Rows.wpAny_notIn_heap (show A.in1.units + 8 < cLine by rw [Around.in1_units]; omega) (nkOk.is hY I up ek rk) hd dd ?_
    have q2 := (NPair.at (κ := κ) rel).isSome_eq
    rw [Option.isSome_map] at q2
    rw [← q2, ← e]
    exact q _ (I.tok _)
end
end Vy

end
section
set_option maxRecDepth 100000
set_option maxHeartbeats 2000000
/-! Comparing: order, in, is. -/
namespace Vy
open PySem L2
section
variable {X : Cx} {Y : Names}
theorem ops_cmpI {f : Value → Value → Sem Value} {o : Nat} {g : Int → Int → Bool} (hf : OpR X f (rI0 fun i j => .bl (g i j)))
    (hb : ∀ v w r, cmpop o v w = some r → ∃ i j, v = .int i ∧ w = .int j ∧ r = g i j) : OpR X f (rB Y (cmpop o)) := by
  intro pins s σ H x y v u Q I rx ry hh
  obtain ⟨a, b, r, h, ta, tb, up, e, q⟩ := hh
  obtain ⟨i, j, rfl, rfl, rfl⟩ := hb a b r e
  exact hf pins s σ H x y v u Q I rx ry ⟨i, j, ta, tb, q⟩
theorem ops_le : OpR X (compareOp .LtE) (rB Y (cmpop 3)) := ops_cmpI op_le fun v w r e => by
  unfold cmpop at e
  cases v <;> cases w <;> cases e
  exact ⟨_, _, rfl, rfl, rfl⟩
theorem ops_gt : OpR X (compareOp .Gt) (rB Y (cmpop 4)) := ops_cmpI op_gt fun v w r e => by
  unfold cmpop at e
  cases v <;> cases w <;> cases e
  exact ⟨_, _, rfl, rfl, rfl⟩
theorem ops_ge : OpR X (compareOp .GtE) (rB Y (cmpop 5)) := ops_cmpI op_ge fun v w r e => by
  unfold cmpop at e
  cases v <;> cases w <;> cases e
  exact ⟨_, _, rfl, rfl, rfl⟩
theorem ltN_eq : ∀ x y : List Nat, ltN x y = decide (x < y)
  | [], [] => by simp [ltN]
  | [], _ :: _ => by simp [ltN]
  | _ :: _, [] => by simp [ltN]
  | x :: xs, y :: ys => by
    rw [ltN]
    cases h : Nat.beq x y with
    | true =>
      have := Nat.eq_of_beq_eq_true h
      subst this
      dsimp only
      rw [ltN_eq xs ys]
      simp
    | false =>
      have hne := Nat.ne_of_beq_eq_false h
      dsimp only
      by_cases z : x < y
      · rw [Nat.blt_eq.mpr z]
        exact (decide_eq_true (List.cons_lt_cons_iff.mpr (.inl z))).symm
      · have : Nat.blt x y = false := by
          cases q : Nat.blt x y with
          | false => rfl
          | true => exact absurd (Nat.blt_eq.mp q) z
        rw [this]
        refine (decide_eq_false fun w => ?_).symm
        rcases List.cons_lt_cons_iff.mp w with w | ⟨w, _⟩
        · exact z w
        · exact hne w
theorem ops_lt : OpR X (compareOp .Lt) (rB Y (cmpop 2)) := by
  intro pins s σ H x y v u Q I rx ry hh
  obtain ⟨a, b, r, h, ta, tb, up, e, q⟩ := hh
  unfold cmpop at e
  cases a <;> cases b <;> cases e
  · exact op_lt pins s σ H x y v u Q I rx ry ⟨_, _, ta, tb, q⟩
  · refine op_lt_str pins s σ H x y v u Q I rx ry ⟨_, _, ta, tb, ?_⟩
    rw [ltN_eq] at q
    exact q
theorem memI_any (hd : PyData) (a : IV) (z : IV.dat 60 a = true) : ∀ xs : List IV, IV.datL 60 xs = true → ((toDL xs).any fun w => PyData.eqv w (toD a)) = memI a xs
  | [], _ => by rw [toDL]; rfl
  | x :: xs, z2 => by
    rw [IV.datL] at z2
    obtain ⟨z2, z3⟩ := bAnd z2
    rw [toDL, List.any_cons, memI, toD_eqv 60 60 x a z2 z, memI_any hd a z xs z3]
    cases ieq x a <;> rfl
theorem any_beq_mem (c : Nat) (s : List Nat) : (s.any fun d => Nat.beq c d) = decide (c ∈ s) := by
  induction s with
  | nil => simp
  | cons x s ih =>
    rw [List.any_cons, ih]
    by_cases z : c = x
    · subst z; simp
    · have : Nat.beq c x = false := by
        cases q : Nat.beq c x with
        | false => rfl
        | true => exact absurd (Nat.eq_of_beq_eq_true q) z
      simp [this, z]
theorem ops_in (hY : Fits Y X) (hu : X.A.units + 65 < cLine) : OpR X (compareOp .In) (rB Y isIn) := by
  intro pins s σ H x y v u Q I rx ry hh
  obtain ⟨a, b, r, h, ta, tb, up, e, q⟩ := hh
  unfold isIn at e
  cases b with
  | tup xs =>
    dsimp only at e
    cases z : (IV.dat 60 a && IV.datL 60 xs) with
    | false => rw [z] at e; cases e
    | true =>
      rw [z] at e
      cases e
      obtain ⟨z1, z2⟩ := bAnd z
      have d1 := ta.dp up z1
      have d2 : Dp Y.K H y (toD (.tup xs)) := RF.dp up 61 (.tup xs) (by rw [IV.dat]; exact z2) tb
      rw [hY.K] at d1 d2
      rw [toD] at d2
      obtain ⟨as, r1⟩ := Dp.reads I _ x v d1 rx
      obtain ⟨bs, r2⟩ := Dp.reads I _ y u d2 ry
      have sd := toD_ok z1
      have se := toDL_ok z2
      refine SeqAt.in_tuple_reads r2 r1 (SeqAt.canLay_of_shaped se) (SeqAt.canLay_of_shaped sd) (PyProof.Rows.room_in_shaped sd hu) ⟨.bl _, H, I, rfl, ?_⟩
      rw [memI_any .none a z1 xs z2]
      exact q
  | lst xs =>
    dsimp only at e
    cases z : (IV.dat 60 a && IV.datL 60 xs) with
    | false => rw [z] at e; cases e
    | true =>
      rw [z] at e
      cases e
      obtain ⟨z1, z2⟩ := bAnd z
      have d1 := ta.dp up z1
      have d2 : Dp Y.K H y (.list (toDL xs)) := by
        obtain ⟨p, vs, ey, rd, rf⟩ := tb
        rw [ey]
        exact .lst (.inl rd) (RFL.dp up 60 xs z2 rf)
      rw [hY.K] at d1 d2
      refine op_inD hu pins s σ H x y v u Q I rx ry ⟨_, _, d1, d2, toD_ok z1, toDL_ok z2, ?_⟩
      rw [memI_any .none a z1 xs z2]
      exact q
  | dct kvs =>
    dsimp only at e
    cases z : kindOk (kvs.map (·.1)) a with
    | false => rw [z] at e; cases e
    | true =>
      rw [z] at e
      cases e
      obtain ⟨p, rfl, d⟩ := Top.isD hY I up tb
      cases ry
      exact dv_in hY (by omega) I up d z (ta.key (kindOk_key z)) rx fun s' I' => ⟨.bl _, H, I', rfl, q⟩
  | str t =>
    dsimp only at e
    split at e <;> cases e
    rename_i c
    rw [show x = V.str (strOf [c]) from ta] at rx
    rw [show y = V.str (strOf t) from tb] at ry
    refine op_in_sign pins s σ H _ _ v u Q I rx ry ⟨c, strOf t, rfl, rfl, ?_⟩
    rw [any_beq_mem] at q
    exact q
  | _ => cases e
theorem ops_notIn (hY : Fits Y X) (hu : X.A.units + 65 < cLine) : OpR X (compareOp .NotIn) (rB Y fun v w => (isIn v w).map (!·)) := by
  intro pins s σ H x y v u Q I rx ry hh
  obtain ⟨a, b, r, h, ta, tb, up, e, q⟩ := hh
  unfold isIn at e
  dsimp only at e
  cases b with
  | tup xs =>
    dsimp only at e
    cases z : (IV.dat 60 a && IV.datL 60 xs) with
    | false => rw [z] at e; cases e
    | true =>
      rw [z] at e
      cases e
      obtain ⟨z1, z2⟩ := bAnd z
      have d1 := ta.dp up z1
      have d2 : Dp Y.K H y (toD (.tup xs)) := RF.dp up 61 (.tup xs) (by rw [IV.dat]; exact z2) tb
      rw [hY.K] at d1 d2
      rw [toD] at d2
      obtain ⟨as, r1⟩ := Dp.reads I _ x v d1 rx
      obtain ⟨bs, r2⟩ := Dp.reads I _ y u d2 ry
      have sd := toD_ok z1
      have se := toDL_ok z2
      refine SeqAt.notIn_tuple_reads r2 r1 (SeqAt.canLay_of_shaped se) (SeqAt.canLay_of_shaped sd) (PyProof.Rows.room_in_shaped sd hu) ⟨.bl _, H, I, rfl, ?_⟩
      rw [memI_any .none a z1 xs z2]
      exact q
  | lst xs =>
    dsimp only at e
    cases z : (IV.dat 60 a && IV.datL 60 xs) with
    | false => rw [z] at e; cases e
    | true =>
      rw [z] at e
      cases e
      obtain ⟨z1, z2⟩ := bAnd z
      have d1 := ta.dp up z1
      have d2 : Dp Y.K H y (.list (toDL xs)) := by
        obtain ⟨p, vs, ey, rd, rf⟩ := tb
        rw [ey]
        exact .lst (.inl rd) (RFL.dp up 60 xs z2 rf)
      rw [hY.K] at d1 d2
      refine op_notInD hu pins s σ H x y v u Q I rx ry ⟨_, _, d1, d2, toD_ok z1, toDL_ok z2, ?_⟩
      rw [memI_any .none a z1 xs z2]
      exact q
  | dct kvs =>
    dsimp only at e
    cases z : kindOk (kvs.map (·.1)) a with
    | false => rw [z] at e; cases e
    | true =>
      rw [z] at e
      cases e
      obtain ⟨p, rfl, d⟩ := Top.isD hY I up tb
      cases ry
      exact dv_notIn hY (by omega) I up d z (ta.key (kindOk_key z)) rx fun s' I' => ⟨.bl _, H, I', rfl, q⟩
  | str t =>
    dsimp only at e
    cases a with
    | str cs =>
      cases cs with
      | nil => cases e
      | cons c cs =>
        cases cs with
        | cons _ _ => cases e
        | nil =>
          cases e
          rw [show x = V.str (strOf [c]) from ta] at rx
          rw [show y = V.str (strOf t) from tb] at ry
          refine op_notIn_sign pins s σ H _ _ v u Q I rx ry ⟨c, strOf t, rfl, rfl, ?_⟩
          rw [any_beq_mem] at q
          exact q
    | _ => cases e
  | _ => cases e
theorem Top.isNon {H h : Hp} {v : IV} {x : V} (t : Top Y H h v x) : decide (x = .non) = Vy.isNon v := by
  cases v with
  | non => rw [show x = .non from t]; rfl
  | bl b => rw [show x = .bl b from t]; rfl
  | int b => rw [show x = .int b from t]; rfl
  | str b => rw [show x = .str (strOf b) from t]; rfl
  | fn b => rw [show x = .ref (Y.fn b) from t]; rfl
  | cls b => rw [show x = .ref (Y.cl b) from t.1]; rfl
  | ty b => rw [show x = .ty (tyName b) from t]; rfl
  | tup xs => obtain ⟨a, _, e, _⟩ := t; rw [e]; rfl
  | lst xs => obtain ⟨a, _, e, _⟩ := t; rw [e]; rfl
  | dct xs => obtain ⟨a, e, _⟩ := t; rw [e]; rfl
  | ins c xs => obtain ⟨a, _, _, e, _⟩ := t; rw [e]; rfl
  | lam n => obtain ⟨a, _, e, _⟩ := t; rw [e]; rfl
theorem ops_is : OpR X (compareOp .Is) (rB Y (cmpop 8)) := by
  intro pins s σ H x y v u Q I rx ry hh
  obtain ⟨a, b, r, h, ta, tb, up, e, q⟩ := hh
  unfold cmpop at e
  cases b <;> cases e
  exact op_isN pins s σ H x y v u Q I rx ry ⟨tb, by rw [ta.isNon]; exact q⟩
theorem ops_isnot : OpR X (compareOp .IsNot) (rB Y (cmpop 9)) := by
  intro pins s σ H x y v u Q I rx ry hh
  obtain ⟨a, b, r, h, ta, tb, up, e, q⟩ := hh
  unfold cmpop at e
  cases b <;> cases e
  exact op_notN pins s σ H x y v u Q I rx ry ⟨tb, by rw [ta.isNon]; exact q⟩
end
end Vy

end
section
set_option maxRecDepth 100000
set_option maxHeartbeats 2000000
/-! Truth, tests, and / or / not / if. -/
namespace PySem
section
variable {prog : Program} {w : World} {K : Type} [DecidableEq K] {kn : HeapKind prog w K} {A : Around} {E : Value → Shared → Prop} {s : Shared}
/-- the truth of a dict whose keys lie in the heap -/
theorem vy_truthyH {d : Addr} {xs : List (K × Addr × Value)} {Q : Bool → Shared → Prop} (lo : (d == sysModules) = false) (m : s.heap.DictOfH kn d xs) (fit : (xs.length : Int) < 2 ^ 63)
    (q : Q (!xs.isEmpty) { s with toks := s.toks + 1 + 1 }) : wpAny (model prog w) A (truthy (.ref d)) Q E s := by
  have ne : ((xs.length : Int) != 0) = !xs.isEmpty := by
    cases xs with
    | nil => rfl
    | cons x r => simp; omega
  have ln : wpAny (model prog w) A (runValue (.builtin "len" ⟨[.ref d], []⟩)) (fun r t => r = .int xs.length (s.toks + 1) ∧ Q (!xs.isEmpty) t) E s := by
    apply wpAny_runValue
    apply codeAny_builtin entry_len
    rw [Around.under_plainId plain_len _]
    refine wpAny_mono (wpAny_len_body_dictH (Q := fun r t => r = .int xs.length (s.toks + 1) ∧ Q (!xs.isEmpty) t) lo m fit ⟨rfl, q⟩) (fun z t ht => ?_) fun _ _ e => e
    obtain ⟨r, rfl, hq⟩ := ht
    exact hq
  unfold truthy
  first
    | apply wpAny_bind (wpAny_callSpecial?_none (name := Str.ofString "__bool__") m.typeIs noBool_dict _)
    | apply wpAny_bind (wpAny_pure (wpAny_bind (wpAny_callSpecial?_none (name := Str.ofString "__bool__") m.typeIs noBool_dict _)))
  first
    | apply wpAny_bind (wpAny_specialOf (name := Str.ofString "__len__") m.typeIs F.slot_dict_len.lookup _)
    | apply wpAny_bind (wpAny_pure (wpAny_bind (wpAny_specialOf (name := Str.ofString "__len__") m.typeIs F.slot_dict_len.lookup _)))
  first
    | exact wpAny_bind (wpAny_mono ln (fun r t ht => by obtain ⟨rfl, hq⟩ := ht; exact wpAny_pure (ne ▸ hq)) fun _ _ e => e)
    | exact wpAny_bind (wpAny_pure (wpAny_bind (wpAny_mono ln (fun r t ht => by obtain ⟨rfl, hq⟩ := ht; exact wpAny_pure (ne ▸ hq)) fun _ _ e => e)))
end
end PySem
namespace Vy
open PySem L2
theorem empty_of {α β : Type} {xs : List α} {ys : List β} (h : xs.length = ys.length) : xs.isEmpty = ys.isEmpty := by
  cases xs <;> cases ys <;> simp at h ⊢
theorem line_small {n : Nat} (h : n ≤ sizeLine) : (n : Int) < 2 ^ 63 := by
  rw [sizeLine_eq] at h
  omega
section
variable {X : Cx} {Y : Names}
def rT (Y : Names) : V → Hp → (Bool → Hp → Prop) → Prop := fun x H Q => ∃ v h k, Top Y H h v x ∧ Up h H ∧ truth v = some k ∧ Q k H
theorem ops_truth (hY : Fits Y X) : TruR X (rT Y) := by
  intro pins s σ H x u Q I rx hh
  obtain ⟨v, h, k, t, up, e, q⟩ := hh
  have go : ∀ k', TruV X.K x H k' → k' = k → wpAny (model X.prog X.w) X.A (truthy u) (TP X pins σ Q) X.xe s := fun k' tv ek => tru_ok pins s σ H x u Q I rx ⟨k', tv, ek ▸ q⟩
  cases v with
  | non => cases e; rw [show x = .non from t] at go; exact go false rfl rfl
  | bl b =>
    cases e
    rw [show x = .bl k from t] at go
    exact go k rfl rfl
  | int i =>
    cases e
    rw [show x = .int i from t] at go
    refine go (i != 0) rfl ?_
    by_cases z : i = 0
    · subst z; rfl
    · simp [z]
  | str y =>
    unfold truth at e
    dsimp only at e
    cases z : Nat.ble y.length 1000000 with
    | false => rw [z] at e; cases e
    | true =>
      rw [z] at e
      cases e
      rw [show x = .str (strOf y) from t] at go
      refine go (((strOf y).length : Int) != 0) ⟨by rw [strOf_length]; exact line1 z, rfl⟩ ?_
      rw [strOf_length]
      cases y with
      | nil => rfl
      | cons a r => simp; omega
  | tup xs =>
    cases e
    obtain ⟨a, vs, rfl, st, r⟩ := t
    exact go (!vs.isEmpty) (.inr (.inl ⟨vs, hY.K ▸ up.le.sqT st, rfl⟩)) (by rw [empty_of r.length])
  | lst xs =>
    cases e
    obtain ⟨a, vs, rfl, st, r⟩ := t
    exact go (!vs.isEmpty) (.inl ⟨vs, .inl st, rfl⟩) (by rw [empty_of r.length])
  | dct kvs =>
    cases e
    obtain ⟨a, rfl, d⟩ := Top.isD hY I up t
    cases rx
    rcases d with ⟨hd, ps, vs, r, z, rel, dd⟩ | ⟨hd, ps, xs, r, z, rel, dd⟩
    · have l1 : kvs.length = vs.length := by rw [← r.length, rel.length]
      refine wpAny_truthy_dict hd dd (line_small (by rw [← rel.length]; exact z)) ⟨H, I.tok _, ?_⟩
      rw [← empty_of l1]
      exact q
    · have l1 : kvs.length = xs.length := by rw [← r.length, Paired.length rel]
      refine vy_truthyH hd dd (line_small (by rw [← Paired.length rel]; exact z)) ⟨H, I.tok _, ?_⟩
      rw [← empty_of l1]
      exact q
  | _ => cases e
end
/-! ### tests -/
section
variable {R : Fr} {H h : Hp} {σ : L2.St} {e : Env} {F : Fp}
def OKb (R : Fr) (H h : Hp) (F : Fp) (σ : L2.St) (Q : Bool → Hp → Prop) : Bool → Env → Prop := fun b e' => ∀ H' h' F', Go H h F H' h' F' → St R.Y H' h' σ e' F' → Q b H'
abbrev BDen := Env → Res Bool
def tT (R : Fr) (d : BDen) : TT := fun σ H Q => ∃ e h F, St R.Y H h σ e F ∧ wpR (d e) (OKb R H h F σ Q) (EXx R H h F σ)
theorem OKb.go {H1 h1 : Hp} {F1 : Fp} {Q : Bool → Hp → Prop} (g : Go H h F H1 h1 F1) {b : Bool} {e : Env} (q : OKb R H h F σ Q b e) : OKb R H1 h1 F1 σ Q b e := fun H' h' F' g' s => q H' h' F' (g.trans g') s
/-- how a value's truth is asked, by the text's classes -/
def TrR (R : Fr) (X : Cx) (T : Tab) (C : Callee) : Prop := ∀ (pins : List (Addr × Obj)) (s : Shared) (σ : L2.St) (H : Hp) (x : V) (u : Value) (Q : Bool → Hp → Prop), Inv X pins σ H s → RelV x u →
  (∃ e h F v, St R.Y H h σ e F ∧ Top R.Y H h v x ∧ wpR (truthR T C v e) (OKb R H h F σ Q) (EXx R H h F σ)) → wpAny (model X.prog X.w) X.A (truthy u) (TP X pins σ Q) X.xe s
theorem trR_plain {X : Cx} {T : Tab} {C : Callee} (hY : Fits R.Y X) (hT : ∀ c, metG T (some c) 1 = none) : TrR R X T C := by
  intro pins s σ H x u Q I rx hh
  obtain ⟨e, h, F, v, S, t, w⟩ := hh
  have m : metG T (clsS (.fz v)) 1 = none := by
    cases hc : clsS (.fz v) with
    | none => rfl
    | some c => exact hT c
  unfold truthR at w
  rw [m] at w
  obtain ⟨k, ek, q⟩ := wpR_retO.mp w
  exact ops_truth hY pins s σ H x u Q I rx ⟨v, h, k, t, S.le, ek, q H h F .refl S⟩
theorem truthR_of {T : Tab} {C : Callee} {v : IV} {k : Bool} {e : Env} (h : truth v = some k) : truthR T C v e = .ok k e := by
  have m : metG T (clsS (.fz v)) 1 = none := by cases v <;> first | rfl | cases h
  unfold truthR
  rw [m, h]
  rfl
/-- a value that is tested -/
theorem pt_tst {X : Cx} {T : Tab} {C : Callee} {a : Expr} {o : ODen} (hT : TrR R X T C) (ha : PE X a (tO R o)) (he : ∀ whole, isTrue a X.env whole = (do let v ← whole; standAt a.pos; holding [v] (truthy v)) := by intro _; rfl) :
    PT X a (tT R (tst T C o)) := by
  refine ⟨fun pins s σ H Q I hh => ?_⟩
  obtain ⟨e, h, F, S, w⟩ := hh
  refine PyProof.Rows.isTrue_plain (thn (ha.run pins s σ H (fun x H1 => ∃ e h F v, St R.Y H1 h σ e F ∧ Top R.Y H1 h v x ∧ wpR (truthR T C v e) (OKb R H1 h F σ Q) (EXx R H1 h F σ)) I ⟨e, h, F, S, wpR_mono (wpR_bind.mp w) (fun o1 e1 w1 => ?_) fun _ _ _ q => q⟩)
    fun v s1 ⟨x, H1, I1, r1, q1⟩ => hT pins s1 σ H1 x v Q I1 r1 q1) (he _)
  intro x H1 h1 F1 g1 S1 rx
  cases q : o1.at e1 with
  | none => rw [q] at w1; exact w1.elim
  | some v =>
    rw [q] at w1
    have w1 : wpR (truthR T C v e1) (OKb R H h F σ Q) (EXx R H h F σ) := w1
    exact ⟨e1, h1, F1, v, S1, S1.top rx q, wpR_mono w1 (fun b e' q => q.go g1) fun _ _ _ q => q.go g1⟩
end
end Vy

end
section
set_option maxRecDepth 100000
set_option maxHeartbeats 2000000
/-! Rules: names, constants, operators, tests. -/
namespace Vy
open PySem PySem.Spec PyProof.Rows L2
section
variable {R : Fr} {X : Cx} {T : Tab} {C : Callee} {a b c : Expr} {da db dc : Den} {oa ob oc : ODen} {pos : Pos} {rest : List Expr}
/-! ### operands -/
theorem vs_ (i : Nat) {x : Str} {pos : Pos} (h : PE X (.Name x pos) (tVar i)) : PE X (.Name x pos) (tO R (oS i)) := pe_weak h fun _ _ _ => tO_oS
theorem ve_ (h : PE X a (tE R da)) : PE X a (tO R (oE da)) := pe_weak h fun _ _ _ => tO_oE
theorem vv_ (i : Nat) {x : Str} {pos : Pos} (h : PE X (.Name x pos) (tVar i)) : PE X (.Name x pos) (tE R (dVar i)) := pe_weak h fun _ _ _ => tE_var
theorem vc_ {x : IV} {v : V} (h : PE X a (tC v)) (hv : ∀ h, RF R.Y h x v := by intro _; rfl) : PE X a (tE R (dCon x)) := pe_weak h fun _ _ _ => tE_con hv
/-! ### operators -/
theorem vbin {op : Operator} {o : Nat} (ho : OpR X (binaryOp op) (rG R.Y (binop o))) (ha : PE X a (tO R oa)) (hb : PE X b (tO R ob)) : PE X (.BinOp a op b pos) (tE R (dBin o oa ob)) :=
  pe_weak (pe_op ho ha hb) fun _ _ _ => tE_look2 fun v w e => ⟨_, rfl⟩
/-- a comparison that asks nobody -/
theorem vcmp {op : CmpOp} {o : Nat} (ho : OpR X (compareOp op) (rB R.Y (cmpop (o + 2)))) (ha : PE X a (tO R oa)) (hb : PE X b (tO R ob)) (hm : behindInMarks op b = false) : PE X (.Compare a [op] [b] pos) (tE R (dCmp T C (o + 2) oa ob)) :=
  pe_weak (pe_cmpR ho ha hb hm) fun _ _ _ => tE_look2b fun v w e => ⟨_, rfl⟩
/-! ### answers that are truth values -/
def BRes : Res SV → Prop
  | .ok a _ => ∃ b, a = .fz (.bl b)
  | .exc _ _ _ => True
  | .ask _ k => ∀ i, BRes (k i)
  | .bad _ => True
theorem BRes_bind {α : Type} {f : α → Env → Res SV} (h : ∀ a e, BRes (f a e)) : ∀ r : Res α, BRes (r.bind f)
  | .ok a e => h a e
  | .exc _ _ _ => True.intro
  | .ask _ k => fun i => BRes_bind h (k i)
  | .bad _ => True.intro
theorem BRes_ok (b : Bool) (e : Env) : BRes (.ok (.fz (.bl b)) e) := ⟨b, rfl⟩
theorem wp_tst {e : Env} {QQ : Bool → Env → Prop} {E : Nat → List (Nat × IV) → Env → Prop} : ∀ {r : Res SV}, BRes r → wpR ((r.bind fun r e => .ok (.vl r.frz) e).bind fun x e => match OV.at x e with
    | some v => truthR T C v e
    | none => .bad 608) QQ E → wpR r (fun r e' => ∃ b, r = .fz (.bl b) ∧ QQ b e') E
  | .ok a e', ⟨b, h⟩, w => by
    subst h
    exact ⟨b, rfl, w⟩
  | .exc _ _ _, _, w => w
  | .ask n k, h, w => fun i hi => wp_tst (e := e) (h i) (w i hi)
  | .bad _, _, w => w
theorem tT_b {d : Den} {σ : L2.St} {H : Hp} {Q : Bool → Hp → Prop} {t : TE} (hB : ∀ e, BRes (d e)) (ht : ∀ Q : VK, tE R d σ H Q → t σ H Q) (q : tT R (tst T C (oE d)) σ H Q) : tTest t σ H Q := by
  obtain ⟨e, h, F, S, w⟩ := q
  refine ht _ ⟨e, h, F, S, wpR_mono (wp_tst (e := e) (hB e) w) (fun r e' qq => ?_) fun _ _ _ q => q⟩
  obtain ⟨b, rfl, qq⟩ := qq
  intro x A H1 h1 F1 g S1 rs o
  exact ⟨b, rs.2, qq H1 h1 F1 g S1⟩
theorem BRes_look2 {oa ob : ODen} {k : IV → IV → Env → Res SV} (h : ∀ v w e, BRes (k v w e)) (e : Env) : BRes (looked2 oa ob k e) := by
  refine BRes_bind (fun x e => BRes_bind (fun y e => ?_) _) _
  split
  · split
    · exact h _ _ _
    · exact True.intro
  · exact True.intro
theorem BRes_cmp (o : Nat) (e : Env) : BRes (dCmp T C o oa ob e) := by
  refine BRes_look2 (fun v w e => ?_) e
  split
  · exact BRes_bind (fun t e => BRes_ok t e) _
  · exact BRes_bind (fun t e => BRes_ok (!t) e) _
  · exact BRes_bind (fun t e => BRes_ok t e) _
/-- .. as a test -/
theorem vcmpT {op : CmpOp} {o : Nat} (ho : OpR X (compareOp op) (rB R.Y (cmpop (o + 2)))) (ha : PE X a (tO R oa)) (hb : PE X b (tO R ob)) (hm : behindInMarks op b = false) : PT X (.Compare a [op] [b] pos) (tT R (tst T C (oE (dCmp T C (o + 2) oa ob)))) :=
  pt_weak (pt_cmpR ho ha hb hm) fun _ _ _ => tT_b (fun e => BRes_cmp _ e) fun _ => tE_look2b fun v w e => ⟨_, rfl⟩
/-! ### == that may ask a class -/
def rEq (R : Fr) (T : Tab) (C : Callee) (n : Bool → Bool) (σ : L2.St) : V → V → Hp → VK → Prop := fun x y H Q => ∃ e h F v w, St R.Y H h σ e F ∧ Top R.Y H h v x ∧ Top R.Y H h w y ∧
  wpR (eqR T C v w e) (OKb R H h F σ fun t H' => Q (.bl (n t)) H') (EXx R H h F σ)
def OpS (X : Cx) (f : Value → Value → Sem Value) (r : L2.St → V → V → Hp → VK → Prop) : Prop := ∀ (pins : List (Addr × Obj)) (s : Shared) (σ : L2.St) (H : Hp) (x y : V) (v u : Value) (Q : VK), Inv X pins σ H s → RelV x v → RelV y u → r σ x y H Q →
  wpAny (model X.prog X.w) X.A (f v u) (EP X pins σ Q) X.xe s
theorem pe_cmpS {op : CmpOp} {r : L2.St → V → V → Hp → VK → Prop} {ta tb : TE} (ho : OpS X (compareOp op) r) (ha : PE X a ta) (hb : PE X b tb) (hm : behindInMarks op b = false) :
    PE X (.Compare a [op] [b] pos) (fun σ H Q => ta σ H fun x H1 => tb σ H1 fun y H2 => r σ x y H2 Q) := by
  refine ⟨fun pins s σ H Q I h => ?_⟩
  refine wpAny_Compare1 (thn (ha.run pins s σ H _ I h) fun v s1 ⟨x, H1, I1, r1, q1⟩ => ?_) hm
  exact thn (hb.run pins s1 σ H1 _ I1 q1) fun u s2 ⟨y, H2, I2, r2, q2⟩ => ho pins s2 σ H2 x y v u Q I2 r1 r2 q2
theorem pt_cmpS {op : CmpOp} {r : L2.St → V → V → Hp → VK → Prop} {ta tb : TE} (ho : OpS X (compareOp op) r) (ha : PE X a ta) (hb : PE X b tb) (hm : behindInMarks op b = false) :
    PT X (.Compare a [op] [b] pos) (tTest fun σ H Q => ta σ H fun x H1 => tb σ H1 fun y H2 => r σ x y H2 Q) := by
  refine ⟨fun pins s σ H Q I h => ?_⟩
  refine wpAny_isTrue_Compare1 (thn (ha.run pins s σ H _ I h) fun v s1 ⟨x, H1, I1, r1, q1⟩ => ?_) hm
  refine thn (hb.run pins s1 σ H1 _ I1 q1) fun u s2 ⟨y, H2, I2, r2, q2⟩ => ?_
  refine thn (ho pins s2 σ H2 x y v u _ I2 r1 r2 q2) fun c s3 ⟨z, H3, I3, r3, k, e, q3⟩ => ?_
  subst e
  cases r3
  exact wpAny_truthy_bool ⟨H3, I3, q3⟩
theorem tE_eq {n : Bool → Bool} {o : Nat} (hd : ∀ e, dCmp T C o oa ob e = looked2 oa ob (fun v w e => (eqR T C v w e).bind fun t e => .ok (.fz (.bl (n t))) e) e) {σ : L2.St} {H : Hp} {Q : VK} (t : tE R (dCmp T C o oa ob) σ H Q) :
    tO R oa σ H fun x H1 => tO R ob σ H1 fun y H2 => rEq R T C n σ x y H2 Q := by
  obtain ⟨e, h, F, S, w⟩ := t
  rw [hd] at w
  refine ⟨e, h, F, S, wpR_mono (wpR_bind.mp w) (fun ox e1 w1 => ?_) fun _ _ _ q => q⟩
  intro x H1 h1 F1 g1 S1 rx
  refine ⟨e1, h1, F1, S1, wpR_mono (wpR_bind.mp w1) (fun oy e2 w2 => ?_) fun _ _ _ q => q.go g1⟩
  intro y H2 h2 F2 g2 S2 ry
  cases qx : ox.at e2 with
  | none => rw [qx] at w2; exact w2.elim
  | some v =>
    rw [qx] at w2
    cases qy : oy.at e2 with
    | none => rw [qy] at w2; exact w2.elim
    | some u =>
      rw [qy] at w2
      refine ⟨e2, h2, F2, v, u, S2, S2.top (rx.up g2.up) qx, S2.top ry qy, wpR_mono (wpR_bind.mp w2) (fun t e' q => ?_) fun _ _ _ q => EXx.go (g1.trans g2) q⟩
      intro H' h' F' g S'
      exact q (.bl (n t)) [] H' h' F' ((g1.trans g2).trans g) S' ⟨rfl, rfl⟩ .nil
def EqOk (R : Fr) (X : Cx) (T : Tab) (C : Callee) : Prop := OpS X (compareOp .Eq) (rEq R T C id) ∧ OpS X (compareOp .NotEq) (rEq R T C (!·))
theorem veqE (hE : EqOk R X T C) (ha : PE X a (tO R oa)) (hb : PE X b (tO R ob)) : PE X (.Compare a [.Eq] [b] pos) (tE R (dCmp T C 0 oa ob)) := pe_weak (pe_cmpS hE.1 ha hb (nomark _)) fun _ _ _ => tE_eq (n := id) fun _ => rfl
theorem vneE (hE : EqOk R X T C) (ha : PE X a (tO R oa)) (hb : PE X b (tO R ob)) : PE X (.Compare a [.NotEq] [b] pos) (tE R (dCmp T C 1 oa ob)) := pe_weak (pe_cmpS hE.2 ha hb (nomark _)) fun _ _ _ => tE_eq (n := (!·)) fun _ => rfl
theorem veqT (hE : EqOk R X T C) (ha : PE X a (tO R oa)) (hb : PE X b (tO R ob)) : PT X (.Compare a [.Eq] [b] pos) (tT R (tst T C (oE (dCmp T C 0 oa ob)))) :=
  pt_weak (pt_cmpS hE.1 ha hb (nomark _)) fun _ _ _ => tT_b (fun e => BRes_cmp _ e) fun _ => tE_eq (n := id) fun _ => rfl
theorem vneT (hE : EqOk R X T C) (ha : PE X a (tO R oa)) (hb : PE X b (tO R ob)) : PT X (.Compare a [.NotEq] [b] pos) (tT R (tst T C (oE (dCmp T C 1 oa ob)))) :=
  pt_weak (pt_cmpS hE.2 ha hb (nomark _)) fun _ _ _ => tT_b (fun e => BRes_cmp _ e) fun _ => tE_eq (n := (!·)) fun _ => rfl
theorem eqOk_plain (hY : Fits R.Y X) (hu : X.A.units + 64 < cLine) (hT : ∀ c, metG T (some c) 0 = none) : EqOk R X T C := by
  have m : ∀ v, metG T (clsS (.fz v)) 0 = none := fun v => by
    cases hc : clsS (.fz v) with
    | none => rfl
    | some c => exact hT c
  refine ⟨?_, ?_⟩
  · intro pins s σ H x y v u Q I rx ry hh
    obtain ⟨e, h, F, a, b, S, ta, tb, w⟩ := hh
    unfold eqR at w
    rw [m] at w
    obtain ⟨t, et, q⟩ := wpR_retO.mp w
    exact ops_eq hY.K hu pins s σ H x y v u Q I rx ry ⟨a, b, t, h, ta, tb, S.le, et, q H h F .refl S⟩
  · intro pins s σ H x y v u Q I rx ry hh
    obtain ⟨e, h, F, a, b, S, ta, tb, w⟩ := hh
    unfold eqR at w
    rw [m] at w
    obtain ⟨t, et, q⟩ := wpR_retO.mp w
    exact ops_ne hY.K hu pins s σ H x y v u Q I rx ry ⟨a, b, !t, h, ta, tb, S.le, by dsimp only; rw [et]; rfl, q H h F .refl S⟩
/-! ### and, or, not, if -/
theorem tE_thaw {d : Den} {k : IV → Env → Res SV} {σ : L2.St} {H : Hp} {Q : VK} (t : tE R (fun e => (thaw d e).bind k) σ H Q) : tE R d σ H fun x H1 => ∃ e h F v, St R.Y H1 h σ e F ∧ RF R.Y h v x ∧ wpR (k v e) (OKs R H1 h F σ Q) (EXx R H1 h F σ) := by
  obtain ⟨e, h, F, S, w⟩ := t
  refine ⟨e, h, F, S, wpR_mono (wpR_bind.mp (wpR_bind.mp w)) (fun r e1 w1 => ?_) fun _ _ _ q => q⟩
  intro x A H1 h1 F1 g1 S1 rs o
  obtain ⟨S2, g2, rf⟩ := S1.letRes rs o (fun _ _ => .inr True.intro)
  exact ⟨e1, _, F1, r.frz, S2, rf, wpR_mono w1 (fun b e' q => q.go (g2 g1)) fun _ _ _ q => q.go (g2 g1)⟩
theorem vand (hY : Fits R.Y X) (ha : PE X a (tE R da)) (hb : PE X (.BoolOp .And (b :: rest) pos) (tE R db)) : PE X (.BoolOp .And (a :: b :: rest) pos) (tE R (dAnd da db)) := by
  refine ⟨fun pins s σ H Q I h => ?_⟩
  refine PyProof.Rows.BoolOp_and (thn (ha.run pins s σ H _ I (tE_thaw h)) fun v s1 ⟨x, H1, I1, r1, e1, h1, F1, v1, S1, rf, w⟩ => ?_)
  obtain ⟨k, ek, w⟩ := wpR_retO.mp (wpR_bind.mp w)
  refine thn (ops_truth hY pins s1 σ H1 x v (fun c H2 => c = k ∧ H2 = H1) I1 r1 ⟨v1, h1, k, rf.top S1.le, S1.le, ek, rfl, rfl⟩) fun c s2 hc => ?_
  obtain ⟨H2, I2, rfl, rfl⟩ := hc
  cases c with
  | true => exact hb.run pins s2 σ H2 Q I2 ⟨e1, h1, F1, S1, w⟩
  | false => exact ⟨x, H2, I2, r1, w x [] H2 h1 F1 .refl S1 ⟨rfl, rf⟩ .nil⟩
theorem vor (hY : Fits R.Y X) (ha : PE X a (tE R da)) (hb : PE X (.BoolOp .Or (b :: rest) pos) (tE R db)) : PE X (.BoolOp .Or (a :: b :: rest) pos) (tE R (dOr da db)) := by
  refine ⟨fun pins s σ H Q I h => ?_⟩
  refine PyProof.Rows.BoolOp_or (thn (ha.run pins s σ H _ I (tE_thaw h)) fun v s1 ⟨x, H1, I1, r1, e1, h1, F1, v1, S1, rf, w⟩ => ?_)
  obtain ⟨k, ek, w⟩ := wpR_retO.mp (wpR_bind.mp w)
  refine thn (ops_truth hY pins s1 σ H1 x v (fun c H2 => c = k ∧ H2 = H1) I1 r1 ⟨v1, h1, k, rf.top S1.le, S1.le, ek, rfl, rfl⟩) fun c s2 hc => ?_
  obtain ⟨H2, I2, rfl, rfl⟩ := hc
  cases c with
  | true => exact ⟨x, H2, I2, r1, w x [] H2 h1 F1 .refl S1 ⟨rfl, rf⟩ .nil⟩
  | false => exact hb.run pins s2 σ H2 Q I2 ⟨e1, h1, F1, S1, w⟩
theorem vone {op : BoolOp} (ha : PE X a (tE R da)) : PE X (.BoolOp op [a] pos) (tE R da) := pe_one ha
/-- the wp of a test of a value -/
theorem wp_tstE {d : Den} {e : Env} {QQ : Bool → Env → Prop} {E : Nat → List (Nat × IV) → Env → Prop} : wpR (tst T C (oE d) e) QQ E ↔ wpR (d e) (fun r e' => wpR (truthR T C r.frz e') QQ E) E := by
  unfold tst oE
  rw [wpR_bind, wpR_bind]
  rfl
theorem wp_thaw {α : Type} {d : Den} {k : IV → Env → Res α} {e : Env} {QQ : α → Env → Prop} {E : Nat → List (Nat × IV) → Env → Prop} : wpR ((thaw d e).bind k) QQ E ↔ wpR (d e) (fun r e' => wpR (k r.frz e') QQ E) E := by
  unfold thaw
  rw [wpR_bind, wpR_bind]
  rfl
theorem vandT (ha : PT X a (tT R (tst T C (oE da)))) (hb : PW X (.BoolOp .And (b :: rest) pos) (tT R (tst T C (oE db)))) : PW X (.BoolOp .And (a :: b :: rest) pos) (tT R (tst T C (oE (dAnd da db)))) :=
  pw_weak (pw_and ha hb) fun σ H Q t => by
    obtain ⟨e, h, F, S, w⟩ := t
    refine ⟨e, h, F, S, wp_tstE.mpr (wpR_mono (wp_thaw.mp (wp_tstE.mp w)) (fun r e1 w1 => ?_) fun _ _ _ q => q)⟩
    obtain ⟨k, ek, w1⟩ := wpR_retO.mp (wpR_bind.mp w1)
    rw [truthR_of ek]
    intro H1 h1 F1 g1 S1
    cases k with
    | true =>
      rw [if_pos rfl]
      exact ⟨e1, h1, F1, S1, wp_tstE.mpr (wpR_mono w1 (fun r e' q => wpR_mono q (fun _ _ q => q.go g1) fun _ _ _ q => q.go g1) fun _ _ _ q => q.go g1)⟩
    | false =>
      have w1 : wpR (truthR T C r.frz e1) (OKb R H h F σ Q) (EXx R H h F σ) := w1
      rw [truthR_of ek] at w1
      rw [if_neg Bool.false_ne_true]
      exact w1 H1 h1 F1 g1 S1
theorem vorT (ha : PT X a (tT R (tst T C (oE da)))) (hb : PW X (.BoolOp .Or (b :: rest) pos) (tT R (tst T C (oE db)))) : PW X (.BoolOp .Or (a :: b :: rest) pos) (tT R (tst T C (oE (dOr da db)))) :=
  pw_weak (pw_or ha hb) fun σ H Q t => by
    obtain ⟨e, h, F, S, w⟩ := t
    refine ⟨e, h, F, S, wp_tstE.mpr (wpR_mono (wp_thaw.mp (wp_tstE.mp w)) (fun r e1 w1 => ?_) fun _ _ _ q => q)⟩
    obtain ⟨k, ek, w1⟩ := wpR_retO.mp (wpR_bind.mp w1)
    rw [truthR_of ek]
    intro H1 h1 F1 g1 S1
    cases k with
    | true =>
      have w1 : wpR (truthR T C r.frz e1) (OKb R H h F σ Q) (EXx R H h F σ) := w1
      rw [truthR_of ek] at w1
      rw [if_pos rfl]
      exact w1 H1 h1 F1 g1 S1
    | false =>
      rw [if_neg Bool.false_ne_true]
      exact ⟨e1, h1, F1, S1, wp_tstE.mpr (wpR_mono w1 (fun r e' q => wpR_mono q (fun _ _ q => q.go g1) fun _ _ _ q => q.go g1) fun _ _ _ q => q.go g1)⟩
theorem vandW (ha : PT X a (tT R (tst T C (oE da)))) : PW X (.BoolOp .And [a] pos) (tT R (tst T C (oE da))) := pw_and1 ha
theorem vorW (ha : PT X a (tT R (tst T C (oE da)))) : PW X (.BoolOp .Or [a] pos) (tT R (tst T C (oE da))) := pw_or1 ha
theorem vnotT {d : BDen} (ha : PT X a (tT R (tst T C oa))) : PT X (.UnaryOp .Not a pos) (tT R (tst T C (oE (dNot T C oa)))) :=
  pt_weak (pt_not ha) fun σ H Q t => by
    obtain ⟨e, h, F, S, w⟩ := t
    refine ⟨e, h, F, S, wpR_mono (wpR_bind.mp (wp_tstE.mp w)) (fun t e1 w1 => ?_) fun _ _ _ q => q⟩
    intro H1 h1 F1 g1 S1
    have w1 : wpR (truthR T C (.bl (!t)) e1) (OKb R H h F σ Q) (EXx R H h F σ) := w1
    rw [truthR_of (k := !t) rfl] at w1
    exact w1 H1 h1 F1 g1 S1
theorem vnot (hT : TrR R X T C) (ha : PE X a (tO R oa)) : PE X (.UnaryOp .Not a pos) (tE R (dNot T C oa)) := by
  refine ⟨fun pins s σ H Q I hh => ?_⟩
  obtain ⟨e, h, F, S, w⟩ := hh
  refine PyProof.Rows.UnaryOp_ (thn (ha.run pins s σ H (fun x H1 => ∃ e h F v, St R.Y H1 h σ e F ∧ Top R.Y H1 h v x ∧ wpR (truthR T C v e) (OKb R H1 h F σ fun k H2 => Q (.bl (!k)) H2) (EXx R H1 h F σ)) I ⟨e, h, F, S, wpR_mono (wpR_bind.mp (wpR_bind.mp w)) (fun o1 e1 w1 => ?_) fun _ _ _ q => q⟩)
    fun v s1 ⟨x, H1, I1, r1, q1⟩ => PyProof.Rows.not_of (thn (hT pins s1 σ H1 x v _ I1 r1 q1) fun c s2 ⟨H2, I2, q2⟩ => ⟨.bl (!c), H2, I2, rfl, q2⟩))
  intro x H1 h1 F1 g1 S1 rx
  cases q : o1.at e1 with
  | none => rw [q] at w1; exact w1.elim
  | some v =>
    rw [q] at w1
    have w1 : wpR (truthR T C v e1) (fun t e2 => wpR (.ok (.fz (.bl (!t))) e2) (OKs R H h F σ Q) (EXx R H h F σ)) (EXx R H h F σ) := w1
    refine ⟨e1, h1, F1, v, S1, S1.top rx q, wpR_mono w1 (fun b e' q => ?_) fun _ _ _ q => q.go g1⟩
    intro H2 h2 F2 g2 S2
    exact q (.bl (!b)) [] H2 h2 F2 (g1.trans g2) S2 ⟨rfl, rfl⟩ .nil
/-- a if c else b -/
theorem vite (hc : PT X c (tT R (tst T C oc))) (ha : PE X a (tE R da)) (hb : PE X b (tE R db)) : PE X (.IfExp c a b pos) (tE R (dIte T C oc da db)) :=
  pe_weak (pe_ifExp hc ha hb) fun σ H Q t => by
    obtain ⟨e, h, F, S, w⟩ := t
    refine ⟨e, h, F, S, wpR_mono (wpR_bind.mp w) (fun t e1 w1 => ?_) fun _ _ _ q => q⟩
    intro H1 h1 F1 g1 S1
    cases t with
    | true =>
      rw [if_pos rfl]
      exact ⟨e1, h1, F1, S1, wpR_mono w1 (fun _ _ q => q.go g1) fun _ _ _ q => q.go g1⟩
    | false =>
      rw [if_neg Bool.false_ne_true]
      exact ⟨e1, h1, F1, S1, wpR_mono w1 (fun _ _ q => q.go g1) fun _ _ _ q => q.go g1⟩

end
end Vy

end
section
set_option maxRecDepth 100000
set_option maxHeartbeats 2000000
/-! Displays, items, slices, attributes. -/
namespace Vy
open PySem PySem.Spec PyProof.Rows L2 StX
theorem fits_line {n : Nat} (h : fits n = true) : n ≤ sizeLine := line1 h
section
variable {R : Fr} {X : Cx} {T : Tab} {C : Callee} {H h : Hp} {σ : L2.St} {e : Env} {F : Fp} {Q : VK}
/-! ### rows of values -/
def OKa (R : Fr) (H h : Hp) (F : Fp) (σ : L2.St) (Q : List V → Hp → Prop) : List IV → Env → Prop := fun xs e' => ∀ vs H' h' F', Go H h F H' h' F' → St R.Y H' h' σ e' F' → RFL R.Y h' xs vs → Q vs H'
def tA (R : Fr) (d : LDen) : TA := fun σ H Q => ∃ e h F, St R.Y H h σ e F ∧ wpR (d e) (OKa R H h F σ Q) (EXx R H h F σ)
theorem tA_nil {Q : List V → Hp → Prop} (t : tA R lNil σ H Q) : tNil σ H Q := by
  obtain ⟨e, h, F, S, w⟩ := t
  exact w [] H h F .refl S rfl
theorem tA_cons {Q : List V → Hp → Prop} {d : Den} {r : LDen} (t : tA R (lCons d r) σ H Q) : tCons (tE R d) (tA R r) σ H Q := by
  obtain ⟨e, h, F, S, w⟩ := t
  refine ⟨e, h, F, S, wpR_mono (wp_thaw.mp w) (fun r e1 w1 => ?_) fun _ _ _ q => q⟩
  intro x A H1 h1 F1 g1 S1 rs o
  obtain ⟨S2, g2, rf⟩ := S1.letRes rs o (fun _ _ => .inr True.intro)
  refine ⟨e1, _, F1, S2, wpR_mono (wpR_bind.mp w1) (fun xs e2 w2 => ?_) fun _ _ _ q => q.go (g2 g1)⟩
  intro vs H3 h3 F3 g3 S3 rv
  exact w2 (x :: vs) H3 h3 F3 ((g2 g1).trans g3) S3 ⟨x, vs, rfl, RF.up g3.up _ rf, rv⟩
theorem tA_star (hY : Fits R.Y X) {Q : List V → Hp → Prop} {o : ODen} {r : LDen} (t : tA R (lStar o r) σ H Q) : tStar X.K (tO R o) (tA R r) σ H Q := by
  obtain ⟨e, h, F, S, w⟩ := t
  refine ⟨e, h, F, S, wpR_mono (wpR_bind.mp w) (fun ox e1 w1 => ?_) fun _ _ _ q => q⟩
  intro x H1 h1 F1 g1 S1 rx
  cases q : ox.at e1 with
  | none => rw [q] at w1; exact w1.elim
  | some v =>
    rw [q] at w1
    have tv := S1.top rx q
    have go : ∀ (ys : List IV) (ws : List V), RFL R.Y h1 ys ws → wpR ((r e1).bind fun xs e => .ok (ys ++ xs) e) (OKa R H h F σ Q) (EXx R H h F σ) → tA R r σ H1 fun zs H2 => Q (ws ++ zs) H2 := fun ys ws rw_ w1 => by
      refine ⟨e1, h1, F1, S1, wpR_mono (wpR_bind.mp w1) (fun xs e2 w2 => ?_) fun _ _ _ q => q.go g1⟩
      intro vs H3 h3 F3 g3 S3 rv
      exact w2 (ws ++ vs) H3 h3 F3 (g1.trans g3) S3 (RFL.append (RFL.up g3.up _ rw_) rv)
    cases v with
    | tup xs =>
      obtain ⟨a, vs, rfl, st, rl⟩ := tv
      exact ⟨a, vs, rfl, .inl (hY.K ▸ S1.le.le.sqT st), go xs vs rl w1⟩
    | lst xs =>
      obtain ⟨a, vs, rfl, st, rl⟩ := tv
      exact ⟨a, vs, rfl, .inr (.inl st), go xs vs rl w1⟩
    | _ => exact w1.elim
theorem tE_tup {l : LDen} (t : tE R (dTup l) σ H Q) : tTup (tA R l) σ H Q := by
  obtain ⟨e, h, F, S, w⟩ := t
  refine ⟨e, h, F, S, wpR_mono (wpR_bind.mp w) (fun xs e1 w1 => ?_) fun _ _ _ q => q⟩
  intro vs H1 h1 F1 g1 S1 rl
  cases z : fits xs.length with
  | false => rw [z] at w1; exact w1.elim
  | true =>
    rw [z] at w1
    refine ⟨by rw [rl.length]; exact fits_line z, fun p hp => ?_⟩
    exact (gives_of S1 (OKs.go g1 w1)).tup S1.le rl hp
theorem tE_lst {l : LDen} (t : tE R (dLst l) σ H Q) : tLst (tA R l) σ H Q := by
  obtain ⟨e, h, F, S, w⟩ := t
  refine ⟨e, h, F, S, wpR_mono (wpR_bind.mp w) (fun xs e1 w1 => ?_) fun _ _ _ q => q⟩
  intro vs H1 h1 F1 g1 S1 rl
  cases z : fits xs.length with
  | false => rw [z] at w1; exact w1.elim
  | true =>
    rw [z] at w1
    refine ⟨by rw [rl.length]; exact fits_line z, fun p hp => ?_⟩
    exact (gives_of S1 (OKs.go g1 w1)).nl S1.le rl hp
variable {a b c : Expr} {da db dc : Den} {oa ob oc : ODen} {pos : Pos} {es : List Expr} {l : LDen}
theorem vanil : PA X [] (tA R lNil) := pa_weak pa_nil fun _ _ _ => tA_nil
theorem vacons (ha : PE X a (tE R da)) (hr : PA X es (tA R l)) (hs : starEach (a :: es) X.env = (false, eval a X.env) :: starEach es X.env := by rfl) : PA X (a :: es) (tA R (lCons da l)) := pa_weak (pa_cons ha hr hs) fun _ _ _ => tA_cons
theorem vastar (hY : Fits R.Y X) {p : Pos} (ha : PE X a (tO R oa)) (hr : PA X es (tA R l)) (hs : starEach (.Starred a p :: es) X.env = (true, eval a X.env) :: starEach es X.env := by rfl) : PA X (.Starred a p :: es) (tA R (lStar oa l)) :=
  pa_weak (pa_star ha hr hs) fun _ _ _ => tA_star hY
theorem vtup {x1} (h : PA X es (tA R l)) : PE X (.Tuple es x1 pos) (tE R (dTup l)) := pe_weak (pe_tup h) fun _ _ _ => tE_tup
theorem vlst (h : PA X es (tA R l)) : PE X (.List es pos) (tE R (dLst l)) := pe_weak (pe_lst h) fun _ _ _ => tE_lst
/-! ### items -/
theorem lstAt_get {α : Type} : ∀ (xs : List α) (k : Nat), lstAt xs k = xs[k]?
  | [], _ => by simp [lstAt]
  | x :: _, 0 => by simp [lstAt]
  | _ :: xs, k + 1 => by rw [lstAt, lstAt_get xs k]; simp
theorem ixOf_ixN (n : Nat) (i : Int) : ixOf n i = ixN n i := by
  unfold ixOf ixN
  cases i with
  | ofNat k =>
    have h0 : (0 : Int) ≤ Int.ofNat k := Int.natCast_nonneg k
    dsimp only
    rw [if_pos h0]
    by_cases z : k < n
    · rw [Nat.blt_eq.mpr z, if_pos (by show (k : Int) < n; omega)]
      rfl
    · have : Nat.blt k n = false := by
        cases q : Nat.blt k n with
        | false => rfl
        | true => exact absurd (Nat.blt_eq.mp q) z
      rw [this, if_neg (by show ¬ (k : Int) < n; omega)]
  | negSucc k =>
    have h0 : ¬ (0 : Int) ≤ Int.negSucc k := by omega
    dsimp only
    rw [if_neg h0]
    by_cases z : k < n
    · rw [Nat.blt_eq.mpr z, if_pos (by omega)]
      exact congrArg some (by omega)
    · have : Nat.blt k n = false := by
        cases q : Nat.blt k n with
        | false => rfl
        | true => exact absurd (Nat.blt_eq.mp q) z
      rw [this, if_neg (by omega)]
theorem RSL.get {Y : Names} : ∀ {xs : List SV} {vs : List V} {A : List Addr} {i : Nat} {x : SV}, RSL Y H h xs vs A → xs[i]? = some x → ∃ v B, vs[i]? = some v ∧ RS Y H h x v B
  | [], _, _, i, _, _, q => by simp at q
  | y :: xs, _, _, 0, _, ⟨v, vr, B, C, e, _, r1, _⟩, q => by
    rw [e]
    simp at q
    subst q
    exact ⟨v, B, rfl, r1⟩
  | y :: xs, _, _, i + 1, _, ⟨v, vr, B, C, e, _, _, r⟩, q => by
    rw [e]
    obtain ⟨w, B2, h1, h2⟩ := RSL.get (i := i) r (by simpa using q)
    exact ⟨w, B2, by simpa using h1, h2⟩
theorem RSL.length {Y : Names} : ∀ {xs : List SV} {vs : List V} {A : List Addr}, RSL Y H h xs vs A → vs.length = xs.length
  | [], _, _, r => by rw [r.1]; rfl
  | _ :: xs, _, _, ⟨v, vr, B, C, e, _, _, r⟩ => by rw [e, List.length_cons, List.length_cons, RSL.length r]
/-- an item of what stands there -/
def rSub (Y : Names) : R2 := fun x y H Q => ∃ (s : SV) (A : List Addr) (h : Hp) (v w : IV), RS Y H h s x A ∧ Top Y H h w y ∧ Up h H ∧ subS s w = some v ∧ ∀ z, RF Y h v z → Q z H
theorem RF.tup_get (hY : Fits R.Y X) {xs : List IV} {vs : List V} {i : Int} {v : IV} (r : RFL R.Y h xs vs) (e : idx xs i = some v) : ∃ z, atI vs i = some z ∧ RF R.Y h v z := by
  unfold idx at e
  rw [ixOf_ixN] at e
  unfold atI
  rw [r.length]
  cases q : ixN xs.length i with
  | none => rw [q] at e; cases e
  | some k =>
    rw [q] at e
    have e : lstAt xs k = some v := e
    rw [lstAt_get] at e
    obtain ⟨z, h1, h2⟩ := r.get e
    exact ⟨z, h1, h2⟩
theorem ix_sub (hY : Fits R.Y X) (hu : X.A.units + 9 < cLine) : IxR X (rSub R.Y) := by
  intro value slice pins s σ H x y v u Q I rx ry hh hs
  obtain ⟨sv, A, h, a, w, r, tw, up, e, q⟩ := hh
  have dict : ∀ {α : Type} {P : α → V → Prop} {kvs : List (IV × α)} {d : Addr} {z : α}, x = .ref d → (IsDK P X R.Y h s d kvs ∨ IsDN P X R.Y h s d kvs) → kindOk (kvs.map (·.1)) w = true → dget kvs w = some z → (∀ y, P z y → Q y H) →
      wpAny (model X.prog X.w) X.A (subscriptTail value slice v u) (EP X pins σ Q) X.xe s := fun {α P kvs d z} ex dd ok g qq => by
    subst ex
    cases rx
    refine tail_any (T := "dict") ?_ slot_dict_getitem.lookup (dv_get hY hu I up dd ok (tw.key (kindOk_key ok)) ry g fun y w' s' I' p rw' => ⟨y, H, I', rw', qq y p⟩) hs
    rcases dd with ⟨_, _, _, _, _, _, dd⟩ | ⟨_, _, _, _, _, _, dd⟩ <;> exact dd.typeIs
  cases sv with
  | und => exact r.elim
  | ol xs =>
    obtain ⟨p, vs, B, rfl, _, eH, rl⟩ := r
    unfold subS at e
    cases w <;> try cases e
    rename_i i
    dsimp only at e
    rw [ixOf_ixN] at e
    cases q1 : ixN xs.length i with
    | none => rw [q1] at e; cases e
    | some k =>
      rw [q1] at e
      dsimp only at e
      rw [lstAt_get] at e
      cases q2 : xs[k]? with
      | none => rw [q2] at e; cases e
      | some t =>
        rw [q2] at e
        cases t <;> try cases e
        obtain ⟨z, B2, h1, h2⟩ := rl.get q2
        refine ix_list value slice pins s σ H _ y v u Q I rx ry ⟨p, vs, i, z, rfl, tw, .inl (.inl eH), ?_, q z h2.2⟩ hs
        unfold atI
        rw [rl.length, q1]
        exact h1
  | od kvs =>
    unfold subS at e
    dsimp only at e
    cases ok : kindOk (kvs.map (·.1)) w with
    | false => rw [ok] at e; cases e
    | true =>
      rw [ok] at e
      dsimp only at e
      obtain ⟨d, ex, dd⟩ := RS.isD hY I up r
      cases g : dget kvs w with
      | none => rw [show dgetS kvs w = none from g] at e; cases e
      | some z =>
        rw [show dgetS kvs w = some z from g] at e
        cases z <;> try cases e
        exact dict ex dd ok g fun y ⟨B, p⟩ => q y p.2
  | oi _ _ => cases e
  | tb => cases e
  | fz f =>
    have r := r.2
    have e : subV f w = some a := e
    unfold subV at e
    cases f with
    | tup xs =>
      obtain ⟨p, vs, rfl, st, rl⟩ := r
      cases w <;> try cases e
      obtain ⟨z, h1, h2⟩ := RF.tup_get hY rl e
      exact ix_tup value slice pins s σ H _ y v u Q I rx ry ⟨p, vs, _, z, rfl, tw, hY.K ▸ up.le.sqT st, h1, q z h2⟩ hs
    | lst xs =>
      obtain ⟨p, vs, rfl, st, rl⟩ := r
      cases w <;> try cases e
      obtain ⟨z, h1, h2⟩ := RF.tup_get hY rl e
      exact ix_list value slice pins s σ H _ y v u Q I rx ry ⟨p, vs, _, z, rfl, tw, .inl (up.le _ _ True.intro st), h1, q z h2⟩ hs
    | str xs =>
      cases w <;> try cases e
      rename_i i _
      dsimp only at e
      cases z : fits xs.length with
      | false => rw [z] at e; cases e
      | true =>
        rw [z] at e
        dsimp only at e
        rw [ixOf_ixN] at e
        cases q1 : ixN xs.length i with
        | none => rw [q1] at e; cases e
        | some k =>
          rw [q1] at e
          dsimp only at e
          rw [lstAt_get] at e
          cases q2 : xs[k]? with
          | none => rw [q2] at e; cases e
          | some c =>
            rw [q2] at e
            cases e
            refine ix_str value slice pins s σ H _ y v u Q I rx ry ⟨strOf xs, i, c, r, tw, by rw [strOf_length]; exact fits_line z, ?_, q _ rfl⟩ hs
            show (ixN xs.length i).bind (fun j => xs[j]?) = some c
            rw [q1]
            exact q2
    | dct kvs =>
      dsimp only at e
      cases ok : kindOk (kvs.map (·.1)) w with
      | false => rw [ok] at e; cases e
      | true =>
        rw [ok] at e
        obtain ⟨d, ex, dd⟩ := Top.isD hY I up (RF.top up r)
        exact dict ex dd ok e fun y p => q y p
    | _ => cases e
theorem tE_sub (t : tE R (dSub oa ob) σ H Q) : tOp (rSub R.Y) (tO R oa) (tO R ob) σ H Q := by
  obtain ⟨e, h, F, S, w⟩ := t
  refine ⟨e, h, F, S, wpR_mono (wpR_bind.mp w) (fun ox e1 w1 => ?_) fun _ _ _ q => q⟩
  intro x H1 h1 F1 g1 S1 rx
  refine ⟨e1, h1, F1, S1, wpR_mono (wpR_bind.mp w1) (fun oy e2 w2 => ?_) fun _ _ _ q => q.go g1⟩
  intro y H2 h2 F2 g2 S2 ry
  cases qy : oy.at e2 with
  | none => rw [qy] at w2; exact w2.elim
  | some u =>
    rw [qy] at w2
    obtain ⟨v, ev, w2⟩ := wpR_retO.mp (wpR_bind.mp w2)
    have fin : ∀ z, RF R.Y h2 v z → Q z H2 := fun z rz => w2 z [] H2 h2 F2 (g1.trans g2) S2 ⟨rfl, rz⟩ .nil
    cases ox with
    | sl i =>
      have ev : subS (getE e2 i) u = some v := ev
      have n : getE e2 i ≠ .und := fun z => by rw [z] at ev; cases ev
      obtain ⟨x', hx, rs⟩ := S2.at_ rfl n
      have hx2 : σ[i]? = some (some x) := rx
      rw [hx] at hx2
      cases hx2
      exact ⟨_, _, h2, v, u, rs, S2.top ry qy, S2.le, ev, fin⟩
    | vl f => exact ⟨.fz f, [], h2, v, u, ⟨rfl, RF.up g2.up _ rx⟩, S2.top ry qy, S2.le, ev, fin⟩
theorem vsub (hY : Fits R.Y X) (hu : X.A.units + 9 < cLine) (ha : PE X a (tO R oa)) (hb : PE X b (tO R ob)) (hs : PlainIx b := by intro _ _; rfl) : PE X (.Subscript a b pos) (tE R (dSub oa ob)) :=
  pe_weak (pe_ix (ix_sub hY hu) ha hb hs) fun _ _ _ => tE_sub
end
end Vy

end
section
set_option maxRecDepth 100000
set_option maxHeartbeats 2000000
/-! Built-in functions. -/
namespace Vy
open PySem PySem.Spec PyProof.Rows L2 StX
section
variable {R : Fr} {X : Cx} {T : Tab} {C : Callee} {H h : Hp} {σ : L2.St} {e : Env} {F : Fp} {Q : VK}
/-! ### operands in a row -/
def OVrs (Y : Names) (h : Hp) (σ : L2.St) : List OV → List V → Prop
  | [], vs => vs = []
  | o :: os, vs => ∃ v vr, vs = v :: vr ∧ OVr Y h σ o v ∧ OVrs Y h σ os vr
theorem OVrs.up {Y : Names} {h h' : Hp} (u : Up h h') : ∀ {os : List OV} {vs : List V}, OVrs Y h σ os vs → OVrs Y h' σ os vs
  | [], _, r => r
  | o :: os, _, ⟨v, vr, e, r1, r⟩ => ⟨v, vr, e, r1.up u, OVrs.up u r⟩
def TopL (Y : Names) (H h : Hp) : List IV → List V → Prop
  | [], vs => vs = []
  | x :: xs, vs => ∃ v vr, vs = v :: vr ∧ Top Y H h x v ∧ TopL Y H h xs vr
theorem St.topL (S : St R.Y H h σ e F) : ∀ {os : List OV} {xs : List V} {vs : List IV}, OVrs R.Y h σ os xs → atAll os e = some vs → TopL R.Y H h vs xs
  | [], xs, vs, r, q => by
    cases q
    exact r
  | o :: os, _, vs, ⟨x, xr, ex, r1, r⟩, q => by
    unfold atAll at q
    cases q1 : o.at e with
    | none => rw [q1] at q; cases q
    | some v =>
      rw [q1] at q
      dsimp only at q
      cases q2 : atAll os e with
      | none => rw [q2] at q; cases q
      | some ws =>
        rw [q2] at q
        cases q
        exact ⟨x, xr, ex, S.top r1 q1, St.topL S r q2⟩
def OKos (R : Fr) (H h : Hp) (F : Fp) (σ : L2.St) (Q : List V → Hp → Prop) : List OV → Env → Prop := fun os e' => ∀ vs H' h' F', Go H h F H' h' F' → St R.Y H' h' σ e' F' → OVrs R.Y h' σ os vs → Q vs H'
def tOs (R : Fr) (d : OsDen) : TA := fun σ H Q => ∃ e h F, St R.Y H h σ e F ∧ wpR (d e) (OKos R H h F σ Q) (EXx R H h F σ)
theorem tOs_nil {Q : List V → Hp → Prop} (t : tOs R osNil σ H Q) : tNil σ H Q := by
  obtain ⟨e, h, F, S, w⟩ := t
  exact w [] H h F .refl S rfl
theorem tOs_cons {Q : List V → Hp → Prop} {o : ODen} {r : OsDen} (t : tOs R (osCons o r) σ H Q) : tCons (tO R o) (tOs R r) σ H Q := by
  obtain ⟨e, h, F, S, w⟩ := t
  refine ⟨e, h, F, S, wpR_mono (wpR_bind.mp w) (fun ox e1 w1 => ?_) fun _ _ _ q => q⟩
  intro x H1 h1 F1 g1 S1 rx
  refine ⟨e1, h1, F1, S1, wpR_mono (wpR_bind.mp w1) (fun os e2 w2 => ?_) fun _ _ _ q => q.go g1⟩
  intro vs H3 h3 F3 g3 S3 rv
  exact w2 (x :: vs) H3 h3 F3 (g1.trans g3) S3 ⟨x, vs, rfl, rx.up g3.up, rv⟩
/-- what a function of values gives -/
def rBl (Y : Names) (g : List IV → Option SV) : List V → Hp → VK → Prop := fun vs H Q => ∃ h ws s, TopL Y H h ws vs ∧ Up h H ∧ g ws = some s ∧ Gives Y H h s Q
theorem tE_blt {b : Nat} {os : OsDen} (hb : Nat.beq b 16 = false) (t : tE R (dBlt T C b os) σ H Q) : tCB (rBl R.Y (bltV b)) (tOs R os) σ H Q := by
  obtain ⟨e, h, F, S, w⟩ := t
  refine ⟨e, h, F, S, wpR_mono (wpR_bind.mp w) (fun xs e1 w1 => ?_) fun _ _ _ q => q⟩
  intro vs H1 h1 F1 g1 S1 rv
  cases q : atAll xs e1 with
  | none => rw [q] at w1; exact w1.elim
  | some ws =>
    rw [q] at w1
    have w1 : wpR (retO (bltV b ws) e1 (200 + b)) (OKs R H h F σ Q) (EXx R H h F σ) := by
      have ne : b ≠ 16 := Nat.ne_of_beq_eq_false hb
      dsimp only at w1
      split at w1
      · exact absurd rfl ne
      · exact w1
    obtain ⟨s, es, qs⟩ := wpR_retO.mp w1
    exact ⟨h1, ws, s, S1.topL rv q, S1.le, es, gives_of S1 (OKs.go g1 qs)⟩
variable {a b c : Expr} {oa : ODen} {od : OsDen} {pos p : Pos} {es : List Expr} {x : Str} {id tn : String} {n : Nat}
theorem vonil : PA X [] (tOs R osNil) := pa_weak pa_nil fun _ _ _ => tOs_nil
theorem vocons (ha : PE X a (tO R oa)) (hr : PA X es (tOs R od)) (hs : starEach (a :: es) X.env = (false, eval a X.env) :: starEach es X.env := by rfl) : PA X (a :: es) (tOs R (osCons oa od)) := pa_weak (pa_cons ha hr hs) fun _ _ _ => tOs_cons
theorem vblt (hc : CallR X (.builtin id) (rBl R.Y (bltV n))) (hg : Gl X x) (hm : X.mg x = none) (hv : bootBuiltins x = some (.builtin id)) (ha : PA X (a :: es) (tOs R od)) (hb : Nat.beq n 16 = false := by rfl) (hn : x ≠ "__name__" := by decide) (hdb : (x == ("__debug__" : Str)) = false := by decide)
    (he : starEach (a :: es) X.env = (false, eval a X.env) :: starEach es X.env := by rfl) (hpl : (backTo pos (starEach es X.env)).any (·.1) = false := by rfl) : PE X (.Call (.Name x p) (a :: es) [] pos) (tE R (dBlt T C n od)) :=
  pe_weak (pe_callB hc hg hm hv ha hn hdb he hpl) fun _ _ _ => tE_blt hb
theorem vbty (hc : CallR X (.type tn) (rBl R.Y (bltV n))) (hg : Gl X x) (hm : X.mg x = none) (hv : bootBuiltins x = some (.type tn)) (ha : PA X (a :: es) (tOs R od)) (hb : Nat.beq n 16 = false := by rfl) (hn : x ≠ "__name__" := by decide) (hdb : (x == ("__debug__" : Str)) = false := by decide)
    (he : starEach (a :: es) X.env = (false, eval a X.env) :: starEach es X.env := by rfl) (hpl : (backTo pos (starEach es X.env)).any (·.1) = false := by rfl) : PE X (.Call (.Name x p) (a :: es) [] pos) (tE R (dBlt T C n od)) :=
  pe_weak (pe_callTy hc hg hm hv ha hn hdb he hpl) fun _ _ _ => tE_blt hb
end
/-! ### the functions -/
section
variable {X : Cx} {Y : Names}
theorem one_of {vs : List V} {H h : Hp} {w : IV} (t : TopL Y H h [w] vs) : ∃ x, vs = [x] ∧ Top Y H h w x := by
  obtain ⟨x, vr, e, tx, e2⟩ := t
  rw [show vr = [] from e2] at e
  exact ⟨x, e, tx⟩
theorem two_of {vs : List V} {H h : Hp} {w u : IV} (t : TopL Y H h [w, u] vs) : ∃ x y, vs = [x, y] ∧ Top Y H h w x ∧ Top Y H h u y := by
  obtain ⟨x, vr, e, tx, t2⟩ := t
  obtain ⟨y, e2, ty⟩ := one_of t2
  rw [e2] at e
  exact ⟨x, y, e, tx, ty⟩
theorem bl1 {b : Nat} {ws : List IV} {sv : SV} (e : bltV b ws = some sv) (h0 : bltV b [] = none := by rfl) (h2 : ∀ x y r, bltV b (x :: y :: r) = none := by intro x; cases x <;> intros <;> rfl) : ∃ w, ws = [w] := by
  cases ws with
  | nil => rw [h0] at e; cases e
  | cons w r =>
    cases r with
    | nil => exact ⟨w, rfl⟩
    | cons y r => rw [h2] at e; cases e
/-- len -/
theorem cb_len (hY : Fits Y X) : CallR X (.builtin "len") (rBl Y (bltV 0)) := by
  intro pins s σ H vs us Q I rv hh
  obtain ⟨h, ws, sv, t, up, e, g⟩ := hh
  obtain ⟨w, rfl⟩ := bl1 e
  have e : (lenV w).map (fun n => SV.fz (.int n)) = some sv := e
  obtain ⟨x, rfl, tx⟩ := one_of t
  cases hl : lenV w with
  | none => rw [hl] at e; cases e
  | some n =>
    rw [hl] at e
    cases e
    have fin : ∀ m : Nat, m = n → Q (.int m) H := fun m z => by rw [z]; exact g.old up rfl
    unfold lenV at hl
    cases w with
    | str y =>
      dsimp only at hl
      cases z : Nat.ble y.length 1000000 with
      | false => rw [z] at hl; cases hl
      | true =>
        rw [z] at hl
        cases hl
        exact call_len_str pins s σ H _ us Q I rv ⟨strOf y, congrArg (fun z => [z]) tx, by rw [strOf_length]; exact line1 z, fin _ (strOf_length y)⟩
    | tup xs =>
      cases hl
      obtain ⟨a, ys, rfl, st, r⟩ := tx
      exact call_len_seq pins s σ H _ us Q I rv ⟨a, ys, rfl, .inr (hY.K ▸ up.le.sqT st), fin _ r.length⟩
    | lst xs =>
      cases hl
      obtain ⟨a, ys, rfl, st, r⟩ := tx
      exact call_len_seq pins s σ H _ us Q I rv ⟨a, ys, rfl, .inl (.inl st), fin _ r.length⟩
    | dct kvs =>
      cases hl
      obtain ⟨a, rfl, d⟩ := Top.isD hY I up tx
      rw [Vals.ref1 rv]
      rcases d with ⟨lo, ps, ws, r, z, rel, dd⟩ | ⟨lo, ps, ws, r, z, rel, dd⟩
      · refine call_len_dict lo dd (line_small (by rw [← rel.length]; exact z)) ?_
        rw [← rel.length]
        exact ⟨.int _, H, I.tok _, ⟨_, rfl⟩, fin _ r.length⟩
      · refine call_len_dictH lo dd (line_small (by rw [← Paired.length rel]; exact z)) ?_
        rw [← Paired.length rel]
        exact ⟨.int _, H, I.tok _, ⟨_, rfl⟩, fin _ r.length⟩
    | _ => cases hl
theorem allB_of {h : Hp} : ∀ {xs : List IV} {l : List Bool} {vs : List V}, allB xs = some l → RFL Y h xs vs → vs = l.map V.bl
  | [], l, vs, e, r => by cases e; exact r
  | x :: xs, l, _, e, ⟨v, vr, ev, r1, r⟩ => by
    unfold allB at e
    cases x <;> try cases e
    dsimp only at e
    cases q : allB xs with
    | none => rw [q] at e; cases e
    | some m =>
      rw [q] at e
      cases e
      rw [ev, show v = _ from r1, allB_of q r]
      rfl
theorem cb_all (hc : X.calm = true) : CallR X (.builtin "all") (rBl Y (bltV 2)) := by
  intro pins s σ H vs us Q I rv hh
  obtain ⟨h, ws, sv, t, up, e, g⟩ := hh
  obtain ⟨w, rfl⟩ := bl1 e
  cases w <;> try cases e
  rename_i xs
  have e : (allB xs).map (fun l => SV.fz (.bl (l.all id))) = some sv := e
  obtain ⟨x, rfl, a, ys, rfl, st, r⟩ := one_of t
  cases q : allB xs with
  | none => rw [q] at e; cases e
  | some l =>
    rw [q] at e
    cases e
    exact cr_all hc pins s σ H _ us Q I rv ⟨a, l, rfl, .inl (allB_of q r ▸ st), g.old up rfl⟩
theorem cb_any (hc : X.calm = true) : CallR X (.builtin "any") (rBl Y (bltV 3)) := by
  intro pins s σ H vs us Q I rv hh
  obtain ⟨h, ws, sv, t, up, e, g⟩ := hh
  obtain ⟨w, rfl⟩ := bl1 e
  cases w <;> try cases e
  rename_i xs
  have e : (allB xs).map (fun l => SV.fz (.bl (l.any id))) = some sv := e
  obtain ⟨x, rfl, a, ys, rfl, st, r⟩ := one_of t
  cases q : allB xs with
  | none => rw [q] at e; cases e
  | some l =>
    rw [q] at e
    cases e
    exact cr_any hc pins s σ H _ us Q I rv ⟨a, l, rfl, .inl (allB_of q r ▸ st), g.old up rfl⟩
theorem cb_tuple (hY : Fits Y X) : CallR X (.type "tuple") (rBl Y (bltV 4)) := by
  intro pins s σ H vs us Q I rv hh
  obtain ⟨h, ws, sv, t, up, e, g⟩ := hh
  obtain ⟨w, rfl⟩ := bl1 e
  cases w <;> try cases e
  · rename_i xs
    obtain ⟨x, rfl, a, ys, rfl, st, r⟩ := one_of t
    exact call_tuple_of pins s σ H _ us Q I rv ⟨a, ys, rfl, .inr ⟨hY.K ▸ up.le.sqT st, g.old up ⟨a, ys, rfl, st, r⟩⟩⟩
  · rename_i xs
    obtain ⟨x, rfl, a, ys, rfl, st, r⟩ := one_of t
    exact call_tuple_of pins s σ H _ us Q I rv ⟨a, ys, rfl, .inl ⟨.inl st, fun l hl => g.tup up r hl⟩⟩
theorem allI_of {h : Hp} : ∀ {xs : List IV} {l : List Int} {vs : List V}, allI xs = some l → RFL Y h xs vs → vs = l.map V.int
  | [], l, vs, e, r => by cases e; exact r
  | x :: xs, l, _, e, ⟨v, vr, ev, r1, r⟩ => by
    unfold allI at e
    cases x <;> try cases e
    dsimp only at e
    cases q : allI xs with
    | none => rw [q] at e; cases e
    | some m =>
      rw [q] at e
      cases e
      rw [ev, show v = _ from r1, allI_of q r]
      rfl
theorem minI_le : ∀ (l : List Int) (i : Int), minI i l ≤ i ∧ (∀ y ∈ l, minI i l ≤ y) ∧ (minI i l = i ∨ minI i l ∈ l)
  | [], i => ⟨Int.le_refl _, fun _ z => absurd z (by simp), .inl rfl⟩
  | x :: l, i => by
    rw [minI]
    obtain ⟨a, b, c⟩ := minI_le l (if x < i then x else i)
    by_cases z : x < i
    · rw [if_pos z] at a b c ⊢
      refine ⟨by omega, fun y hy => ?_, ?_⟩
      · rcases List.mem_cons.mp hy with e | hy
        · rw [e]; exact a
        · exact b y hy
      · rcases c with c | c
        · exact .inr (by rw [c]; exact List.mem_cons_self)
        · exact .inr (List.mem_cons_of_mem _ c)
    · rw [if_neg z] at a b c ⊢
      refine ⟨a, fun y hy => ?_, ?_⟩
      · rcases List.mem_cons.mp hy with e | hy
        · rw [e]; omega
        · exact b y hy
      · rcases c with c | c
        · exact .inl c
        · exact .inr (List.mem_cons_of_mem _ c)
theorem maxI_le : ∀ (l : List Int) (i : Int), i ≤ maxI i l ∧ (∀ y ∈ l, y ≤ maxI i l) ∧ (maxI i l = i ∨ maxI i l ∈ l)
  | [], i => ⟨Int.le_refl _, fun _ z => absurd z (by simp), .inl rfl⟩
  | x :: l, i => by
    rw [maxI]
    obtain ⟨a, b, c⟩ := maxI_le l (if i < x then x else i)
    by_cases z : i < x
    · rw [if_pos z] at a b c ⊢
      refine ⟨by omega, fun y hy => ?_, ?_⟩
      · rcases List.mem_cons.mp hy with e | hy
        · rw [e]; exact a
        · exact b y hy
      · rcases c with c | c
        · exact .inr (by rw [c]; exact List.mem_cons_self)
        · exact .inr (List.mem_cons_of_mem _ c)
    · rw [if_neg z] at a b c ⊢
      refine ⟨a, fun y hy => ?_, ?_⟩
      · rcases List.mem_cons.mp hy with e | hy
        · rw [e]; omega
        · exact b y hy
      · rcases c with c | c
        · exact .inl c
        · exact .inr (List.mem_cons_of_mem _ c)
theorem minI_eq (l : List Int) (i m : Int) (h1 : m ∈ i :: l) (h2 : ∀ y, y ∈ i :: l → m ≤ y) : m = minI i l := by
  obtain ⟨a, b, c⟩ := minI_le l i
  have h3 : minI i l ≤ m := by
    rcases List.mem_cons.mp h1 with e | h
    · rw [e]; exact a
    · exact b m h
  have h4 : m ≤ minI i l := by
    rcases c with c | c
    · rw [c]; exact h2 i List.mem_cons_self
    · exact h2 _ (List.mem_cons_of_mem _ c)
  omega
theorem maxI_eq (l : List Int) (i m : Int) (h1 : m ∈ i :: l) (h2 : ∀ y, y ∈ i :: l → y ≤ m) : m = maxI i l := by
  obtain ⟨a, b, c⟩ := maxI_le l i
  have h3 : m ≤ maxI i l := by
    rcases List.mem_cons.mp h1 with e | h
    · rw [e]; exact a
    · exact b m h
  have h4 : maxI i l ≤ m := by
    rcases c with c | c
    · rw [c]; exact h2 i List.mem_cons_self
    · exact h2 _ (List.mem_cons_of_mem _ c)
  omega
theorem cb_min (hc : X.calm = true) : CallR X (.builtin "min") (rBl Y (bltV 10)) := by
  intro pins s σ H vs us Q I rv hh
  obtain ⟨h, ws, sv, t, up, e, g⟩ := hh
  rcases ws with _ | ⟨w, _ | ⟨w2, _ | ⟨w3, r⟩⟩⟩
  · cases e
  · obtain ⟨x, rfl, tx⟩ := one_of t
    cases w <;> try cases e
    rename_i xs
    obtain ⟨a, ys, rfl, st, r⟩ := tx
    have e : (match allI xs with
      | some (x :: l) => some (SV.fz (.int (minI x l)))
      | _ => none) = some sv := e
    cases q : allI xs with
    | none => rw [q] at e; cases e
    | some l =>
      rw [q] at e
      cases l with
      | nil => cases e
      | cons i l =>
        cases e
        refine cr_min hc pins s σ H _ us Q I rv ⟨a, i :: l, rfl, .inl (allI_of q r ▸ st), by simp, fun m h1 h2 => ?_⟩
        rw [minI_eq l i m h1 h2]
        exact g.old up rfl
  · obtain ⟨x, y, rfl, tx, ty⟩ := two_of t
    cases w <;> try cases e
    cases w2 <;> try cases e
    exact call_min2 hc pins s σ H _ us Q I rv ⟨_, _, by rw [show x = _ from tx, show y = _ from ty], g.old up rfl⟩
  · cases w <;> try cases e
    cases w2 <;> cases e
theorem cb_max (hc : X.calm = true) : CallR X (.builtin "max") (rBl Y (bltV 11)) := by
  intro pins s σ H vs us Q I rv hh
  obtain ⟨h, ws, sv, t, up, e, g⟩ := hh
  rcases ws with _ | ⟨w, _ | ⟨w2, _ | ⟨w3, r⟩⟩⟩
  · cases e
  · obtain ⟨x, rfl, tx⟩ := one_of t
    cases w <;> try cases e
    rename_i xs
    obtain ⟨a, ys, rfl, st, r⟩ := tx
    have e : (match allI xs with
      | some (x :: l) => some (SV.fz (.int (maxI x l)))
      | _ => none) = some sv := e
    cases q : allI xs with
    | none => rw [q] at e; cases e
    | some l =>
      rw [q] at e
      cases l with
      | nil => cases e
      | cons i l =>
        cases e
        refine cr_max hc pins s σ H _ us Q I rv ⟨a, i :: l, rfl, .inl (allI_of q r ▸ st), by simp, fun m h1 h2 => ?_⟩
        rw [maxI_eq l i m h1 h2]
        exact g.old up rfl
  · obtain ⟨x, y, rfl, tx, ty⟩ := two_of t
    cases w <;> try cases e
    cases w2 <;> try cases e
    exact call_max2 hc pins s σ H _ us Q I rv ⟨_, _, by rw [show x = _ from tx, show y = _ from ty], g.old up rfl⟩
  · cases w <;> try cases e
    cases w2 <;> cases e
theorem cb_int : CallR X (.type "int") (rBl Y (bltV 15)) := by
  intro pins s σ H vs us Q I rv hh
  obtain ⟨h, ws, sv, t, up, e, g⟩ := hh
  obtain ⟨w, rfl⟩ := bl1 e
  cases w <;> try cases e
  obtain ⟨x, rfl, tx⟩ := one_of t
  exact call_int1 pins s σ H _ us Q I rv (.inl ⟨_, by rw [show x = _ from tx], g.old up rfl⟩)
theorem cb_abs : CallR X (.builtin "abs") (rBl Y (bltV 17)) := by
  intro pins s σ H vs us Q I rv hh
  obtain ⟨h, ws, sv, t, up, e, g⟩ := hh
  obtain ⟨w, rfl⟩ := bl1 e
  cases w <;> try cases e
  obtain ⟨x, rfl, tx⟩ := one_of t
  exact call_abs pins s σ H _ us Q I rv ⟨_, by rw [show x = _ from tx], g.old up rfl⟩
theorem cb_sum (hc : X.calm = true) : CallR X (.builtin "sum") (rBl Y (bltV 12)) := by
  intro pins s σ H vs us Q I rv hh
  obtain ⟨h, ws, sv, t, up, e, g⟩ := hh
  obtain ⟨w, rfl⟩ := bl1 e
  cases w <;> try cases e
  rename_i xs
  have e : (allI xs).map (fun l => SV.fz (.int (sumI l))) = some sv := e
  obtain ⟨x, rfl, a, ys, rfl, st, r⟩ := one_of t
  cases q : allI xs with
  | none => rw [q] at e; cases e
  | some l =>
    rw [q] at e
    cases e
    have sm : ∀ l : List Int, l.sum = sumI l := fun l => by
      induction l with
      | nil => rfl
      | cons x l ih => rw [List.sum_cons, ih]; rfl
    exact cr_sum hc pins s σ H _ us Q I rv ⟨a, l, rfl, .inl (allI_of q r ▸ st), by rw [sm]; exact g.old up rfl⟩

end
end Vy

end
section
set_option maxRecDepth 100000
set_option maxHeartbeats 2000000
/-! isinstance, list. -/
namespace Vy
open PySem PySem.Spec PyProof.Rows L2 StX
def kname : IV → Option String
  | .non => some "NoneType"
  | .bl _ => some "bool"
  | .int _ => some "int"
  | .str _ => some "str"
  | .tup _ => some "tuple"
  | .lst _ => some "list"
  | .dct _ => some "dict"
  | _ => none
/-- what isinstance asks of the text's own classes -/
structure InsOk (X : Cx) (Y : Names) : Prop where
  cl : ∀ c, c < Y.nc → Cls X.K (Y.cl c)
  ha : ∀ c, c < Y.nc → PySem.W.findIn X.K (.ref (Y.cl c)) "__class__" = some (some (.builtin "object.__class__"))
  hn : 0 < Y.nc → PySem.W.specialIn X.K (.builtin "object.__class__") "__get__" = some (some (.builtin "getset_descriptor.__get__"))
  ht : 0 < Y.nc → PySem.W.takesIn X.K (.builtin "object.__class__") = some true
  hm : ∀ c, c < Y.nc → PySem.W.mroIn X.K (Y.cl c) (.type "object") = some true
  kt : ∀ c n, c < Y.nc → n < 6 → PySem.W.kitOne X.K (.ref (Y.cl c)) (.type (tyName n)) = some false
  ko : ∀ c v a, c < Y.nc → kname v = some a → PySem.W.kitOne X.K (.type a) (.ref (Y.cl c)) = some false
  kc : ∀ c d, c < Y.nc → d < Y.nc → PySem.W.kitOne X.K (.ref (Y.cl d)) (.ref (Y.cl c)) = some (Nat.beq c d)
theorem InsOk.none {X : Cx} {Y : Names} (h : Y.nc = 0) : InsOk X Y := by
  constructor <;> intros <;> (exfalso; rename_i x; first | omega | (rename_i y _; omega) | (rename_i y _ _; omega) | (rename_i y _ _ _; omega))
theorem kit_tys {n : Nat} {v : IV} {a : String} {b : Bool} (ha : kname v = some a) (hb : hasTy n v = some b) : kitB a (tyName n) = some b := by
  unfold hasTy at hb
  cases z : Nat.blt n 6 with
  | false => rw [z] at hb; cases hb
  | true =>
    rw [z] at hb
    have z := Nat.blt_eq.mp z
    have hn : n = 0 ∨ n = 1 ∨ n = 2 ∨ n = 3 ∨ n = 4 ∨ n = 5 := by omega
    rcases hn with rfl | rfl | rfl | rfl | rfl | rfl <;> cases v <;> cases ha <;> cases hb <;> decide +kernel
section
variable {X : Cx} {Y : Names} {pins : List (Addr × Obj)} {σ : L2.St} {H h : Hp} {s : Shared}
/-- what a value's type is, to isinstance -/
theorem kit_iv (hY : Fits Y X) (hI : InsOk X Y) (I : Inv X pins σ H s) (up : Up h H) {v : IV} {x : V} {u : Value} (t : Top Y H h v x) (rx : RelV x u) :
    (∀ a, kname v = some a → ∃ P : Heap → Prop, PySem.W.KitX X.K u (.type a) P ∧ P s.heap ∧ u ≠ .builtin "__main__.__loader__#opaque") ∧
    (∀ c fs, v = .ins c fs → c < Y.nc ∧ ∃ P : Heap → Prop, PySem.W.KitX X.K u (.ref (Y.cl c)) P ∧ P s.heap ∧ u ≠ .builtin "__main__.__loader__#opaque") := by
  refine ⟨fun a ea => ?_, fun c fs ev => ?_⟩
  · cases v with
    | non => cases ea; rw [show x = .non from t] at rx; exact kit_of I rx (.base .non)
    | bl b => cases ea; rw [show x = .bl b from t] at rx; exact kit_of I rx (.base (.bl b))
    | int b => cases ea; rw [show x = .int b from t] at rx; exact kit_of I rx (.base (.int b))
    | str b => cases ea; rw [show x = .str (strOf b) from t] at rx; exact kit_of I rx (.base (.str _))
    | tup xs =>
      cases ea
      obtain ⟨a, vs, rfl, st, _⟩ := t
      have st := up.le.sqT st
      rw [hY.K] at st
      cases rx
      obtain ⟨its, _, ⟨o, h1, h2, _⟩, _⟩ := I.tuple st
      exact ⟨_, PySem.W.kitx_tuple, ⟨o, h1, h2⟩, fun z => nomatch z⟩
    | lst xs =>
      cases ea
      obtain ⟨a, vs, rfl, st, _⟩ := t
      cases rx
      obtain ⟨_, _, n, _, h1⟩ := st.ok I.hok
      exact ⟨_, PySem.W.kitx_list, ⟨_, h1, rfl⟩, fun z => nomatch z⟩
    | dct kvs =>
      cases ea
      obtain ⟨a, rfl, d⟩ := Top.isD hY I up t
      cases rx
      rcases d with ⟨_, _, _, _, _, _, o, es, ep, h1, h2, _⟩ | ⟨_, _, _, _, _, _, o, es, ep, h1, h2, _⟩
      · exact ⟨_, PySem.W.kitx_dict, ⟨o, h1, h2.1⟩, fun z => nomatch z⟩
      · exact ⟨_, PySem.W.kitx_dict, ⟨o, h1, h2.1⟩, fun z => nomatch z⟩
    | _ => cases ea
  · subst ev
    obtain ⟨a, dx, ps, rfl, nc, e, _⟩ := t
    exact ⟨nc, kit_of I rx (.base (.ins e (hI.cl c nc) (hI.ha c nc) (hI.hn (by omega)) (hI.ht (by omega)) (hI.hm c nc)))⟩
/-- a class that is named -/
theorem kit_one (hI : InsOk X Y) {v w : IV} {y : V} {b : Bool} (t : Top Y H h w y) (e : isiOne v w = some b) :
    ∃ c, ClsV y c ∧ (∀ a, kname v = some a → PySem.W.kitOne X.K (.type a) c = some b) ∧ (∀ d fs, v = .ins d fs → d < Y.nc → PySem.W.kitOne X.K (.ref (Y.cl d)) c = some b) := by
  cases w <;> try (exfalso; revert e; unfold isiOne; simp; done)
  · rename_i c
    obtain ⟨rfl, nc⟩ := t
    refine ⟨_, .own _, fun a ea => ?_, fun d fs ev nd => ?_⟩
    · have : b = false := by cases v <;> first | (cases ea; done) | (cases e; rfl)
      rw [this]
      exact hI.ko c v a nc ea
    · subst ev
      cases e
      exact hI.kc c d nc nd
  · rename_i n
    rw [show y = .ty (tyName n) from t]
    have e : hasTy n v = some b := e
    refine ⟨_, .ty _, fun a ea => kit_ty (kit_tys ea e), fun d fs ev nd => ?_⟩
    subst ev
    unfold hasTy at e
    cases z : Nat.blt n 6 with
    | false => rw [z] at e; cases e
    | true =>
      rw [z] at e
      cases e
      exact hI.kt d n nd (Nat.blt_eq.mp z)
theorem kit_any (hI : InsOk X Y) {v : IV} : ∀ {ws : List IV} {ys : List V} {b : Bool}, RFL Y h ws ys → isiAny v ws = some b → (∀ a, kname v = some a → True) →
    ∃ cs, Paired ClsV ys cs ∧ (∀ a, kname v = some a → PySem.W.kitAny X.K (.type a) cs = some b) ∧ (∀ d fs, v = .ins d fs → d < Y.nc → PySem.W.kitAny X.K (.ref (Y.cl d)) cs = some b)
  | [], ys, b, r, e, _ => by
    cases e
    rw [show ys = [] from r]
    exact ⟨[], .nil, fun _ _ => rfl, fun _ _ _ _ => rfl⟩
  | w :: ws, _, b, ⟨y, yr, ey, r1, r⟩, e, _ => by
    subst ey
    unfold isiAny at e
    cases q : isiOne v w with
    | none => rw [q] at e; cases e
    | some k =>
      rw [q] at e
      have tw : Top Y h h w y := r1.top (.refl h)
      obtain ⟨c, hc, k1, k2⟩ := kit_one hI tw q
      cases k with
      | true =>
        dsimp only at e
        cases q2 : isiAny v ws with
        | none => rw [q2] at e; cases e
        | some k2' =>
          rw [q2] at e
          cases e
          obtain ⟨cs, hcs, _⟩ := kit_any hI r q2 fun _ _ => trivial
          exact ⟨c :: cs, .cons hc hcs, fun a ea => kitAny_cons (k1 a ea) (fun z => nomatch z) (fun _ => rfl), fun d fs ev nd => kitAny_cons (k2 d fs ev nd) (fun z => nomatch z) (fun _ => rfl)⟩
      | false =>
        obtain ⟨cs, hcs, k3, k4⟩ := kit_any hI r e fun _ _ => trivial
        exact ⟨c :: cs, .cons hc hcs, fun a ea => kitAny_cons (k1 a ea) (fun _ => k3 a ea) (fun z => nomatch z), fun d fs ev nd => kitAny_cons (k2 d fs ev nd) (fun _ => k4 d fs ev nd) (fun z => nomatch z)⟩
theorem isiOne_typed {v w : IV} {b : Bool} (e : isiOne v w = some b) : (∃ a, kname v = some a) ∨ ∃ c fs, v = .ins c fs := by
  cases v <;> first
    | exact .inl ⟨_, rfl⟩
    | exact .inr ⟨_, _, rfl⟩
    | (exfalso; revert e; unfold isiOne; cases w <;> simp [hasTy] <;> (try split) <;> simp)
theorem isiAny_typed {v : IV} : ∀ {ws : List IV} {b : Bool}, isiAny v ws = some b → ws = [] ∨ (∃ a, kname v = some a) ∨ ∃ c fs, v = .ins c fs
  | [], _, _ => .inl rfl
  | w :: ws, b, e => by
    unfold isiAny at e
    cases q : isiOne v w with
    | none => rw [q] at e; cases e
    | some k => exact .inr (isiOne_typed q)
theorem cb_isi (hY : Fits Y X) (hI : InsOk X Y) : CallR X (.builtin "isinstance") (rBl Y (bltV 1)) := by
  intro pins s σ H vs us Q I rv hh
  obtain ⟨h, ws, sv, t, up, e, g⟩ := hh
  rcases ws with _ | ⟨v, _ | ⟨w, _ | ⟨w3, r⟩⟩⟩
  · cases e
  · cases e
  · obtain ⟨x, y, rfl, tx, ty⟩ := two_of t
    obtain ⟨u1, u2, rfl, r1, r2⟩ := vals2 rv
    obtain ⟨k1, k2⟩ := kit_iv hY hI I up tx r1
    have fin : ∀ b, sv = .fz (.bl b) → ∀ tk, EP X pins σ Q (.bool b) { s with toks := tk } := fun b eb tk => ⟨.bl b, H, I.tok tk, rfl, by subst eb; exact g.old up rfl⟩
    have one : ∀ b, isiOne v w = some b → sv = .fz (.bl b) → wpAny (model X.prog X.w) X.A (call (.builtin "isinstance") [u1, u2]) (EP X pins σ Q) X.xe s := fun b eb es => by
      obtain ⟨c, hc, q1, q2⟩ := kit_one hI ty eb
      have e2 := hc.eq r2
      subst e2
      rcases isiOne_typed eb with ⟨a, ea⟩ | ⟨c, fs, rfl⟩
      · obtain ⟨P, Z, p, hx⟩ := k1 a ea
        exact PySem.W.kia_one Z I.kIn p (q1 a ea) hx (fin b es)
      · obtain ⟨nd, P, Z, p, hx⟩ := k2 c fs rfl
        exact PySem.W.kia_one Z I.kIn p (q2 c fs rfl nd) hx (fin b es)
    cases w with
    | tup ts =>
      cases ts with
      | nil => cases e
      | cons t0 ts =>
        have e : (isiAny v (t0 :: ts)).map (fun t => SV.fz (.bl t)) = some sv := e
        cases q : isiAny v (t0 :: ts) with
        | none => rw [q] at e; cases e
        | some b =>
          rw [q] at e
          cases e
          obtain ⟨tp, ys, rfl, st, rf⟩ := ty
          cases r2
          have st := up.le.sqT st
          rw [hY.K] at st
          obtain ⟨its, rv2, ⟨o, h1, h2, n, h3⟩, _⟩ := I.tuple st
          obtain ⟨oc, od, dt, sl⟩ := o
          simp only at h2 h3
          subst h2 h3
          obtain ⟨cs, hcs, q1, q2⟩ := kit_any hI rf q fun _ _ => trivial
          have e3 := ClsV.all hcs rv2
          subst e3
          rcases isiAny_typed q with z | ⟨a, ea⟩ | ⟨c, fs, rfl⟩
          · cases z
          · obtain ⟨P, Z, p, hx⟩ := k1 a ea
            exact PySem.W.kia_tup Z I.kIn p h1 (q1 a ea) hx (fin b rfl)
          · obtain ⟨nd, P, Z, p, hx⟩ := k2 c fs rfl
            exact PySem.W.kia_tup Z I.kIn p h1 (q2 c fs rfl nd) hx (fin b rfl)
    | cls c =>
      have e : (isiOne v (.cls c)).map (fun t => SV.fz (.bl t)) = some sv := e
      cases q : isiOne v (.cls c) with
      | none => rw [q] at e; cases e
      | some b =>
        rw [q] at e
        cases e
        exact one b q rfl
    | ty n =>
      have e : (isiOne v (.ty n)).map (fun t => SV.fz (.bl t)) = some sv := e
      cases q : isiOne v (.ty n) with
      | none => rw [q] at e; cases e
      | some b =>
        rw [q] at e
        cases e
        exact one b q rfl
    | _ => cases e
  · cases w <;> cases e
theorem cb_list (hY : Fits Y X) : CallR X (.type "list") (rBl Y fun ws => match ws with
    | [.tup xs] => some (nl xs)
    | [.lst xs] => some (nl xs)
    | _ => none) := by
  intro pins s σ H vs us Q I rv hh
  obtain ⟨h, ws, sv, t, up, e, g⟩ := hh
  dsimp only at e
  split at e <;> try cases e
  · obtain ⟨x, rfl, a, ys, rfl, st, r⟩ := one_of t
    exact call_list_of pins s σ H _ us Q I rv ⟨a, ys, rfl, .inr (hY.K ▸ up.le.sqT st), fun l hl => g.nl up r hl⟩
  · obtain ⟨x, rfl, a, ys, rfl, st, r⟩ := one_of t
    exact call_list_of pins s σ H _ us Q I rv ⟨a, ys, rfl, .inl (.inl st), fun l hl => g.nl up r hl⟩
end
end Vy

end
section
set_option maxRecDepth 100000
set_option maxHeartbeats 2000000
/-! Statements. -/
namespace Vy
open PySem PySem.Spec PyProof.Rows L2 StX
/-- the parameters that nobody stores to -/
def Par (R : Fr) (σ : L2.St) : Prop := (∀ i x, R.par i = some x → σ[i]? = some (some x)) ∧ σ.length = R.ns
def EXs (R : Fr) (H h : Hp) (F : Fp) : Nat → List (Nat × IV) → Env → Prop := fun c fs e' => ∀ σ' H' h' F' d, Go H h F H' h' F' → St R.Y H' h' σ' e' F' → Par R σ' → R.xr H' h' c fs d → R.W (.ref (R.xc c)) d σ' H'
def OKf (R : Fr) (H h : Hp) (F : Fp) (D : Ends) : Fl → Env → Prop
  | .nx, e' => ∀ σ' H' h' F', Go H h F H' h' F' → St R.Y H' h' σ' e' F' → Par R σ' → D.nx σ' H'
  | .ret s, e' => ∀ σ' x A H' h' F', Go H h F H' h' F' → St R.Y H' h' σ' e' F' → Par R σ' → RS R.Y H' h' s x A → Own H h H' h' F F' A → D.rt x H'
  | .brk, e' => ∀ σ' H' h' F', Go H h F H' h' F' → St R.Y H' h' σ' e' F' → Par R σ' → D.bk σ' H'
  | .cnt, e' => ∀ σ' H' h' F', Go H h F H' h' F' → St R.Y H' h' σ' e' F' → Par R σ' → D.ct σ' H'
def tS (R : Fr) (d : SDen) : TS := fun D σ H => ∃ e h F, St R.Y H h σ e F ∧ Par R σ ∧ wpR (d e) (OKf R H h F D) (EXs R H h F)
theorem Own.go {H h H1 h1 H' h' : Hp} {F F1 F' : Fp} {A : List Addr} (g : Go H h F H1 h1 F1) (o : Own H1 h1 H' h' F1 F' A) : Own H h H' h' F F' A := ⟨o.nd, o.hd, o.dj, fun a ha => by
  rcases o.nf a ha with z | ⟨j, z⟩
  · by_cases w : ∃ j, a ∈ F j
    · exact .inr w
    · refine .inl ?_
      cases e : H a with
      | none => rfl
      | some o =>
        obtain ⟨o', eo⟩ := (g.keep a o e fun j y => w ⟨j, y⟩).some
        rw [eo] at z
        cases z
  · exact g.nf a j z⟩
section
variable {R : Fr} {X : Cx} {T : Tab} {C : Callee} {H h H1 h1 : Hp} {σ : L2.St} {e : Env} {F F1 : Fp} {D : Ends}
theorem OKf.go (g : Go H h F H1 h1 F1) {f : Fl} {e : Env} (q : OKf R H h F D f e) : OKf R H1 h1 F1 D f e := by
  cases f with
  | nx => exact fun σ' H' h' F' g' => q σ' H' h' F' (g.trans g')
  | brk => exact fun σ' H' h' F' g' => q σ' H' h' F' (g.trans g')
  | cnt => exact fun σ' H' h' F' g' => q σ' H' h' F' (g.trans g')
  | ret s => exact fun σ' x A H' h' F' g' S P r o => q σ' x A H' h' F' (g.trans g') S P r (o.go g)
theorem EXs.go (g : Go H h F H1 h1 F1) {c : Nat} {fs : List (Nat × IV)} {e : Env} (q : EXs R H h F c fs e) : EXs R H1 h1 F1 c fs e := fun σ' H' h' F' d g' => q σ' H' h' F' d (g.trans g')
theorem EXs.x (P : Par R σ) {c : Nat} {fs : List (Nat × IV)} {e : Env} (q : EXs R H h F c fs e) : EXx R H h F σ c fs e := fun σ' H' h' F' d es g S x => by subst es; exact q σ' H' h' F' d g S P x
theorem fp_upd (F : Fp) (i : Nat) (A : List Addr) : ∃ F' : Fp, F' i = A ∧ ∀ j, j ≠ i → F' j = F j := ⟨fun j => if j = i then A else F j, if_pos rfl, fun j z => if_neg z⟩
/-- a name is stored to -/
theorem St.set {Y : Names} {H0 h0 : Hp} {F0 : Fp} (S : St Y H h σ e F) {r : SV} {x : V} {A : List Addr} (q : RS Y H h r x A) (o : Own H0 h0 H h F0 F A) (g : Go H0 h0 F0 H h F) (i : Nat) :
    ∃ F', St Y H h (σ.set i (some x)) (setE e i r) F' ∧ Go H0 h0 F0 H h F' := by
  by_cases hi : i < e.length
  · obtain ⟨F', fi, fe⟩ := fp_upd F i A
    refine ⟨F', ⟨by simp [setE, S.len], fun j t ht => ?_, fun j hj => ?_, fun j => ?_, fun j l hjl a ha => ?_, fun j a ha => ?_, S.le⟩, ⟨g.keep, g.up, g.nh, fun a j z => ?_⟩⟩
    · by_cases hj : j = i
      · subst hj
        rw [show (setE e j r)[j]? = some r from by simp [setE, hi]] at ht
        cases ht
        refine .inr ⟨x, ?_, by rw [fi]; exact q⟩
        rw [List.getElem?_set_self (by rw [S.len]; exact hi)]
      · rw [show (setE e i r)[j]? = e[j]? from by simp [setE, List.getElem?_set_ne (Ne.symm hj)]] at ht
        rw [fe j hj, List.getElem?_set_ne (Ne.symm hj)]
        exact S.rel j t ht
    · have hj2 : e.length ≤ j := by simpa [setE] using hj
      rw [fe j (by omega)]
      exact S.out j hj2
    · by_cases z : j = i
      · rw [z, fi]; exact o.nd
      · rw [fe j z]; exact S.nd j
    · by_cases z : j = i
      · rw [z, fi] at ha
        rw [fe l (by rw [← z]; exact Ne.symm hjl)]
        exact o.dj a ha l
      · rw [fe j z] at ha
        by_cases w : l = i
        · rw [w, fi]; exact fun y => o.dj a y j ha
        · rw [fe l w]; exact S.dj j l hjl a ha
    · by_cases z : j = i
      · rw [z, fi] at ha; exact o.hd a ha
      · rw [fe j z] at ha; exact S.hd j a ha
    · by_cases w : j = i
      · rw [w, fi] at z; exact o.nf a z
      · rw [fe j w] at z; exact g.nf a j z
  · refine ⟨F, ?_, g⟩
    rw [show setE e i r = e from List.set_eq_of_length_le (by omega), List.set_eq_of_length_le (by rw [S.len]; omega)]
    exact S
theorem Par.set (P : Par R σ) {i : Nat} {x : V} (n : R.par i = none) : Par R (σ.set i (some x)) := ⟨fun j y hj => by
  have : j ≠ i := fun z => by rw [z, n] at hj; cases hj
  rw [List.getElem?_set_ne (Ne.symm this)]
  exact P.1 j y hj, by rw [List.length_set]; exact P.2⟩
variable {a b c : Expr} {d da db dc : Den} {oa ob oc : ODen} {sa sb : SDen} {pos pos' p : Pos} {st : Stmt} {rest sts : List Stmt} {x : Str} {i : Nat}
theorem znil : PSs X [] (tS R sPas) := pss_weak pss_nil fun D σ H t => by
  obtain ⟨e, h, F, S, P, w⟩ := t
  exact w σ H h F .refl S P
theorem zpass : PS X (.Pass pos) (tS R sPas) := ps_weak ps_pass fun D σ H t => by
  obtain ⟨e, h, F, S, P, w⟩ := t
  exact w σ H h F .refl S P
theorem zbrk : PS X (.Break pos) (tS R sBrk) := ps_weak ps_break fun D σ H t => by
  obtain ⟨e, h, F, S, P, w⟩ := t
  exact w σ H h F .refl S P
theorem zcnt : PS X (.Continue pos) (tS R sCnt) := ps_weak ps_continue fun D σ H t => by
  obtain ⟨e, h, F, S, P, w⟩ := t
  exact w σ H h F .refl S P
theorem zone (ha : PS X st (tS R sa)) : PSs X [st] (tS R sa) := pss_one ha
theorem zseq (ha : PS X st (tS R sa)) (hb : PSs X rest (tS R sb)) : PSs X (st :: rest) (tS R (sSeq sa sb)) := pss_weak (pss_cons ha hb) fun D σ H t => by
  obtain ⟨e, h, F, S, P, w⟩ := t
  refine ⟨e, h, F, S, P, wpR_mono (wpR_bind.mp w) (fun f e1 w1 => ?_) fun _ _ _ q => q⟩
  cases f with
  | nx => exact fun σ1 H1 h1 F1 g1 S1 P1 => ⟨e1, h1, F1, S1, P1, wpR_mono w1 (fun _ _ q => q.go g1) fun _ _ _ q => q.go g1⟩
  | brk => exact w1
  | cnt => exact w1
  | ret s => exact w1
/-- a docstring -/
theorem zdoc {y j p2} (hb : PSs X rest (tS R sb)) : PSs X (.Expr (.Constant (.str y) j p2) pos :: rest) (tS R sb) := pss_weak (pss_cons ps_doc hb) fun D σ H t => t
theorem zexpr (he : PE X a (tE R d)) (hs : swapsWith a none pos.line X.env = pure false := by rfl) : PS X (.Expr a pos) (tS R (sEx d)) := ps_weak (ps_expr he hs) fun D σ H t => by
  obtain ⟨e, h, F, S, P, w⟩ := t
  refine ⟨e, h, F, S, wpR_mono (wpR_bind.mp w) (fun r e1 w1 => ?_) fun _ _ _ q => q.x P⟩
  exact fun x A H1 h1 F1 g1 S1 rs o => w1 σ H1 h1 F1 g1 S1 P
theorem zret (he : PE X a (tE R d)) : PS X (.Return (some a) pos) (tS R (sRet d)) := ps_weak (ps_ret he) fun D σ H t => by
  obtain ⟨e, h, F, S, P, w⟩ := t
  refine ⟨e, h, F, S, wpR_mono (wpR_bind.mp w) (fun r e1 w1 => ?_) fun _ _ _ q => q.x P⟩
  exact fun x A H1 h1 F1 g1 S1 rs o => w1 σ x A H1 h1 F1 g1 S1 P rs o
/-- return of a local's own -/
theorem zretv {np : Nat} (he : PE X (.Name x p) (tVar i)) : PS X (.Return (some (.Name x p)) pos) (tS R (sRetv np i)) := ps_weak (ps_ret he) fun D σ H t => by
  obtain ⟨e, h, F, S, P, w⟩ := t
  unfold sRetv at w
  cases hn : Nat.blt i np with
  | true =>
    rw [hn] at w
    refine tE_var (R := R) ⟨e, h, F, S, wpR_mono (wpR_bind.mp w) (fun r e1 w1 => ?_) fun _ _ _ q => q.x P⟩
    exact fun x A H1 h1 F1 g1 S1 rs o => w1 σ x A H1 h1 F1 g1 S1 P rs o
  | false =>
    rw [hn] at w
    have go : ∀ s, getE e i = s → s ≠ .und → wpR (.ok (.ret s) (setE e i .und)) (OKf R H h F D) (EXs R H h F) → tRet (tVar i) D σ H := fun s q n w => by
      obtain ⟨y, hy, ry⟩ := S.at_ q n
      obtain ⟨F', fi, fe⟩ := fp_upd F i []
      refine ⟨y, hy, w σ y (F i) H h F' ⟨fun _ o q _ => .inl q, .refl h, fun _ q => .inl q, fun a j z => ?_⟩ ⟨by simp [setE, S.len], fun j t ht => ?_, fun j hj => ?_, fun j => ?_, fun j l hjl a ha => ?_, fun j a ha => ?_, S.le⟩ P ry ⟨S.nd i, S.hd i, fun a ha j => ?_, fun a ha => .inr ⟨i, ha⟩⟩⟩
      · by_cases z2 : j = i
        · rw [z2, fi] at z; cases z
        · rw [fe j z2] at z; exact .inr ⟨j, z⟩
      · by_cases hj : j = i
        · subst hj
          have hi : j < e.length := (List.getElem?_eq_some_iff.mp (getE_some q n)).1
          rw [show (setE e j .und)[j]? = some .und from by simp [setE, hi]] at ht
          cases ht
          exact .inl ⟨rfl, fi⟩
        · rw [show (setE e i .und)[j]? = e[j]? from by simp [setE, List.getElem?_set_ne (Ne.symm hj)]] at ht
          rw [fe j hj]
          exact S.rel j t ht
      · by_cases z2 : j = i
        · rw [z2]; exact fi
        · rw [fe j z2]; exact S.out j (by simpa [setE] using hj)
      · by_cases z2 : j = i
        · rw [z2, fi]; exact .nil
        · rw [fe j z2]; exact S.nd j
      · by_cases z2 : j = i
        · rw [z2, fi] at ha; cases ha
        · rw [fe j z2] at ha
          by_cases z3 : l = i
          · rw [z3, fi]; simp
          · rw [fe l z3]; exact S.dj j l hjl a ha
      · by_cases z2 : j = i
        · rw [z2, fi] at ha; cases ha
        · rw [fe j z2] at ha; exact S.hd j a ha
      · by_cases z2 : j = i
        · rw [z2, fi]; simp
        · rw [fe j z2]; exact S.dj i j (Ne.symm z2) a ha
    cases q : getE e i with
    | und => rw [q] at w; exact w.elim
    | fz v => rw [q] at w; exact go _ q (fun z => nomatch z) w
    | ol xs => rw [q] at w; exact go _ q (fun z => nomatch z) w
    | od xs => rw [q] at w; exact go _ q (fun z => nomatch z) w
    | oi k xs => rw [q] at w; exact go _ q (fun z => nomatch z) w
    | tb => rw [q] at w; exact go _ q (fun z => nomatch z) w
theorem zif {sts2 : List Stmt} (hc : PT X c (tT R (tst T C oc))) (ha : PSs X sts (tS R sa)) (hb : PSs X sts2 (tS R sb)) : PS X (.If c sts sts2 pos) (tS R (sIf T C oc sa sb)) := ps_weak (ps_if hc ha hb) fun D σ H t => by
  obtain ⟨e, h, F, S, P, w⟩ := t
  refine ⟨e, h, F, S, wpR_mono (wpR_bind.mp w) (fun t e1 w1 => ?_) fun _ _ _ q => q.x P⟩
  intro H1 h1 F1 g1 S1
  cases t with
  | true =>
    rw [if_pos rfl]
    exact ⟨e1, h1, F1, S1, P, wpR_mono w1 (fun _ _ q => q.go g1) fun _ _ _ q => q.go g1⟩
  | false =>
    rw [if_neg Bool.false_ne_true]
    exact ⟨e1, h1, F1, S1, P, wpR_mono w1 (fun _ _ q => q.go g1) fun _ _ _ q => q.go g1⟩
/-- name = value -/
theorem zset (i : Nat) (hn : R.par i = none) (hps : ∀ {t : TE}, PE X a t → PS X (.Assign [.Name x pos'] a pos) (tAsg t (gName i))) (he : PE X a (tE R d)) : PS X (.Assign [.Name x pos'] a pos) (tS R (sAsg (.n i) d)) :=
  ps_weak (hps he) fun D σ H t => by
    obtain ⟨e, h, F, S, P, w⟩ := t
    refine ⟨e, h, F, S, wpR_mono (wpR_bind.mp w) (fun r e1 w1 => ?_) fun _ _ _ q => q.x P⟩
    intro x A H1 h1 F1 g1 S1 rs o
    obtain ⟨F2, S2, g2⟩ := S1.set rs o g1 i
    exact w1 _ H1 h1 F2 g2 S2 (P.set hn)
/-! ### targets -/
def tgLen : Tg → Option Nat
  | .nil => some 0
  | .cons _ r => (tgLen r).map (· + 1)
  | .n _ => none
/-- what stores keep of the names -/
structure Keeps (K : L2.St → L2.St → Prop) : Prop where
  refl : ∀ σ, K σ σ
  trans : ∀ {a b c}, K a b → K b c → K a c
def kPar (R : Fr) : L2.St → L2.St → Prop := fun σ σ' => Par R σ → Par R σ'
theorem kPar_ok : Keeps (kPar R) := ⟨fun _ p => p, fun f g p => g (f p)⟩
theorem kPar_set {i : Nat} (hn : R.par i = none) : ∀ σ x, kPar R σ (σ.set i (some x)) := fun _ _ p => p.set hn
/-- a target and its store, in a state -/
def tG (R : Fr) (K : L2.St → L2.St → Prop) (t : Tg) : TG := fun v σ H Q => ∃ e h F n x e', St R.Y H h σ e F ∧ RF R.Y h x v ∧ bindT n t x e = some e' ∧ ∀ σ' H' h' F', Go H h F H' h' F' → St R.Y H' h' σ' e' F' → K σ σ' → Q σ' H'
def tGs (R : Fr) (K : L2.St → L2.St → Prop) (t : Tg) : TGs := fun vs σ H Q => ∃ e h F n xs e', St R.Y H h σ e F ∧ RFL R.Y h xs vs ∧ bindT.bindTs n t xs e = some e' ∧ ∀ σ' H' h' F', Go H h F H' h' F' → St R.Y H' h' σ' e' F' → K σ σ' → Q σ' H'
theorem pg_weak {tg : Expr} {t t' : TG} (h : PG X tg t) (i : ∀ v σ H Q, t' v σ H Q → t v σ H Q) : PG X tg t' := ⟨fun pins s σ H v u Q I r q => h.run pins s σ H v u Q I r (i v σ H Q q)⟩
theorem pgs_weak {tg : List Expr} {t t' : TGs} (h : PGs X tg t) (i : ∀ v σ H Q, t' v σ H Q → t v σ H Q) : PGs X tg t' := ⟨fun pins s σ H v u Q I r q => h.run pins s σ H v u Q I r (i v σ H Q q)⟩
variable {K : L2.St → L2.St → Prop}
theorem gname (i : Nat) (hn : ∀ σ x, K σ (σ.set i (some x))) (hg : PG X (.Name x pos) (gName i)) : PG X (.Name x pos) (tG R K (.n i)) := pg_weak hg fun v σ H Q t => by
  obtain ⟨e, h, F, n, x, e', S, r, eb, q⟩ := t
  cases n with
  | zero => cases eb
  | succ n =>
    cases eb
    obtain ⟨F2, S2, g2⟩ := S.set (r := .fz x) (A := []) ⟨rfl, r⟩ (Own.nil (H := H) (h := h) (F := F)) .refl i
    exact q _ H h F2 g2 S2 (hn _ _)
theorem gnil (hk : Keeps K) : PGs X [] (tGs R K .nil) := pgs_weak pgs_nil fun v σ H Q t => by
  obtain ⟨e, h, F, n, xs, e', S, r, eb, q⟩ := t
  cases n with
  | zero => cases eb
  | succ n =>
    unfold bindT.bindTs at eb
    cases xs with
    | nil =>
      cases eb
      exact ⟨r, q σ H h F .refl S (hk.refl _)⟩
    | cons _ _ => cases eb
theorem gcons {tg : Expr} {tgs : List Expr} {t u : Tg} (hk : Keeps K) (hc : ∀ {t : TG} {u : TGs}, PG X tg t → PGs X tgs u → PGs X (tg :: tgs) (gCons t u)) (ha : PG X tg (tG R K t)) (hb : PGs X tgs (tGs R K u)) : PGs X (tg :: tgs) (tGs R K (.cons t u)) :=
  pgs_weak (hc ha hb) fun v σ H Q q => by
    obtain ⟨e, h, F, n, xs, e', S, r, eb, q⟩ := q
    cases n with
    | zero => cases eb
    | succ n =>
      unfold bindT.bindTs at eb
      cases xs with
      | nil => cases eb
      | cons x xs =>
        dsimp only at eb
        cases e1 : bindT n t x e with
        | none => rw [e1] at eb; cases eb
        | some em =>
          rw [e1] at eb
          obtain ⟨y, yr, ey, ry, r⟩ := r
          exact ⟨y, yr, ey, e, h, F, n, x, em, S, ry, e1, fun σ1 H1 h1 F1 g1 S1 k1 => ⟨em, h1, F1, n, xs, e', S1, RFL.up g1.up _ r, eb, fun σ' H' h' F' g' S' k' => q σ' H' h' F' (g1.trans g') S' (hk.trans k1 k')⟩⟩
theorem bindTs_len : ∀ {n : Nat} {t : Tg} {xs : List IV} {e e' : Env}, bindT.bindTs n t xs e = some e' → ∀ m, tgLen t = some m → xs.length = m
  | 0, _, _, _, _, h, _, _ => by cases h
  | n + 1, .nil, [], _, _, _, m, hm => by cases hm; rfl
  | n + 1, .nil, _ :: _, _, _, h, _, _ => by cases h
  | n + 1, .cons a r, [], _, _, h, _, _ => by cases h
  | n + 1, .cons a r, x :: xs, e, e', h, m, hm => by
    unfold bindT.bindTs at h
    dsimp only at h
    cases e1 : bindT n a x e with
    | none => rw [e1] at h; cases h
    | some em =>
      rw [e1] at h
      unfold tgLen at hm
      cases q : tgLen r with
      | none => rw [q] at hm; cases hm
      | some k =>
        rw [q] at hm
        cases hm
        rw [List.length_cons, bindTs_len h k q]
  | n + 1, .n _, _, _, _, h, _, _ => by unfold bindT.bindTs at h; cases h
/-- a, b = value -/
theorem zasg {t : Tg} {tg : Expr} (ht : ∀ i, t ≠ .n i) (hps : ∀ {te : TE} {g : TG}, PE X a te → PG X tg g → PS X (.Assign [tg] a pos) (tAsg te g)) (he : PE X a (tE R d)) (hg : PG X tg (tG R (kPar R) t)) : PS X (.Assign [tg] a pos) (tS R (sAsg t d)) :=
  ps_weak (hps he hg) fun D σ H q => by
    obtain ⟨e, h, F, S, P, w⟩ := q
    refine ⟨e, h, F, S, wpR_mono (wpR_bind.mp w) (fun r e1 w1 => ?_) fun _ _ _ q => q.x P⟩
    intro x A H1 h1 F1 g1 S1 rs o
    obtain ⟨S2, g2, rf⟩ := S1.letRes rs o (fun _ _ => .inr True.intro)
    have w1 : wpR ((retO (bindT 20 t r.frz e1) e1 20).bind fun e' _ => .ok .nx e') (OKf R H h F D) (EXs R H h F) := by
      cases t with
      | n i => exact absurd rfl (ht i)
      | nil => exact w1
      | cons _ _ => exact w1
    obtain ⟨e2, eb, w2⟩ := wpR_retO.mp (wpR_bind.mp w1)
    exact ⟨e1, _, F1, 20, r.frz, e2, S2, rf, eb, fun σ' H' h' F' g' S' k' => w2 σ' H' h' F' ((g2 g1).trans g') S' (k' P)⟩
end
end Vy

end
section
set_option maxRecDepth 100000
set_option maxHeartbeats 2000000
/-! What is walked; for. -/
namespace Vy
open PySem PySem.Spec PyProof.Rows L2 StX
/-- an iterator gives the values, one after another -/
def ItOk (Y : Names) (H1 h1 : Hp) (F1 : Fp) (xs : List IV) (J : It) : Prop := ∀ i H' h' F', Go H1 h1 F1 H' h' F' → Up h' H' →
  (xs[i]? = none → J.stop i H') ∧ ∀ v, xs[i]? = some v → J.go i H' ∧ ∀ x H'', J.yld i H' x H'' → ∃ h'', Sub H' H'' ∧ Sub h' h'' ∧ Up h'' H'' ∧ (∀ a, h'' a ≠ none → h' a ≠ none ∨ H' a = none) ∧ RF Y h'' v x
def OKi (R : Fr) (H h : Hp) (F : Fp) (σ : L2.St) (K : It → Hp → Prop) : List IV → Env → Prop := fun xs e' => ∀ J H' h' F', Go H h F H' h' F' → St R.Y H' h' σ e' F' → ItOk R.Y H' h' F' xs J → K J H'
def tI (R : Fr) (d : IDen) : TI := fun σ H K => ∃ e h F, St R.Y H h σ e F ∧ wpR (d e) (OKi R H h F σ K) (EXx R H h F σ)
theorem pi_weak {X : Cx} {tg it : Expr} {t t' : TI} (h : PI X tg it t) (i : ∀ σ H R, t' σ H R → t σ H R) : PI X tg it t' := ⟨fun pins s σ H R I q => h.run pins s σ H R I (i σ H R q)⟩
section
variable {R : Fr} {X : Cx} {T : Tab} {C : Callee} {H h H1 h1 : Hp} {σ : L2.St} {e : Env} {F F1 : Fp} {D : Ends} {Q : VK}
/-- an operand that is let go -/
theorem tO_gone {o : ODen} {k : IV → Env → Res (List IV)} {K : It → Hp → Prop} (t : tI R (fun e => (gone o e).bind k) σ H K) :
    tO R o σ H fun x H1 => ∃ e h F v, St R.Y H1 h σ e F ∧ RF R.Y h v x ∧ wpR (k v e) (OKi R H1 h F σ K) (EXx R H1 h F σ) := by
  obtain ⟨e, h, F, S, w⟩ := t
  unfold gone at w
  refine ⟨e, h, F, S, wpR_mono (wpR_bind.mp (wpR_bind.mp w)) (fun ox e1 w1 => ?_) fun _ _ _ q => q⟩
  intro x H1 h1 F1 g1 S1 rx
  have okgo : ∀ {H2 h2 : Hp} {F2 : Fp}, Go H1 h1 F1 H2 h2 F2 → ∀ b e', OKi R H h F σ K b e' → OKi R H2 h2 F2 σ K b e' := fun g b e' q J H' h' F' g' S' j => q J H' h' F' ((g1.trans g).trans g') S' j
  cases ox with
  | vl v => exact ⟨e1, h1, F1, v, S1, rx, wpR_mono w1 (okgo .refl) fun _ _ _ q => q.go g1⟩
  | sl i =>
    have w1 : wpR ((dVar i e1).bind fun r e => .ok r.frz e) (fun v e' => wpR (k v e') (OKi R H h F σ K) (EXx R H h F σ)) (EXx R H h F σ) := w1
    unfold dVar at w1
    have hx : σ[i]? = some (some x) := rx
    have go : ∀ s, getE e1 i = s → s ≠ .und → wpR (k s.frz (setE e1 i (.fz s.frz))) (OKi R H h F σ K) (EXx R H h F σ) → ∃ e h F v, St R.Y H1 h σ e F ∧ RF R.Y h v x ∧ wpR (k v e) (OKi R H1 h F σ K) (EXx R H1 h F σ) := fun s q n w => by
      obtain ⟨x', hx', rx'⟩ := S1.at_ q n
      rw [hx] at hx'
      cases hx'
      obtain ⟨S2, g2, rf⟩ := S1.letGo (getE_some q n) hx rx'
      exact ⟨_, _, _, _, S2, rf, wpR_mono w (okgo g2) fun _ _ _ q => q.go (g1.trans g2)⟩
    cases q : getE e1 i with
    | und => rw [q] at w1; exact w1.elim
    | fz v =>
      rw [q] at w1
      obtain ⟨x', hx', rx'⟩ := S1.at_ q (fun z => nomatch z)
      rw [hx] at hx'
      cases hx'
      exact ⟨e1, h1, F1, v, S1, rx'.2, wpR_mono w1 (okgo .refl) fun _ _ _ q => q.go g1⟩
    | ol xs => rw [q] at w1; exact go _ q (fun z => nomatch z) w1
    | od xs => rw [q] at w1; exact go _ q (fun z => nomatch z) w1
    | oi c xs => rw [q] at w1; exact go _ q (fun z => nomatch z) w1
    | tb => rw [q] at w1; exact go _ q (fun z => nomatch z) w1
/-! ### iterators -/
theorem itok_list (Y : Names) {xs : List IV} {vs : List V} {a : Addr} {K : PySem.W.Frag} (rd : Rd h1 a (.lst vs)) (r : RFL Y h1 xs vs) : ItOk Y H1 h1 F1 xs (Itl K a) := by
  intro i H' h' F' g up
  have rd' : Rd H' a (.lst vs) := up.le _ _ True.intro (g.up.le _ _ True.intro rd)
  refine ⟨fun e => ⟨vs, .inl rd', ?_⟩, fun v e => ?_⟩
  · rw [r.length]
    exact List.getElem?_eq_none_iff.mp e
  · obtain ⟨x, ex, rx⟩ := (RFL.up g.up _ r).get e
    refine ⟨⟨vs, x, .inl rd', ex⟩, fun y H'' hy => ?_⟩
    obtain ⟨rfl, hy⟩ := hy
    have := hy vs (.inl rd')
    rw [ex] at this
    cases this
    exact ⟨h', .refl _, .refl _, up, fun _ z => .inl z, rx⟩
theorem itok_tup (Y : Names) {xs : List IV} {vs : List V} {a : Addr} (st : SqT Y.K h1 a vs) (r : RFL Y h1 xs vs) : ItOk Y H1 h1 F1 xs (Itt Y.K a) := by
  intro i H' h' F' g up
  have st' : SqT Y.K H' a vs := up.le.sqT (g.up.le.sqT st)
  refine ⟨fun e => ⟨vs, st', ?_⟩, fun v e => ?_⟩
  · rw [r.length]
    exact List.getElem?_eq_none_iff.mp e
  · obtain ⟨x, ex, rx⟩ := (RFL.up g.up _ r).get e
    refine ⟨⟨vs, x, st', ex⟩, fun y H'' hy => ?_⟩
    obtain ⟨rfl, hy⟩ := hy
    have := hy vs st'
    rw [ex] at this
    cases this
    exact ⟨h', .refl _, .refl _, up, fun _ z => .inl z, rx⟩
theorem itok_str (Y : Names) (x : List Nat) : ItOk Y H1 h1 F1 (x.map fun c => .str [c]) (Its (strOf x)) := by
  intro i H' h' F' g up
  refine ⟨fun e => ?_, fun v e => ?_⟩
  · show x.toArray.size ≤ i
    have := List.getElem?_eq_none_iff.mp e
    simpa using this
  · rw [List.getElem?_map] at e
    cases q : x[i]? with
    | none => rw [q] at e; cases e
    | some c =>
      rw [q] at e
      cases e
      refine ⟨?_, fun y H'' hy => ?_⟩
      · show i < x.toArray.size
        have := (List.getElem?_eq_some_iff.mp q).1
        simpa using this
      · obtain ⟨rfl, c', hc, rfl⟩ := hy
        have : c' = c := by
          have hc : x.toArray[i]? = some c' := hc
          rw [List.getElem?_toArray, q] at hc
          cases hc
          rfl
        subst this
        exact ⟨h', .refl _, .refl _, up, fun _ z => .inl z, rfl⟩
theorem rangeV_get : ∀ (n : Nat) (a : Int) (i : Nat), (rangeV n a)[i]? = if i < n then some (.int (a + i)) else none
  | 0, a, i => by simp [rangeV]
  | n + 1, a, 0 => by simp [rangeV]
  | n + 1, a, i + 1 => by
    rw [rangeV, List.getElem?_cons_succ, rangeV_get n (a + 1) i]
    by_cases z : i < n
    · rw [if_pos z, if_pos (by omega)]
      exact congrArg (fun t => some (IV.int t)) (by push_cast; omega)
    · rw [if_neg z, if_neg (by omega)]
theorem itok_rng (Y : Names) (n : Nat) (a : Int) : ItOk Y H1 h1 F1 (rangeV n a) (Itr a n) := by
  intro i H' h' F' g up
  rw [rangeV_get]
  by_cases z : i < n
  · rw [if_pos z]
    refine ⟨fun e => (nomatch e), fun v e => ?_⟩
    cases e
    refine ⟨z, fun x H'' hy => ?_⟩
    obtain ⟨rfl, rfl⟩ := hy
    exact ⟨h', .refl _, .refl _, up, fun _ z => .inl z, rfl⟩
  · rw [if_neg z]
    exact ⟨fun _ => Nat.le_of_not_lt z, fun v e => by cases e⟩
/-- what for walks: a list, a tuple, a text -/
theorem iseq (hY : Fits R.Y X) {tg l : Expr} {o : ODen} (hl : PE X l (tO R o)) : PI X tg l (tI R (iOne 0 o)) := by
  refine ⟨fun pins s σ H K I t => ?_⟩
  refine thn (hl.run pins s σ H _ I (tO_gone t)) fun u s1 ⟨x, H1, I1, r1, e, h, F, v, S, rf, w⟩ => ?_
  obtain ⟨xs, ex, q⟩ := wpR_retO.mp w
  unfold itV at ex
  cases v with
  | lst ys =>
    cases ex
    obtain ⟨a, vs, rfl, rd, rl⟩ := rf
    cases r1
    obtain ⟨its, rv, p, hz⟩ := I1.list (.inl (S.le.le _ _ True.intro rd))
    refine wpAny_pyIter_list p.isList ?_
    exact pi_one (tk := s1.toks) I1 _ (turn_list a _) ⟨_, Heap.get?_push_size _ rfl, rfl, rfl⟩ (q _ H1 h F .refl S (itok_list R.Y rd rl))
  | tup ys =>
    cases ex
    obtain ⟨a, vs, rfl, st, rl⟩ := rf
    cases r1
    obtain ⟨its, rv, p, hz⟩ := I1.tuple (hY.K ▸ S.le.le.sqT st)
    refine wpAny_pyIter_tuple (show s1.heap.IsTuple a its.toArray from p) ?_
    exact pi_one (tk := s1.toks) I1 _ (turn_tuple a _) ⟨_, Heap.get?_push_size _ rfl, rfl, rfl⟩ (q _ H1 h F .refl S (hY.K ▸ itok_tup R.Y st rl))
  | str y =>
    cases ex
    rw [show x = .str (strOf y) from rf] at r1
    obtain ⟨t, rfl⟩ := r1
    have it := q _ H1 h F .refl S (itok_str R.Y y)
    cases ha : (strOf y).cps.all (· < 128)
    · exact wpAny_pyIter_wide ha (pi_one (tk := s1.toks) I1 _ (turn_str _ _ t "str_iterator" (.inr rfl)) ⟨_, Heap.get?_push_size _ rfl, rfl, rfl⟩ it)
    · exact wpAny_pyIter_ascii ha (pi_one (tk := s1.toks) I1 _ (turn_str _ _ t "str_ascii_iterator" (.inl rfl)) ⟨_, Heap.get?_push_size _ rfl, rfl, rfl⟩ it)
  | _ => cases ex
theorem irng1 {a : Expr} {o : ODen} {tg : Expr} {p pos : Pos} (hg : Gl X "range") (hm : X.mg "range" = none) (ha : PE X a (tO R o)) (hs : starEach [a] X.env = [(false, eval a X.env)] := by rfl) : PI X tg (.Call (.Name "range" p) [a] [] pos) (tI R (iRng1 o)) :=
  pi_weak (pi_range1 hg hm (pa_cons ha pa_nil hs) hs) fun σ H K t => by
    obtain ⟨e, h, F, S, w⟩ := tO_gone t
    refine ⟨e, h, F, S, wpR_mono w (fun ox e1 w1 => ?_) fun _ _ _ q => q⟩
    intro x H1 h1 F1 g1 S1 rx
    obtain ⟨e2, h2, F2, v, S2, rf, w2⟩ := w1 x H1 h1 F1 g1 S1 rx
    cases v with
    | int n =>
      dsimp only at w2
      cases z : (decide (-1000000 < n) && decide (n < 1000000)) with
      | false => rw [z] at w2; exact w2.elim
      | true =>
        rw [z] at w2
        have w2 : OKi R H1 h2 F2 σ K (rangeV n.toNat 0) e2 := w2
        have z1 := of_decide_eq_true (bAnd z).1
        have z2 := of_decide_eq_true (bAnd z).2
        exact ⟨n, by rw [show x = .int n from rf], by omega, by omega, w2 _ H1 h2 F2 .refl S2 (itok_rng R.Y n.toNat 0)⟩
    | _ => exact w2.elim
theorem irng2 {a b : Expr} {o o2 : ODen} {tg : Expr} {p pos : Pos} (hg : Gl X "range") (hm : X.mg "range" = none) (ha : PE X a (tO R o)) (hb : PE X b (tO R o2)) (hs : starEach [a, b] X.env = [(false, eval a X.env), (false, eval b X.env)] := by rfl) (hs2 : starEach [b] X.env = [(false, eval b X.env)] := by rfl) :
    PI X tg (.Call (.Name "range" p) [a, b] [] pos) (tI R (iRng2 o o2)) :=
  pi_weak (pi_range2 hg hm (pa_cons ha (pa_cons hb pa_nil hs2) (by rw [hs, hs2])) hs hs2) fun σ H K t => by
    obtain ⟨e, h, F, S, w⟩ := tO_gone t
    refine ⟨e, h, F, S, wpR_mono w (fun ox e1 w1 => ?_) fun _ _ _ q => q⟩
    intro x H1 h1 F1 g1 S1 rx
    obtain ⟨e2, h2, F2, v, S2, rf, w2⟩ := w1 x H1 h1 F1 g1 S1 rx
    obtain ⟨e3, h3, F3, S3, w3⟩ := tO_gone (k := fun w e => rng2K v w e) ⟨e2, h2, F2, S2, w2⟩
    refine ⟨e3, h3, F3, S3, wpR_mono w3 (fun oy e4 w4 => ?_) fun _ _ _ q => q⟩
    intro y H4 h4 F4 g4 S4 ry
    obtain ⟨e5, h5, F5, u, S5, ru, w5⟩ := w4 y H4 h4 F4 g4 S4 ry
    unfold rng2K at w5
    cases v with
    | int m =>
      cases u with
      | int n =>
        dsimp only at w5
        cases z : (decide (-1000000 < m) && decide (m < 1000000) && decide (-1000000 < n) && decide (n < 1000000)) with
        | false => rw [z] at w5; exact w5.elim
        | true =>
          rw [z] at w5
          have w5 : OKi R H4 h5 F5 σ K (rangeV (n - m).toNat m) e5 := w5
          obtain ⟨z1, z4⟩ := bAnd z
          obtain ⟨z1, z3⟩ := bAnd z1
          obtain ⟨z1, z2⟩ := bAnd z1
          have z1 := of_decide_eq_true z1
          have z2 := of_decide_eq_true z2
          have z3 := of_decide_eq_true z3
          have z4 := of_decide_eq_true z4
          exact ⟨m, n, by rw [show x = .int m from rf, show y = .int n from ru], ⟨by omega, by omega, by omega, by omega⟩, w5 _ H4 h5 F5 .refl S5 (itok_rng R.Y (n - m).toNat m)⟩
      | _ => exact w5.elim
    | _ => exact w5.elim
/-- for: over what an iterator gives -/
theorem forL_nil (t : Tg) (b : SDen) (e : Env) : forL t b [] e = .ok .nx e := rfl
theorem zfor {tg it : Expr} {t : Tg} {d : IDen} {b : SDen} {body : List Stmt} {pos : Pos} (hp : PassesOwn (model X.prog X.w) X.A X.env X.xe) (hc : X.calm = true) (hi : PI X tg it (tI R d)) (hg : PG X tg (tG R (kPar R) t)) (hb : PSs X body (tS R b))
    (hs : ∀ x, foldedSetIterable it X.env x = pure x := by intro _; rfl) : PS X (.For tg it body [] pos) (tS R (sFr t d b)) :=
  ps_weak (ps_for hp hc hi hg hb hs) fun D σ H q => by
    obtain ⟨e, h, F, S, P, w⟩ := q
    refine ⟨e, h, F, S, wpR_mono (wpR_bind.mp w) (fun xs e1 w1 => ?_) fun _ _ _ q => q.x P⟩
    intro J H1 h1 F1 g1 S1 jo
    refine ⟨fun i m σ' H' => m = xs.length - i ∧ ∃ e' h' F', Go H1 h1 F1 H' h' F' ∧ St R.Y H' h' σ' e' F' ∧ Par R σ' ∧ wpR (forL t b (xs.drop i) e') (OKf R H1 h1 F1 D) (EXs R H1 h1 F1), ⟨xs.length, rfl, e1, h1, F1, .refl, S1, P, ?_⟩, fun i m σ' H' hW => ?_⟩
    · exact wpR_mono w1 (fun _ _ q => q.go g1) fun _ _ _ q => q.go g1
    obtain ⟨hm, e', h', F', g', S', P', w'⟩ := hW
    obtain ⟨j0, j1⟩ := jo i H' h' F' g' S'.le
    cases hx : xs[i]? with
    | none =>
      have hl := List.getElem?_eq_none_iff.mp hx
      rw [List.drop_eq_nil_of_le hl] at w'
      exact .inl ⟨j0 hx, w' σ' H' h' F' g' S' P'⟩
    | some v =>
      obtain ⟨hl, _⟩ := List.getElem?_eq_some_iff.mp hx
      have ed : xs.drop i = v :: xs.drop (i + 1) := by
        rw [List.drop_eq_getElem_cons hl]
        congr 1
      rw [ed] at w'
      obtain ⟨jg, jy⟩ := j1 v hx
      refine .inr ⟨jg, fun σ2 H2 => ∃ e2 h2 F2, Go H1 h1 F1 H2 h2 F2 ∧ St R.Y H2 h2 σ2 e2 F2 ∧ Par R σ2 ∧ wpR (forL t b (xs.drop (i + 1)) e2) (OKf R H1 h1 F1 D) (EXs R H1 h1 F1), fun σ2 H2 hN => ⟨xs.length - (i + 1), by omega, rfl, hN⟩, fun x H2 hy => ?_⟩
      obtain ⟨h2, sH, sh, u2, nn, rx⟩ := jy x H2 hy
      obtain ⟨S2, g2⟩ := S'.more sH sh u2 nn
      unfold forL at w'
      cases eb : bindT 20 t v e' with
      | none => rw [eb] at w'; exact w'.elim
      | some e3 =>
        rw [eb] at w'
        refine ⟨e', h2, F', 20, v, e3, S2, rx, eb, fun σ3 H3 h3 F3 g3 S3 P3 => ⟨e3, h3, F3, S3, P3 P', ?_⟩⟩
        have gA := (g'.trans g2).trans g3
        refine wpR_mono (wpR_bind.mp w') (fun f e4 w4 => ?_) fun _ _ _ q => q.go gA
        cases f with
        | nx => exact fun σ5 H5 h5 F5 g5 S5 P5 => ⟨e4, h5, F5, gA.trans g5, S5, P5, w4⟩
        | cnt => exact fun σ5 H5 h5 F5 g5 S5 P5 => ⟨e4, h5, F5, gA.trans g5, S5, P5, w4⟩
        | brk => exact fun σ5 H5 h5 F5 g5 S5 P5 => w4 σ5 H5 h5 F5 (gA.trans g5) S5 P5
        | ret s => exact OKf.go (f := .ret s) gA w4
theorem gtup {K : L2.St → L2.St → Prop} {es : List Expr} {k : Nat} {pos : Pos} {t u : Tg} {n : Nat} (hY : Fits R.Y X) (hc : X.calm = true) (h : PGs X es (tGs R K (.cons t u))) (hl : tgLen (.cons t u) = some n) (hn : (assignEach es X.env).length = n := by rfl) (hst : (assignEach es X.env).findIdx? (·.1) = none := by rfl) :
    PG X (.Tuple es k pos) (tG R K (.cons t u)) := pg_weak (pg_tup hc h hn hst) fun v σ H Q q => by
  obtain ⟨e, h, F, n', x, e', S, r, eb, q⟩ := q
  cases n' with
  | zero => cases eb
  | succ n' =>
    cases x <;> try (cases eb; done)
    rename_i xs
    obtain ⟨a, vs, rfl, st, rl⟩ := r
    have eb : bindT.bindTs n' (.cons t u) xs e = some e' := eb
    refine ⟨a, vs, rfl, hY.K ▸ S.le.le.sqT st, by rw [rl.length, bindTs_len eb n hl], e, h, F, n', xs, e', S, rl, eb, q⟩
end
end Vy

end
section
set_option maxRecDepth 100000
set_option maxHeartbeats 2000000
/-! Calls of the text's own functions. -/
namespace Vy
open PySem PySem.Spec PyProof.Rows L2 StX
/-! ### arguments -/
def AVr (Y : Names) (h : Hp) (σ : L2.St) : List AV → List V → Prop
  | [], vs => vs = []
  | a :: as, vs => ∃ v vr, vs = v :: vr ∧ (match a with
    | .own i => σ[i]? = some (some v)
    | .val w => RF Y h w v) ∧ AVr Y h σ as vr
theorem AVr.up {Y : Names} {h h' : Hp} {σ : L2.St} (u : Up h h') : ∀ {as : List AV} {vs : List V}, AVr Y h σ as vs → AVr Y h' σ as vs
  | [], _, r => r
  | .own i :: as, _, ⟨v, vr, e, r1, r⟩ => ⟨v, vr, e, r1, AVr.up u r⟩
  | .val w :: as, _, ⟨v, vr, e, r1, r⟩ => ⟨v, vr, e, RF.up u w r1, AVr.up u r⟩
section
variable {R : Fr} {X : Cx} {T : Tab} {C : Callee} {H h H1 h1 : Hp} {σ : L2.St} {e : Env} {F F1 : Fp} {D : Ends} {Q : VK}
def OKav (R : Fr) (H h : Hp) (F : Fp) (σ : L2.St) (Q : List V → Hp → Prop) : List AV → Env → Prop := fun as e' => ∀ vs H' h' F', Go H h F H' h' F' → St R.Y H' h' σ e' F' → AVr R.Y h' σ as vs → Q vs H'
def tAv (R : Fr) (d : ADen) : TA := fun σ H Q => ∃ e h F, St R.Y H h σ e F ∧ wpR (d e) (OKav R H h F σ Q) (EXx R H h F σ)
theorem tAv_nil {Q : List V → Hp → Prop} (t : tAv R aNil σ H Q) : tNil σ H Q := by
  obtain ⟨e, h, F, S, w⟩ := t
  exact w [] H h F .refl S rfl
theorem tAv_val {Q : List V → Hp → Prop} {d : Den} {r : ADen} (t : tAv R (aVal d r) σ H Q) : tCons (tE R d) (tAv R r) σ H Q := by
  obtain ⟨e, h, F, S, w⟩ := t
  refine ⟨e, h, F, S, wpR_mono (wp_thaw.mp w) (fun r e1 w1 => ?_) fun _ _ _ q => q⟩
  intro x A H1 h1 F1 g1 S1 rs o
  obtain ⟨S2, g2, rf⟩ := S1.letRes rs o (fun _ _ => .inr True.intro)
  refine ⟨e1, _, F1, S2, wpR_mono (wpR_bind.mp w1) (fun xs e2 w2 => ?_) fun _ _ _ q => q.go (g2 g1)⟩
  intro vs H3 h3 F3 g3 S3 rv
  exact w2 (x :: vs) H3 h3 F3 ((g2 g1).trans g3) S3 ⟨x, vs, rfl, RF.up g3.up _ rf, rv⟩
theorem tAv_own {Q : List V → Hp → Prop} {i : Nat} {r : ADen} (t : tAv R (aOwn i r) σ H Q) : tCons (tVar i) (tAv R r) σ H Q := by
  obtain ⟨e, h, F, S, w⟩ := t
  unfold aOwn at w
  have own : ∀ s, getE e i = s → s ≠ .und → wpR ((r e).bind fun xs e => .ok (.own i :: xs) e) (OKav R H h F σ Q) (EXx R H h F σ) → tCons (tVar i) (tAv R r) σ H Q := fun s q n w => by
    obtain ⟨x, hx, rx⟩ := S.at_ q n
    refine ⟨x, hx, e, h, F, S, wpR_mono (wpR_bind.mp w) (fun xs e2 w2 => ?_) fun _ _ _ q => q⟩
    intro vs H3 h3 F3 g3 S3 rv
    exact w2 (x :: vs) H3 h3 F3 g3 S3 ⟨x, vs, rfl, hx, rv⟩
  cases q : getE e i with
  | und => rw [q] at w; exact w.elim
  | fz v =>
    rw [q] at w
    obtain ⟨x, hx, rx⟩ := S.at_ q (fun z => nomatch z)
    refine ⟨x, hx, e, h, F, S, wpR_mono (wpR_bind.mp w) (fun xs e2 w2 => ?_) fun _ _ _ q => q⟩
    intro vs H3 h3 F3 g3 S3 rv
    exact w2 (x :: vs) H3 h3 F3 g3 S3 ⟨x, vs, rfl, RF.up g3.up _ rx.2, rv⟩
  | ol xs => rw [q] at w; exact own _ q (fun z => nomatch z) w
  | od xs => rw [q] at w; exact own _ q (fun z => nomatch z) w
  | oi c xs => rw [q] at w; exact own _ q (fun z => nomatch z) w
  | tb => rw [q] at w; exact own _ q (fun z => nomatch z) w
/-! ### what a function promises -/
def OKc (Y : Names) (vs : List V) (H h : Hp) (F : Fp) (Q : VK) : SV × List SV → Env → Prop := fun r _ => ∀ x A H' h' F', Go H h F H' h' F' → St Y H' h' (vs.map some) r.2 F' → RS Y H' h' r.1 x A → Own H h H' h' F F' A → Q x H'
def EXc (Y : Names) (xc : Nat → Addr) (xr : XR) (vs : List V) (H h : Hp) (F : Fp) (E : XK) : Nat → List (Nat × IV) → Env → Prop := fun c fs outs => ∀ H' h' F' d, Go H h F H' h' F' → St Y H' h' (vs.map some) outs F' → xr H' h' c fs d → E (.ref (xc c)) d H'
def spV (Y : Names) (xc : Nat → Addr) (xr : XR) (C : Callee) (f : Nat) : Sp := fun vs H Q E => ∃ ss h F, St Y H h (vs.map some) ss F ∧ wpR (C f ss) (OKc Y vs H h F Q) (EXc Y xc xr vs H h F E)
theorem wp_called {as : List AV} {e : Env} {Q : SV → Env → Prop} {E : Nat → List (Nat × IV) → Env → Prop} : ∀ {r : Res (SV × List SV)}, wpR (called.go as e r) Q E → wpR r (fun r _ => Q r.1 (back as r.2 e)) (fun c fs outs => E c fs (back as outs e))
  | .ok _ _, w => w
  | .exc _ _ _, w => w
  | .ask n k, w => fun i hi => wp_called (w i hi)
  | .bad _, w => w
/-- what the arguments own -/
def Fa (as : List AV) (F : Fp) : Fp := fun j => match as[j]? with
  | some (.own i) => F i
  | _ => []
theorem owns_mem : ∀ {as : List AV} {j i : Nat}, as[j]? = some (AV.own i) → i ∈ owns as
  | [], _, _, h => by simp at h
  | .own k :: as, 0, i, h => by
    simp at h
    subst h
    exact List.mem_cons_self
  | .val w :: as, 0, i, h => by simp at h
  | .own k :: as, j + 1, i, h => List.mem_cons_of_mem _ (owns_mem (as := as) (j := j) (by simpa using h))
  | .val w :: as, j + 1, i, h => owns_mem (as := as) (j := j) (by simpa using h)
theorem owns_at : ∀ {as : List AV} {i : Nat}, i ∈ owns as → ∃ j : Nat, as[j]? = some (AV.own i)
  | [], _, h => by cases h
  | .own k :: as, i, h => by
    rcases List.mem_cons.mp h with z | z
    · exact ⟨0, by rw [z]; rfl⟩
    · obtain ⟨j, hj⟩ := owns_at z
      exact ⟨j + 1, by simpa using hj⟩
  | .val w :: as, i, h => by
    obtain ⟨j, hj⟩ := owns_at (as := as) h
    exact ⟨j + 1, by simpa using hj⟩
theorem nodup_head {i : Nat} {r : List Nat} (h : nodupN (i :: r) = true) : i ∉ r ∧ nodupN r = true := by
  obtain ⟨a, b⟩ := bAnd (show (!(r.any fun j => Nat.beq i j) && nodupN r) = true from h)
  refine ⟨fun z => ?_, b⟩
  have : (r.any fun j => Nat.beq i j) = true := List.any_eq_true.mpr ⟨i, z, Nat.beq_refl i⟩
  rw [this] at a
  cases a
theorem owns_inj : ∀ {as : List AV} {j l i : Nat}, nodupN (owns as) = true → as[j]? = some (AV.own i) → as[l]? = some (AV.own i) → j = l
  | [], _, _, _, _, h, _ => by simp at h
  | a :: as, 0, 0, _, _, _, _ => rfl
  | a :: as, 0, l + 1, i, n, h, h2 => by
    simp at h
    subst h
    obtain ⟨z, _⟩ := nodup_head n
    exact absurd (owns_mem (as := as) (j := l) (by simpa using h2)) z
  | a :: as, j + 1, 0, i, n, h, h2 => by
    simp at h2
    subst h2
    obtain ⟨z, _⟩ := nodup_head n
    exact absurd (owns_mem (as := as) (j := j) (by simpa using h)) z
  | .own k :: as, j + 1, l + 1, i, n, h, h2 => congrArg (· + 1) (owns_inj (as := as) (nodup_head n).2 (by simpa using h) (by simpa using h2))
  | .val k :: as, j + 1, l + 1, i, n, h, h2 => congrArg (· + 1) (owns_inj (as := as) n (by simpa using h) (by simpa using h2))
theorem AVr.length {Y : Names} {h : Hp} {σ : L2.St} : ∀ {as : List AV} {vs : List V}, AVr Y h σ as vs → vs.length = as.length
  | [], _, r => by rw [show _ = _ from r]; rfl
  | a :: as, _, ⟨v, vr, e, _, r⟩ => by rw [e, List.length_cons, List.length_cons, AVr.length r]
theorem AVr.get {Y : Names} {h : Hp} {σ : L2.St} : ∀ {as : List AV} {vs : List V} {j : Nat} {a : AV}, AVr Y h σ as vs → as[j]? = some a → ∃ v, vs[j]? = some v ∧ match a with
    | .own i => σ[i]? = some (some v)
    | .val w => RF Y h w v
  | [], _, _, _, _, q => by simp at q
  | b :: as, _, 0, a, ⟨v, vr, e, r1, r⟩, q => by
    simp at q
    subst q
    rw [e]
    exact ⟨v, rfl, r1⟩
  | b :: as, _, j + 1, a, ⟨v, vr, e, r1, r⟩, q => by
    obtain ⟨w, h1, h2⟩ := AVr.get (j := j) r (by simpa using q)
    rw [e]
    exact ⟨w, by simpa using h1, h2⟩
/-- the arguments as a state of their own -/
theorem St.args (S : St R.Y H h σ e F) {as : List AV} {vs : List V} (r : AVr R.Y h σ as vs) (n : nodupN (owns as) = true) : St R.Y H h (vs.map some) (as.map (AV.sv e)) (Fa as F) := by
  have fa : ∀ (j i : Nat), as[j]? = some (AV.own i) → Fa as F j = F i := fun j i q => by unfold Fa; rw [q]
  have fn : ∀ j, (∀ i, as[j]? ≠ some (AV.own i)) → Fa as F j = [] := fun j q => by
    unfold Fa
    cases q2 : as[j]? with
    | none => rfl
    | some a =>
      cases a with
      | own i => exact absurd q2 (q i)
      | val w => rfl
  have cases_ : ∀ j : Nat, (∃ i, as[j]? = some (AV.own i)) ∨ ∀ i, as[j]? ≠ some (AV.own i) := fun j => by
    cases q2 : as[j]? with
    | none => exact .inr fun i z => by cases z
    | some a =>
      cases a with
      | own i => exact .inl ⟨i, rfl⟩
      | val w => exact .inr fun i z => by cases z
  refine ⟨by rw [List.length_map, List.length_map, r.length], fun j s hs => ?_, fun j hj => ?_, fun j => ?_, fun j l hjl a ha => ?_, fun j a ha => ?_, S.le⟩
  · rw [List.getElem?_map] at hs
    cases q : as[j]? with
    | none => rw [q] at hs; cases hs
    | some a =>
      rw [q] at hs
      cases hs
      obtain ⟨v, hv, rv⟩ := r.get q
      have hσ : (vs.map some)[j]? = some (some v) := by rw [List.getElem?_map, hv]; rfl
      cases a with
      | val w => exact .inr ⟨v, hσ, by rw [fn j fun i z => by rw [q] at z; cases z]; exact ⟨rfl, rv⟩⟩
      | own i =>
        rw [fa j i q]
        have rv : σ[i]? = some (some v) := rv
        show (getE e i = .und ∧ F i = []) ∨ ∃ x, (vs.map some)[j]? = some (some x) ∧ RS R.Y H h (getE e i) x (F i)
        unfold getE
        cases q2 : e[i]? with
        | none => exact .inl ⟨rfl, S.out i (List.getElem?_eq_none_iff.mp q2)⟩
        | some s =>
          rcases S.rel i s q2 with z | ⟨x, z1, z2⟩
          · exact .inl z
          · rw [rv] at z1
            cases z1
            exact .inr ⟨v, hσ, z2⟩
  · refine fn j fun i z => ?_
    have := (List.getElem?_eq_some_iff.mp z).1
    rw [List.length_map] at hj
    omega
  · rcases cases_ j with ⟨i, q⟩ | q
    · rw [fa j i q]; exact S.nd i
    · rw [fn j q]; exact .nil
  · rcases cases_ j with ⟨i, q⟩ | q
    · rw [fa j i q] at ha
      rcases cases_ l with ⟨k, q2⟩ | q2
      · rw [fa l k q2]
        refine S.dj i k (fun z => ?_) a ha
        subst z
        exact hjl (owns_inj n q q2)
      · rw [fn l q2]; simp
    · rw [fn j q] at ha; cases ha
  · rcases cases_ j with ⟨i, q⟩ | q
    · rw [fa j i q] at ha; exact S.hd i a ha
    · rw [fn j q] at ha; cases ha
theorem back_len : ∀ (as : List AV) (ss : List SV) (e : Env), (back as ss e).length = e.length
  | [], ss, e => by cases ss <;> rfl
  | .own i :: r, [], e => rfl
  | .val w :: r, [], e => rfl
  | .own i :: r, s :: ss, e => by
    show (back r ss (setE e i s)).length = e.length
    rw [back_len r ss]
    simp [setE]
  | .val w :: r, s :: ss, e => back_len r ss e
theorem back_other : ∀ (as : List AV) (ss : List SV) (e : Env) (i : Nat), i ∉ owns as → (back as ss e)[i]? = e[i]?
  | [], ss, e, i, _ => by cases ss <;> rfl
  | .own k :: r, [], e, i, _ => rfl
  | .val w :: r, [], e, i, _ => rfl
  | .own k :: r, s :: ss, e, i, n => by
    have n1 : i ≠ k := fun z => n (by rw [z]; exact List.mem_cons_self)
    show (back r ss (setE e k s))[i]? = e[i]?
    rw [back_other r ss _ i fun z => n (List.mem_cons_of_mem _ z)]
    exact List.getElem?_set_ne (Ne.symm n1)
  | .val w :: r, s :: ss, e, i, n => back_other r ss e i n
theorem back_own : ∀ (as : List AV) (ss : List SV) (e : Env) (i j : Nat), nodupN (owns as) = true → as[j]? = some (AV.own i) → ss.length = as.length → i < e.length → (back as ss e)[i]? = ss[j]?
  | [], ss, e, i, j, _, h, _, _ => by simp at h
  | a :: r, [], e, i, j, _, _, hl, _ => by simp at hl
  | .own k :: r, s :: ss, e, i, 0, n, h, hl, hi => by
    simp at h
    subst h
    show (back r ss (setE e k s))[k]? = some s
    rw [back_other r ss _ k (nodup_head n).1]
    exact List.getElem?_set_self hi
  | .own k :: r, s :: ss, e, i, j + 1, n, h, hl, hi => by
    show (back r ss (setE e k s))[i]? = (s :: ss)[j + 1]?
    rw [back_own r ss (setE e k s) i j (nodup_head n).2 (by simpa using h) (by simpa using hl) (by simpa [setE] using hi)]
    simp
  | .val w :: r, s :: ss, e, i, 0, n, h, hl, hi => by simp at h
  | .val w :: r, s :: ss, e, i, j + 1, n, h, hl, hi => by
    show (back r ss e)[i]? = (s :: ss)[j + 1]?
    rw [back_own r ss e i j n (by simpa using h) (by simpa using hl) hi]
    simp
theorem RS.und_or {Y : Names} {s : SV} {x : V} {A : List Addr} (r : RS Y H h s x A) : s ≠ .und := by
  rintro rfl
  exact r
/-- behind a call: the caller's state -/
theorem St.back {H' h' : Hp} {F' : Fp} {outs : List SV} (S : St R.Y H h σ e F) {as : List AV} {vs : List V} (r : AVr R.Y h σ as vs) (n : nodupN (owns as) = true) (g : Go H h (Fa as F) H' h' F') (S' : St R.Y H' h' (vs.map some) outs F') :
    ∃ F2, St R.Y H' h' σ (Vy.back as outs e) F2 ∧ Go H h F H' h' F2 ∧ (∀ i, i ∉ owns as → F2 i = F i) ∧ (∀ (i j : Nat), as[j]? = some (AV.own i) → F2 i = F' j) := by
  have fa : ∀ (j i : Nat), as[j]? = some (AV.own i) → Fa as F j = F i := fun j i q => by unfold Fa; rw [q]
  have inFa : ∀ j a, a ∈ Fa as F j → ∃ i, as[j]? = some (AV.own i) ∧ a ∈ F i := fun j a ha => by
    unfold Fa at ha
    cases q : as[j]? with
    | none => rw [q] at ha; cases ha
    | some b =>
      rw [q] at ha
      cases b with
      | own i => exact ⟨i, rfl, ha⟩
      | val w => cases ha
  have lo : outs.length = as.length := by rw [← S'.len, List.length_map, r.length]
  -- the others' own stays
  have same : ∀ i, i ∉ owns as → ∀ a ∈ F i, H' a = H a ∧ h' a = none := fun i hi a ha => by
    have no : ∀ j, a ∉ Fa as F j := fun j z => by
      obtain ⟨k, hk, z⟩ := inFa j a z
      have : k ≠ i := fun w => hi (by rw [← w]; exact owns_mem hk)
      exact S.dj k i this a z ha
    cases q : H a with
    | none => exact absurd q (S.dom ha)
    | some o =>
      obtain ⟨a1, a2⟩ := g.same q no (S.hd i a ha)
      exact ⟨a1, a2⟩
  have newF : ∀ j a, a ∈ F' j → (H a = none ∨ ∃ k, k ∈ owns as ∧ a ∈ F k) := fun j a ha => by
    rcases g.nf a j ha with z | ⟨l, z⟩
    · exact .inl z
    · obtain ⟨k, hk, z⟩ := inFa l a z
      exact .inr ⟨k, owns_mem hk, z⟩
  have apart : ∀ j a, a ∈ F' j → ∀ i, i ∉ owns as → a ∉ F i := fun j a ha i hi z => by
    rcases newF j a ha with w | ⟨k, hk, w⟩
    · exact absurd w (S.dom z)
    · exact S.dj k i (fun y => hi (by rw [← y]; exact hk)) a w z
  obtain ⟨F2, f1, f2⟩ : ∃ F2 : Fp, (∀ i, i ∉ owns as → F2 i = F i) ∧ (∀ (i j : Nat), as[j]? = some (AV.own i) → F2 i = F' j) := by
    refine ⟨fun i => match as.findIdx? (fun a => match a with | .own k => Nat.beq k i | .val _ => false) with
      | some j => F' j
      | none => F i, fun i hi => ?_, fun i j hj => ?_⟩
    · have : as.findIdx? (fun a => match a with | .own k => Nat.beq k i | .val _ => false) = none := by
        rw [List.findIdx?_eq_none_iff]
        intro x hx
        cases x with
        | val w => rfl
        | own k =>
          cases q : Nat.beq k i with
          | false => exact q
          | true =>
            have := Nat.eq_of_beq_eq_true q
            subst this
            obtain ⟨j, hj⟩ := List.getElem?_of_mem hx
            exact absurd (owns_mem hj) hi
      dsimp only
      rw [this]
    · have : as.findIdx? (fun a => match a with | .own k => Nat.beq k i | .val _ => false) = some j := by
        rw [List.findIdx?_eq_some_iff_getElem]
        obtain ⟨hl, hg⟩ := List.getElem?_eq_some_iff.mp hj
        refine ⟨hl, by rw [hg]; exact Nat.beq_refl i, fun l hl2 => ?_⟩
        have hl3 : l < as.length := by omega
        cases q : as[l] with
        | val w => simp
        | own k =>
          intro z
          have := Nat.eq_of_beq_eq_true z
          subst this
          have := owns_inj n hj (List.getElem?_eq_some_iff.mpr ⟨hl3, q⟩)
          omega
      dsimp only
      rw [this]
  have cases_ : ∀ i, (∃ j : Nat, as[j]? = some (AV.own i)) ∨ i ∉ owns as := fun i => by
    by_cases z : i ∈ owns as
    · exact .inl (owns_at z)
    · exact .inr z
  refine ⟨F2, ⟨by rw [back_len]; exact S.len, fun i s hs => ?_, fun i hi => ?_, fun i => ?_, fun i l hil a ha => ?_, fun i a ha => ?_, S'.le⟩, ⟨fun a o ha no => ?_, g.up, fun a ha => ?_, fun a i ha => ?_⟩, f1, f2⟩
  · rcases cases_ i with ⟨j, hj⟩ | hi
    · have il : i < e.length := by
        have := (List.getElem?_eq_some_iff.mp hs).1
        rwa [back_len] at this
      rw [back_own as outs e i j n hj lo il] at hs
      rw [f2 i j hj]
      obtain ⟨v, hv, rv⟩ := r.get hj
      rcases S'.rel j s hs with z | ⟨x, z1, z2⟩
      · exact .inl z
      · rw [List.getElem?_map, hv] at z1
        cases z1
        exact .inr ⟨v, rv, z2⟩
    · rw [back_other as outs e i hi] at hs
      rw [f1 i hi]
      rcases S.rel i s hs with z | ⟨x, z1, z2⟩
      · exact .inl z
      · exact .inr ⟨x, z1, RS.up g.up s z2 fun a ha => (same i hi a ha).1⟩
  · rw [back_len] at hi
    rcases cases_ i with ⟨j, hj⟩ | hi2
    · exfalso
      obtain ⟨v, _, rv⟩ := r.get hj
      have rv : σ[i]? = some (some v) := rv
      have := (List.getElem?_eq_some_iff.mp rv).1
      rw [S.len] at this
      omega
    · rw [f1 i hi2]; exact S.out i hi
  · rcases cases_ i with ⟨j, hj⟩ | hi
    · rw [f2 i j hj]; exact S'.nd j
    · rw [f1 i hi]; exact S.nd i
  · rcases cases_ i with ⟨j, hj⟩ | hi
    · rw [f2 i j hj] at ha
      rcases cases_ l with ⟨k, hk⟩ | hl
      · rw [f2 l k hk]
        refine S'.dj j k (fun z => ?_) a ha
        subst z
        rw [hj] at hk
        cases hk
        exact hil rfl
      · rw [f1 l hl]; exact apart j a ha l hl
    · rw [f1 i hi] at ha
      rcases cases_ l with ⟨k, hk⟩ | hl
      · rw [f2 l k hk]; exact fun z => apart k a z i hi ha
      · rw [f1 l hl]; exact S.dj i l hil a ha
  · rcases cases_ i with ⟨j, hj⟩ | hi
    · rw [f2 i j hj] at ha; exact S'.hd j a ha
    · rw [f1 i hi] at ha; exact (same i hi a ha).2
  · refine g.keep a o ha fun j z => ?_
    obtain ⟨k, _, z⟩ := inFa j a z
    exact no k z
  · rcases g.nh a ha with z | z | ⟨j, z⟩
    · exact .inl z
    · exact .inr (.inl z)
    · obtain ⟨k, _, z⟩ := inFa j a z
      exact .inr (.inr ⟨k, z⟩)
  · rcases cases_ i with ⟨j, hj⟩ | hi
    · rw [f2 i j hj] at ha
      rcases newF j a ha with z | ⟨k, _, z⟩
      · exact .inl z
      · exact .inr ⟨k, z⟩
    · rw [f1 i hi] at ha; exact .inr ⟨i, ha⟩
/-- f(..) -/
theorem tE_call {f : Nat} {a : ADen} (t : tE R (dCall C f a) σ H Q) : tCallS (spV R.Y R.xc R.xr C f) (WE R.W) (tAv R a) σ H Q := by
  obtain ⟨e, h, F, S, w⟩ := t
  refine ⟨e, h, F, S, wpR_mono (wpR_bind.mp w) (fun as e1 w1 => ?_) fun _ _ _ q => q⟩
  intro vs H1 h1 F1 g1 S1 rv
  unfold called at w1
  cases n : nodupN (owns as) with
  | false => rw [n] at w1; exact w1.elim
  | true =>
    rw [n] at w1
    refine ⟨as.map (AV.sv e1), h1, Fa as F1, S1.args rv n, wpR_mono (wp_called w1) (fun r _ q => ?_) fun c fs outs q => ?_⟩
    · intro x A H' h' F' g' S' rs o
      obtain ⟨F2, S2, g2, f1, f2⟩ := S1.back rv n g' S'
      refine q x A H' h' F2 (g1.trans g2) S2 rs ⟨o.nd, o.hd, fun a ha i => ?_, fun a ha => ?_⟩
      · by_cases z : i ∈ owns as
        · obtain ⟨j, hj⟩ := owns_at z
          rw [f2 i j hj]
          exact o.dj a ha j
        · rw [f1 i z]
          intro y
          rcases o.nf a ha with w | ⟨j, w⟩
          · exact absurd w (S1.dom y)
          · unfold Fa at w
            cases q2 : as[j]? with
            | none => rw [q2] at w; cases w
            | some b =>
              rw [q2] at w
              cases b with
              | val _ => cases w
              | own k => exact S1.dj k i (fun y2 => z (by rw [← y2]; exact owns_mem q2)) a w y
      · have oA : H1 a = none ∨ ∃ j, a ∈ F1 j := by
          rcases o.nf a ha with w | ⟨j, w⟩
          · exact .inl w
          · unfold Fa at w
            cases q2 : as[j]? with
            | none => rw [q2] at w; cases w
            | some b =>
              rw [q2] at w
              cases b with
              | val _ => cases w
              | own k => exact .inr ⟨k, w⟩
        exact (Own.go (H' := H') (h' := h') (F' := fun _ => []) (A := [a]) g1 ⟨by simp, fun b hb => by rw [List.mem_singleton.mp hb]; exact o.hd a ha, fun _ _ _ => by simp, fun b hb => by rw [List.mem_singleton.mp hb]; exact oA⟩).nf a (by simp)
    · intro H' h' F' d g' S' x
      obtain ⟨F2, S2, g2, f1, f2⟩ := S1.back rv n g' S'
      exact q σ H' h' F2 d rfl (g1.trans g2) S2 x
variable {a : Expr} {d : Den} {es : List Expr} {ad : ADen} {pos p : Pos} {x : Str} {i : Nat}
theorem wanil : PA X [] (tAv R aNil) := pa_weak pa_nil fun _ _ _ => tAv_nil
theorem waown (i : Nat) (ha : PE X a (tVar i)) (hr : PA X es (tAv R ad)) (hs : starEach (a :: es) X.env = (false, eval a X.env) :: starEach es X.env := by rfl) : PA X (a :: es) (tAv R (aOwn i ad)) := pa_weak (pa_cons ha hr hs) fun _ _ _ => tAv_own
theorem waval (ha : PE X a (tE R d)) (hr : PA X es (tAv R ad)) (hs : starEach (a :: es) X.env = (false, eval a X.env) :: starEach es X.env := by rfl) : PA X (a :: es) (tAv R (aVal d ad)) := pa_weak (pa_cons ha hr hs) fun _ _ _ => tAv_val
/-- g(..), g a def of the text -/
theorem vcall {f : Nat} {k : Nat} {fa : Addr} {fd : FuncData} {ps : List Str} (F : FnOk X.prog X.w X.K X.mg X.base (L2.CX X.prog X.w) k fa fd ps (spV R.Y R.xc R.xr C f)) (hr : Room k X.A) (hg : Gl X x) (hm : X.mg x = some (.ref fa)) (hk : PySem.W.keepIn X.K (.ref fa) = true) (hb : Binds X.K fd ps [])
    (tk : Takes X R.W) (ha : PA X (a :: es) (tAv R ad)) (hdb : (x == ("__debug__" : Str)) = false := by decide) (he : starEach (a :: es) X.env = (false, eval a X.env) :: starEach es X.env := by rfl) (hpl : (backTo pos (starEach es X.env)).any (·.1) = false := by rfl) :
    PE X (.Call (.Name x p) (a :: es) [] pos) (tE R (dCall C f ad)) := pe_weak (pe_callS F hr hg hm hk hb (fun σ => passAt tk σ) ha hdb he hpl) fun _ _ _ => tE_call
end
/-! ### a def -/
def parOf (np : Nat) (rp : List Nat) (vs : List V) : Nat → Option V := fun i => match Nat.blt i np with
  | false => none
  | true => match rp.any (Nat.beq i) with
    | true => none
    | false => vs[i]?
theorem wp_ended {d : FD} {ss : List SV} {Q : SV × List SV → Env → Prop} {E : Nat → List (Nat × IV) → Env → Prop} : ∀ {r : Res Fl}, wpR (ended d ss r) Q E → wpR r (fun f e => match f with
    | .ret s => Q (s, outsOf d.rp 0 ss e) []
    | .nx => Q (.fz .non, outsOf d.rp 0 ss e) []
    | _ => False) (fun c fs e => E c fs (outsOf d.rp 0 ss e))
  | .ok f e, w => by cases f <;> exact w
  | .exc _ _ _, w => w
  | .ask n k, w => fun i hi => wp_ended (w i hi)
  | .bad _, w => w
theorem outs_get (rp : List Nat) : ∀ (ss e : List SV) (j i : Nat) (s x : SV), ss[i]? = some s → e[i]? = some x → (outsOf rp j ss e)[i]? = some (match rp.any (Nat.beq (j + i)) with
    | true => s
    | false => x)
  | [], _, _, _, _, _, h, _ => by simp at h
  | s0 :: ss, [], _, _, _, _, _, h => by simp at h
  | s0 :: ss, x0 :: e, j, 0, s, x, h1, h2 => by
    simp at h1 h2
    subst h1 h2
    rfl
  | s0 :: ss, x0 :: e, j, i + 1, s, x, h1, h2 => by
    have := outs_get rp ss e (j + 1) i s x (by simpa using h1) (by simpa using h2)
    rw [show j + 1 + i = j + (i + 1) by omega] at this
    show (_ :: outsOf rp (j + 1) ss e)[i + 1]? = _
    rw [List.getElem?_cons_succ]
    exact this
theorem outs_len (rp : List Nat) : ∀ (ss e : List SV) (j : Nat), ss.length ≤ e.length → (outsOf rp j ss e).length = ss.length
  | [], e, j, _ => by cases e <;> rfl
  | s :: ss, [], j, h => by simp at h
  | s :: ss, x :: e, j, h => by
    show (outsOf rp (j + 1) ss e).length + 1 = ss.length + 1
    rw [outs_len rp ss e (j + 1) (by simpa using h)]
theorem plain_at (rp : List Nat) : ∀ (ss : List SV) (j i : Nat) (s : SV), plainAt rp j ss = true → ss[i]? = some s → rp.any (Nat.beq (j + i)) = true → s.isF = true
  | [], _, _, _, _, h, _ => by simp at h
  | s0 :: ss, j, 0, s, p, h, r => by
    simp at h
    subst h
    have p := (bAnd (show ((match rp.any (Nat.beq j) with
      | true => s0.isF
      | false => true) && plainAt rp (j + 1) ss) = true from p)).1
    rw [show j + 0 = j from rfl] at r
    rw [r] at p
    exact p
  | s0 :: ss, j, i + 1, s, p, h, r => by
    have p := (bAnd (show ((match rp.any (Nat.beq j) with
      | true => s0.isF
      | false => true) && plainAt rp (j + 1) ss) = true from p)).2
    exact plain_at rp ss (j + 1) i s p (by simpa using h) (by rw [show j + 1 + i = j + (i + 1) by omega]; exact r)
section
variable {P : Program} {w : World} {K : PySem.W.Frag} {mg : Str → Option Value} {base : Heap}
/-- THE RULE of a def -/
theorem fnV {Y : Names} {xc : Nat → Addr} {xr : XR} {f : Nat} {Cn C : Callee} {d : FD} {x qual : Str} {params : Arguments} {body : List Stmt} {scope : Scope} {fa : Addr} {fd : FuncData} {N ps : List Str} {k : Nat} (F : FunD K x qual params body scope [] [] fa fd) (S : FnScope N ps scope) (hnp : ps.length = d.np) (hns : N.length = d.ns) (hle : d.np ≤ d.ns)
    (hC : ∀ ss, Cn f ss = match Nat.beq ss.length d.np && plainAt d.rp 0 ss with
      | true => ended d ss (d.body C (ss ++ List.replicate (d.ns - d.np) .und))
      | false => .bad 38)
    (hb : ∀ (cdv : Value) (A : Around) (outer : List PySem.Env) (s : Shared) (H : Hp) (vs : List V) (E : XK), Room k (A.deeper (envOfC qual scope s.heap.objs.size fa cdv)) →
      PSs (cxOf (L2.CX P w) P w K mg base N qual scope fa cdv A outer s H E) body (tS ⟨Y, fun cls d _ H' => E cls d H', xc, xr, parOf d.np d.rp vs, d.ns⟩ (d.body C))) :
    FnOk P w K mg base (L2.CX P w) (k + 1) fa fd ps (spV Y xc xr Cn f) := by
  have cond : ∀ {vs H Q E ss h F0}, St Y H h (vs.map some) ss F0 → wpR (Cn f ss) (OKc Y vs H h F0 Q) (EXc Y xc xr vs H h F0 E) → (Nat.beq ss.length d.np && plainAt d.rp 0 ss) = true := fun {vs H Q E ss h F0} S0 w0 => by
    rw [hC] at w0
    cases q : (Nat.beq ss.length d.np && plainAt d.rp 0 ss) with
    | true => rfl
    | false => rw [q] at w0; exact w0.elim
  refine F.ok S (fun vs H Q E hh => ?_) (fun cdv A outer s H vs Q E hr hh => ⟨_, hb cdv A outer s H vs E hr, ?_⟩)
  · obtain ⟨ss, h, F0, S0, w0⟩ := hh
    have c := Nat.eq_of_beq_eq_true (bAnd (cond S0 w0)).1
    have := S0.len
    rw [List.length_map] at this
    omega
  · obtain ⟨ss, h, F0, S0, w0⟩ := hh
    have cc := cond S0 w0
    have c := Nat.eq_of_beq_eq_true (bAnd cc).1
    have pl := (bAnd cc).2
    have lv : vs.length = d.np := by
      have := S0.len
      rw [List.length_map] at this
      omega
    rw [hC, cc] at w0
    have w0 := wp_ended w0
    have eσ : L2.start N vs = vs.map some ++ List.replicate (d.ns - d.np) none := by
      unfold L2.start
      rw [hns, lv]
    have getσ : ∀ i, i < d.np → (L2.start N vs)[i]? = (vs.map some)[i]? := fun i hi => by
      rw [eσ, List.getElem?_append_left (by rw [List.length_map]; omega)]
    have gete : ∀ i, i < d.np → (ss ++ List.replicate (d.ns - d.np) SV.und)[i]? = ss[i]? := fun i hi => by
      rw [List.getElem?_append_left (by omega)]
    refine ⟨ss ++ List.replicate (d.ns - d.np) .und, h, F0, ⟨?_, fun i s hs => ?_, fun i hi => ?_, S0.nd, S0.dj, S0.hd, S0.le⟩, ⟨fun i y hy => ?_, ?_⟩, wpR_mono w0 (fun fl e' q => ?_) fun c fs e' q => ?_⟩
    · rw [eσ, List.length_append, List.length_append, List.length_map, List.length_replicate, List.length_replicate, lv, c]
    · by_cases hi : i < d.np
      · rw [gete i hi] at hs
        rw [getσ i hi]
        exact S0.rel i s hs
      · have : s = .und := by
          rw [List.getElem?_append_right (by omega)] at hs
          have := (List.mem_replicate.mp (List.mem_of_getElem? hs)).2
          exact this
        exact .inl ⟨this, S0.out i (by omega)⟩
    · rw [List.length_append] at hi
      exact S0.out i (by omega)
    · have hy : parOf d.np d.rp vs i = some y := hy
      unfold parOf at hy
      cases q : Nat.blt i d.np with
      | false => rw [q] at hy; cases hy
      | true =>
        rw [q] at hy
        have q := Nat.blt_eq.mp q
        cases q2 : d.rp.any (Nat.beq i) with
        | true => rw [q2] at hy; cases hy
        | false =>
          rw [q2] at hy
          rw [getσ i q, List.getElem?_map, show vs[i]? = some y from hy]
          rfl
    · show (L2.start N vs).length = d.ns
      rw [eσ, List.length_append, List.length_map, List.length_replicate, lv]
      omega
    all_goals
      have outs : ∀ {σ' : L2.St} {H' h' : Hp} {F' : Fp}, Go H h F0 H' h' F' → St Y H' h' σ' e' F' → Par ⟨Y, fun cls d _ H' => E cls d H', xc, xr, parOf d.np d.rp vs, d.ns⟩ σ' →
          ∃ F2, St Y H' h' (vs.map some) (outsOf d.rp 0 ss e') F2 ∧ Go H h F0 H' h' F2 ∧ ∀ i, F2 i = F' i ∨ F2 i = [] := fun {σ' H' h' F'} g' S' P' => by
        have le : e'.length = d.ns := by rw [← S'.len]; exact P'.2
        refine ⟨fun i => match Nat.blt i d.np && !(d.rp.any (Nat.beq i)) with
          | true => F' i
          | false => [], ⟨?_, fun i s hs => ?_, fun i hi => ?_, fun i => ?_, fun i l hil a ha => ?_, fun i a ha => ?_, S'.le⟩, ⟨g'.keep, g'.up, g'.nh, fun a i ha => ?_⟩, fun i => ?_⟩
        · rw [List.length_map, outs_len d.rp ss e' 0 (by omega)]
          omega
        · have hi : i < d.np := by
            have := (List.getElem?_eq_some_iff.mp hs).1
            rw [outs_len d.rp ss e' 0 (by omega)] at this
            omega
          obtain ⟨s0, hs0⟩ : ∃ s0, ss[i]? = some s0 := ⟨ss[i]'(by omega), List.getElem?_eq_getElem (by omega)⟩
          obtain ⟨x0, hx0⟩ : ∃ x0, e'[i]? = some x0 := ⟨e'[i]'(by omega), List.getElem?_eq_getElem (by omega)⟩
          rw [outs_get d.rp ss e' 0 i s0 x0 hs0 hx0, Nat.zero_add] at hs
          try dsimp only
          rw [Nat.blt_eq.mpr hi]
          cases q : d.rp.any (Nat.beq i) with
          | true =>
            rw [q] at hs
            cases hs
            have fz := plain_at d.rp ss 0 i s0 pl hs0 (by rw [Nat.zero_add]; exact q)
            cases s0 <;> try cases fz
            rcases S0.rel i _ hs0 with ⟨z, _⟩ | ⟨x1, z1, z2⟩
            · cases z
            · exact .inr ⟨x1, z1, rfl, RF.up g'.up _ z2.2⟩
          | false =>
            rw [q] at hs
            cases hs
            obtain ⟨v, hv⟩ : ∃ v, vs[i]? = some v := ⟨vs[i]'(by omega), List.getElem?_eq_getElem (by omega)⟩
            have pr : parOf d.np d.rp vs i = some v := by
              unfold parOf
              rw [Nat.blt_eq.mpr hi]
              try dsimp only
              rw [q]
              exact hv
            have ps := P'.1 i v pr
            rcases S'.rel i _ hx0 with z | ⟨x1, z1, z2⟩
            · exact .inl z
            · rw [ps] at z1
              cases z1
              exact .inr ⟨v, by rw [List.getElem?_map, hv]; rfl, z2⟩
        · rw [outs_len d.rp ss e' 0 (by omega)] at hi
          have : Nat.blt i d.np = false := by
            cases q : Nat.blt i d.np with
            | false => rfl
            | true => have := Nat.blt_eq.mp q; omega
          try dsimp only
          rw [this]
          rfl
        · try dsimp only
          split
          · exact S'.nd i
          · exact .nil
        · try dsimp only at ha ⊢
          split at ha
          · split
            · exact S'.dj i l hil a ha
            · simp
          · cases ha
        · try dsimp only at ha
          split at ha
          · exact S'.hd i a ha
          · cases ha
        · try dsimp only at ha
          split at ha
          · exact g'.nf a i ha
          · cases ha
        · try dsimp only
          split
          · exact .inl rfl
          · exact .inr rfl
    · have fin : ∀ (s : SV), (∀ x A H' h' F', Go H h F0 H' h' F' → St Y H' h' (vs.map some) (outsOf d.rp 0 ss e') F' → RS Y H' h' s x A → Own H h H' h' F0 F' A → Q x H') → ∀ σ' x A H' h' F', Go H h F0 H' h' F' → St Y H' h' σ' e' F' →
          Par ⟨Y, fun cls d _ H' => E cls d H', xc, xr, parOf d.np d.rp vs, d.ns⟩ σ' → RS Y H' h' s x A → Own H h H' h' F0 F' A → Q x H' := fun s q σ' x A H' h' F' g' S' P' rs o => by
        obtain ⟨F2, S2, g2, f2⟩ := outs g' S' P'
        refine q x A H' h' F2 g2 S2 rs ⟨o.nd, o.hd, fun a ha i => ?_, o.nf⟩
        rcases f2 i with z | z
        · rw [z]; exact o.dj a ha i
        · rw [z]; simp
      cases fl with
      | nx =>
        intro σ' H' h' F' g' S' P'
        exact fin (.fz .non) q σ' .non [] H' h' F' g' S' P' ⟨rfl, rfl⟩ .nil
      | ret s =>
        intro σ' x A H' h' F' g' S' P' rs o
        exact fin s q σ' x A H' h' F' g' S' P' rs o
      | brk => exact q.elim
      | cnt => exact q.elim
    · intro σ' H' h' F' dd g' S' P' xx
      obtain ⟨F2, S2, g2, f2⟩ := outs g' S' P'
      exact q H' h' F2 dd g2 S2 xx
end
end Vy

end
section
set_option maxRecDepth 100000
set_option maxHeartbeats 2000000
/-! Errors of the text's own. -/
namespace Vy
open PySem PySem.Spec PyProof.Rows L2 StX
/-- an error's attributes -/
def xrV (Y : Names) : XR := fun H h c fs d => ∃ dd ps, d = some dd ∧ H dd = some (.xd ps) ∧ ∀ k v, lkf fs k = some v → ∃ x, ps.lookup (Y.at_ k) = some x ∧ RF Y h v x
/-- what the __init__ of an error does: its arguments lie in its dict, the last in front -/
def spI (C : Addr) (fs : List Str) : Sp := fun vs H Q E => ∃ a ys, vs = .ref a :: ys ∧ ys.length = fs.length ∧ H a = some (exo a C none) ∧ ∀ dx, H dx = none → dx ≠ a → Q .non (upd (upd H dx (exd dx (fs.zip ys).reverse)) a (exo a C (some dx)))
section
variable {P : Program} {w : World} {K : PySem.W.Frag} {mg : Str → Option Value} {base : Heap}
theorem upd_swap {H : Hp} {a b : Addr} {o u : HO} (n : a ≠ b) : upd (upd H a o) b u = upd (upd H b u) a o := by
  funext c
  by_cases h1 : c = a
  · subst h1
    rw [upd_ne n, upd_same, upd_same]
  · by_cases h2 : c = b
    · subst h2
      rw [upd_same, upd_ne h1, upd_same]
    · rw [upd_ne h2, upd_ne h1, upd_ne h1, upd_ne h2]
theorem upd_twice {H : Hp} {a : Addr} {o u : HO} : upd (upd H a o) a u = upd H a u := by
  funext c
  by_cases h1 : c = a
  · subst h1; rw [upd_same, upd_same]
  · rw [upd_ne h1, upd_ne h1, upd_ne h1]
theorem init1 {qual x0 x1 f1 : Str} {params : Arguments} {body : List Stmt} {scope : Scope} {fa C : Addr} {fd : FuncData} {k : Nat} {p1 p2 p3 p4 : Pos} (F : FunD K "__init__" qual params body scope [] [] fa fd) (S : FnScope [x0, x1] [x0, x1] scope) (T : OexC K C) (hno : PySem.W.findIn K (.ref C) f1 = some none)
    (hst : body = [.Assign [.Attribute (.Name x0 p1) f1 p2] (.Name x1 p3) p4]) (v0 : ∀ {X : Cx}, X.env.scope = scope → X.N = [x0, x1] → PE X (.Name x0 p1) (tVar 0)) (v1 : ∀ {X : Cx}, X.env.scope = scope → X.N = [x0, x1] → PE X (.Name x1 p3) (tVar 1)) :
    FnOk P w K mg base (L2.CX P w) (k + 1) fa fd [x0, x1] (spI C [f1]) := by
  refine F.ok S (fun vs H Q E hh => ?_) (fun cdv A outer s H vs Q E hr hh => ⟨_, by rw [hst]; exact pss_one (ps_ost (v0 rfl rfl) (v1 rfl rfl)), ?_⟩)
  · obtain ⟨a, ys, rfl, hl, _⟩ := hh
    simp at hl ⊢
    exact hl
  · obtain ⟨a, ys, rfl, hl, ea, q⟩ := hh
    match ys, hl with
    | [y], _ => exact ⟨y, rfl, .ref a, rfl, a, C, rfl, T, hno, .inl ⟨ea, fun dx h1 h2 => q dx h1 h2⟩⟩
theorem init2 {qual x0 x1 x2 f1 f2 : Str} {params : Arguments} {body : List Stmt} {scope : Scope} {fa C : Addr} {fd : FuncData} {k : Nat} {p1 p2 p3 p4 q1 q2 q3 q4 : Pos} (F : FunD K "__init__" qual params body scope [] [] fa fd) (S : FnScope [x0, x1, x2] [x0, x1, x2] scope) (T : OexC K C) (hno1 : PySem.W.findIn K (.ref C) f1 = some none) (hno2 : PySem.W.findIn K (.ref C) f2 = some none)
    (hst : body = [.Assign [.Attribute (.Name x0 p1) f1 p2] (.Name x1 p3) p4, .Assign [.Attribute (.Name x0 q1) f2 q2] (.Name x2 q3) q4]) (v0 : ∀ {X : Cx} {p : Pos}, X.env.scope = scope → X.N = [x0, x1, x2] → PE X (.Name x0 p) (tVar 0))
    (v1 : ∀ {X : Cx}, X.env.scope = scope → X.N = [x0, x1, x2] → PE X (.Name x1 p3) (tVar 1)) (v2 : ∀ {X : Cx}, X.env.scope = scope → X.N = [x0, x1, x2] → PE X (.Name x2 q3) (tVar 2)) :
    FnOk P w K mg base (L2.CX P w) (k + 1) fa fd [x0, x1, x2] (spI C [f1, f2]) := by
  refine F.ok S (fun vs H Q E hh => ?_) (fun cdv A outer s H vs Q E hr hh => ⟨_, by rw [hst]; exact pss_cons (ps_ost (v0 rfl rfl) (v1 rfl rfl)) (pss_one (ps_ost (v0 rfl rfl) (v2 rfl rfl))), ?_⟩)
  · obtain ⟨a, ys, rfl, hl, _⟩ := hh
    simp at hl ⊢
    exact hl
  · obtain ⟨a, ys, rfl, hl, ea, q⟩ := hh
    match ys, hl with
    | [y, z], _ =>
      refine ⟨y, rfl, .ref a, rfl, a, C, rfl, T, hno1, .inl ⟨ea, fun dx h1 h2 => ?_⟩⟩
      refine ⟨z, rfl, .ref a, rfl, a, C, rfl, T, hno2, .inr ⟨dx, _, upd_same, by rw [upd_ne h2]; exact upd_same, by simp, ?_⟩⟩
      have e : upd (upd (upd H dx (exd dx [(f1, y)])) a (exo a C (some dx))) dx (exd dx [(f2, z), (f1, y)]) = upd (upd H dx (exd dx [(f2, z), (f1, y)])) a (exo a C (some dx)) := by
        rw [upd_swap (Ne.symm h2), upd_twice]
      show Q .non (upd (upd (upd H dx (exd dx [(f1, y)])) a (exo a C (some dx))) dx (exd dx [(f2, z), (f1, y)]))
      rw [e]
      exact q dx h1 h2
end
theorem zip_look {Y : Names} {h : Hp} (inj : ∀ i j, Y.at_ i = Y.at_ j → i = j) : ∀ {ks : List Nat} {vs : List IV} {r : List (Nat × IV)} {xs : List V}, zipF ks vs = some r → RFL Y h vs xs → ks.Nodup → ∀ k v, lkf r k = some v → ∃ x, ((ks.map Y.at_).zip xs).reverse.lookup (Y.at_ k) = some x ∧ RF Y h v x := by
  intro ks vs r xs hz rl nd k v hk
  -- by the place
  have at_ : ∀ {ks : List Nat} {vs : List IV} {r : List (Nat × IV)} {xs : List V}, zipF ks vs = some r → RFL Y h vs xs → ks.Nodup → ∀ k v, lkf r k = some v → ∃ x, (Y.at_ k, x) ∈ (ks.map Y.at_).zip xs ∧ RF Y h v x ∧ ∀ y, (Y.at_ k, y) ∈ (ks.map Y.at_).zip xs → y = x := by
    intro ks
    induction ks with
    | nil =>
      intro vs r xs hz rl nd k v hk
      cases vs with
      | nil => cases hz; cases hk
      | cons _ _ => cases hz
    | cons k0 ks ih =>
      intro vs r xs hz rl nd k v hk
      cases vs with
      | nil => cases hz
      | cons v0 vs =>
        unfold zipF at hz
        cases q : zipF ks vs with
        | none => rw [q] at hz; cases hz
        | some r0 =>
          rw [q] at hz
          cases hz
          obtain ⟨x0, xr, rfl, rx, rl⟩ := rl
          have nd := List.nodup_cons.mp nd
          unfold lkf at hk
          cases b : Nat.beq k0 k with
          | true =>
            rw [b] at hk
            cases hk
            have := Nat.eq_of_beq_eq_true b
            subst this
            refine ⟨x0, List.mem_cons_self, rx, fun y hy => ?_⟩
            rcases List.mem_cons.mp hy with e | hy
            · cases e; rfl
            · have := (List.of_mem_zip hy).1
              obtain ⟨k', hk', e⟩ := List.mem_map.mp this
              have := inj _ _ e
              subst this
              exact absurd hk' nd.1
          | false =>
            rw [b] at hk
            obtain ⟨x, hx, rx2, un⟩ := ih q rl nd.2 k v hk
            refine ⟨x, List.mem_cons_of_mem _ hx, rx2, fun y hy => ?_⟩
            rcases List.mem_cons.mp hy with e | hy
            · exfalso
              have e1 : Y.at_ k = Y.at_ k0 := (Prod.mk.inj e).1
              have := inj _ _ e1
              subst this
              rw [Nat.beq_refl] at b
              cases b
            · exact un y hy
  obtain ⟨x, hx, rx, un⟩ := at_ hz rl nd k v hk
  refine ⟨x, ?_, rx⟩
  have hx' : (Y.at_ k, x) ∈ ((ks.map Y.at_).zip xs).reverse := List.mem_reverse.mpr hx
  cases q : ((ks.map Y.at_).zip xs).reverse.lookup (Y.at_ k) with
  | none =>
    exact absurd (List.lookup_eq_none_iff.mp q (Y.at_ k, x) hx') (by simp)
  | some y =>
    have : (Y.at_ k, y) ∈ ((ks.map Y.at_).zip xs).reverse := PySem.mem_of_lookup q
    rw [un y (List.mem_reverse.mp this)]
section
variable {R : Fr} {X : Cx} {e : Expr} {es : List Expr} {l : LDen} {pos p : Pos} {x : Str}
/-- raise C(..) -/
theorem zraise {p0 : Pos} {xs : List (List Nat)} {c : Nat} {fs : List Nat} {C fI : Addr} {k : Nat} {fd : FuncData} {ps : List Str} (hY : Fits R.Y X) (hc : X.calm = true) (tk : Takes X R.W) (hfs : xs[c]? = some fs) (hnd : fs.Nodup) (hl1000 : fs.length ≤ 1000) (hxc : R.xc c = C) (hxr : R.xr = xrV R.Y) (T : OexC X.K C)
    (iC : PySem.W.findIn X.K (.ref C) "__init__" = some (some (.ref fI))) (tI : PySem.W.typeIn X.K (.ref fI) = some (.type "function")) (F1 : FnOk X.prog X.w X.K X.mg X.base (L2.CX X.prog X.w) k fI fd ps (spI C (fs.map R.Y.at_))) (hr : Room (k + 1) X.A) (hb : Binds X.K fd ps [])
    (hg : Gl X x) (hm : X.mg x = some (.ref C)) (ha : PA X (e :: es) (tA R l)) (hdb : (x == ("__debug__" : Str)) = false := by decide) (he : starEach (e :: es) X.env = (false, eval e X.env) :: starEach es X.env := by rfl)
    (hpl : (backTo p (starEach es X.env)).any (·.1) = false := by rfl) : PS X (.Raise (some (.Call (.Name x p0) (e :: es) [] p)) none pos) (tS R (sRs xs c l)) :=
  ps_weak (ps_raise hc tk (pmk_oex T iC tI F1 hr hb .nil (fun _ _ _ _ _ _ _ h => by
    obtain ⟨_, _, _, _, _, _, _, _, _, _, _, _, z⟩ := h
    exact z.elim) hg hm ha hdb he hpl)) fun D σ H t => by
    obtain ⟨e0, h, F, S, Pp, w⟩ := t
    refine ⟨e0, h, F, S, wpR_mono (wpR_bind.mp w) (fun vs e1 w1 => ?_) fun _ _ _ q => q.x Pp⟩
    intro ys H1 h1 F1 g1 S1 rl
    rw [hfs] at w1
    dsimp only at w1
    cases q : zipF fs vs with
    | none => rw [q] at w1; exact w1.elim
    | some r =>
      rw [q] at w1
      have w1 : EXs R H h F c r e1 := w1
      have zl : ∀ {ks : List Nat} {vs : List IV} {r : List (Nat × IV)}, zipF ks vs = some r → vs.length = ks.length := by
        intro ks
        induction ks with
        | nil =>
          intro vs r hz
          cases vs with
          | nil => rfl
          | cons _ _ => cases hz
        | cons k0 ks ih =>
          intro vs r hz
          cases vs with
          | nil => cases hz
          | cons v0 vs =>
            unfold zipF at hz
            cases q : zipF ks vs with
            | none => rw [q] at hz; cases hz
            | some r0 => rw [List.length_cons, List.length_cons, ih q]
      have ll : ys.length = fs.length := by rw [rl.length, zl q]
      refine ⟨by omega, fun a ha0 => ⟨a, ys, by rw [List.append_nil], by rw [List.length_map]; exact ll, upd_same, fun dx hdx hne => ⟨rfl, dx, _, upd_same, by rw [upd_ne hne]; exact upd_same, ?_, ?_⟩⟩⟩
      · rw [upd_ne hne] at hdx
        exact hdx
      · have hdx1 : H1 dx = none := by rw [upd_ne hne] at hdx; exact hdx
        have eH : upd (del (upd (upd (upd H1 a (exo a C none)) dx (exd dx ((fs.map R.Y.at_).zip ys).reverse)) a (exo a C (some dx))) a) dx (.xd ((fs.map R.Y.at_).zip ys).reverse) = upd H1 dx (.xd ((fs.map R.Y.at_).zip ys).reverse) := by
          funext b
          by_cases h1 : b = dx
          · subst h1; rw [upd_same, upd_same]
          · rw [upd_ne h1, upd_ne h1]
            by_cases h2 : b = a
            · subst h2; rw [del_same, ha0]
            · rw [del_ne h2, upd_ne h2, upd_ne h1, upd_ne h2]
        show R.W (.ref C) (some dx) σ _
        rw [eH, ← hxc]
        obtain ⟨S2, g2⟩ := S1.more (H' := upd H1 dx (.xd ((fs.map R.Y.at_).zip ys).reverse)) (h' := h1) (.new hdx1) (.refl _) (S1.le.trans (Sub.new hdx1).up) fun _ z => .inl z
        exact w1 σ _ h1 F1 (some dx) (g1.trans g2) S2 Pp (by rw [hxr]; exact ⟨dx, _, rfl, upd_same, fun k v hk => zip_look hY.inj q rl hnd k v hk⟩)
end
end Vy

end
section
set_option maxRecDepth 100000
set_option maxHeartbeats 2000000
/-! List comprehensions. -/
namespace Vy
open PySem PySem.Spec PyProof.Rows L2 StX
theorem wp_noX {α : Type} {Q : α → Env → Prop} {E E' : Nat → List (Nat × IV) → Env → Prop} : ∀ {r : Res α}, wpR r.noX Q E → wpR r Q E'
  | .ok _ _, w => w
  | .exc _ _ _, w => w.elim
  | .ask n k, w => fun i hi => wp_noX (w i hi)
  | .bad _, w => w
/-- within a comprehension: no error leaves it -/
def Fr.quiet (R : Fr) : Fr := { R with W := fun _ _ _ _ => False }
def kOwn (own : List Nat) : L2.St → L2.St → Prop := fun σ σ' => L2.wipe σ' own = L2.wipe σ own
theorem kOwn_ok {own : List Nat} : Keeps (kOwn own) := ⟨fun _ => rfl, fun a b => b.trans a⟩
theorem wipe_set (own : List Nat) (i : Nat) (h : i ∈ own) (σ : L2.St) (x : Option V) : L2.wipe (σ.set i x) own = L2.wipe σ own := by
  induction own with
  | nil => cases h
  | cons k r ih =>
    rw [L2.wipe, L2.wipe]
    by_cases z : i ∈ r
    · rw [ih z]
    · have e : i = k := by
        rcases List.mem_cons.mp h with e | e
        · exact e
        · exact absurd e z
      subst e
      have : ∀ (r : List Nat) (σ : L2.St), (L2.wipe (σ.set i x) r).set i none = (L2.wipe σ r).set i none := by
        intro r
        induction r with
        | nil => intro σ; rw [L2.wipe, L2.wipe, List.set_set]
        | cons j r ih2 =>
          intro σ
          rw [L2.wipe, L2.wipe]
          by_cases e : j = i
          · subst e; rw [List.set_set, List.set_set, ih2]
          · rw [List.set_comm _ _ e, ih2, List.set_comm _ _ (Ne.symm e)]
      exact this r σ
theorem wipe_sub (own : List Nat) : ∀ (r : List Nat), (∀ i ∈ r, i ∈ own) → ∀ σ, L2.wipe (L2.wipe σ r) own = L2.wipe σ own
  | [], _, _ => rfl
  | i :: r, h, σ => by
    rw [L2.wipe, wipe_set own i (h i List.mem_cons_self), wipe_sub own r (fun j hj => h j (List.mem_cons_of_mem _ hj))]
theorem wipe_wipe {own : List Nat} {σ : L2.St} : L2.wipe (L2.wipe σ own) own = L2.wipe σ own := wipe_sub own own (fun _ h => h) σ
theorem kOwn_set {own : List Nat} {i : Nat} (h : i ∈ own) : ∀ σ x, kOwn own σ (σ.set i (some x)) := fun σ x => wipe_set own i h σ (some x)
section
variable {R : Fr} {X : Cx} {T : Tab} {C : Callee} {H h H1 h1 : Hp} {σ : L2.St} {e : Env} {F F1 : Fp} {Q : VK}
/-- names are forgotten -/
theorem St.wipe1 {Y : Names} (S : St Y H h σ e F) (i : Nat) : ∃ F', St Y H h (σ.set i none) (setE e i .und) F' ∧ Go H h F H h F' ∧ (∀ j a, a ∈ F' j → a ∈ F j) := by
  by_cases hi : i < e.length
  · obtain ⟨F', fi, fe⟩ := fp_upd F i []
    have sub : ∀ j a, a ∈ F' j → a ∈ F j := fun j a ha => by
      by_cases z : j = i
      · rw [z, fi] at ha; cases ha
      · rw [fe j z] at ha; exact ha
    refine ⟨F', ⟨by simp [setE, S.len], fun j t ht => ?_, fun j hj => ?_, fun j => ?_, fun j l hjl a ha w => S.dj j l hjl a (sub j a ha) (sub l a w), fun j a ha => S.hd j a (sub j a ha), S.le⟩, ⟨fun _ _ q _ => .inl q, .refl h, fun _ q => .inl q, fun a j z => .inr ⟨j, sub j a z⟩⟩, sub⟩
    · by_cases hj : j = i
      · subst hj
        rw [show (setE e j .und)[j]? = some .und from by simp [setE, hi]] at ht
        cases ht
        exact .inl ⟨rfl, fi⟩
      · rw [show (setE e i .und)[j]? = e[j]? from by simp [setE, List.getElem?_set_ne (Ne.symm hj)]] at ht
        rw [fe j hj, List.getElem?_set_ne (Ne.symm hj)]
        exact S.rel j t ht
    · have hj2 : e.length ≤ j := by simpa [setE] using hj
      rw [fe j (by omega)]
      exact S.out j hj2
    · by_cases z : j = i
      · rw [z, fi]; exact .nil
      · rw [fe j z]; exact S.nd j
  · refine ⟨F, ?_, .refl, fun _ _ z => z⟩
    rw [show setE e i .und = e from List.set_eq_of_length_le (by omega), List.set_eq_of_length_le (by rw [S.len]; omega)]
    exact S
theorem St.wipe {Y : Names} (own : List Nat) : ∀ {σ : L2.St} {e : Env} {F : Fp}, St Y H h σ e F → ∃ F', St Y H h (L2.wipe σ own) (Vy.wipe own e) F' ∧ Go H h F H h F' ∧ (∀ j a, a ∈ F' j → a ∈ F j) := by
  induction own with
  | nil => exact fun {σ e F} S => ⟨F, S, .refl, fun _ _ z => z⟩
  | cons i r ih =>
    intro σ e F S
    obtain ⟨F1, S1, g1, s1⟩ := ih S
    obtain ⟨F2, S2, g2, s2⟩ := S1.wipe1 i
    exact ⟨F2, S2, g1.trans g2, fun j a z => s1 j a (s2 j a z)⟩
/-- behind a comprehension: the names stand as they stood -/
theorem St.unwipe {Y : Names} {H0 h0 H' h' : Hp} {F0 F' : Fp} {σ0 : L2.St} {e0 e' : Env} {own : List Nat} (S0 : St Y H0 h0 σ0 e0 F0) (S : St Y H' h' (L2.wipe σ0 own) e' F') : St Y H' h' σ0 e' F' := by
  refine ⟨by rw [← S.len, wipe_length], fun i s hs => ?_, S.out, S.nd, S.dj, S.hd, S.le⟩
  rcases S.rel i s hs with z | ⟨x, z1, z2⟩
  · exact .inl z
  · exact .inr ⟨x, (wipe_some z1).1, z2⟩
/-- a state, and things owned beside it -/
structure Bs (Y : Names) (H h : Hp) (F : Fp) (A : List Addr) : Prop where
  nd : A.Nodup
  hd : ∀ a ∈ A, h a = none
  dj : ∀ a ∈ A, ∀ i, a ∉ F i
  dm : ∀ a ∈ A, H a ≠ none
theorem Bs.go {Y : Names} {H' h' : Hp} {F' : Fp} {A : List Addr} (b : Bs Y H h F A) (g : Go H h F H' h' F') : Bs Y H' h' F' A ∧ ∀ a ∈ A, H' a = H a := by
  have same : ∀ a ∈ A, H' a = H a ∧ h' a = none := fun a ha => by
    cases q : H a with
    | none => exact absurd q (b.dm a ha)
    | some o => exact g.same q (b.dj a ha) (b.hd a ha)
  refine ⟨⟨b.nd, fun a ha => (same a ha).2, fun a ha i z => ?_, fun a ha => by rw [(same a ha).1]; exact b.dm a ha⟩, fun a ha => (same a ha).1⟩
  rcases g.nf a i z with w | ⟨j, w⟩
  · exact b.dm a ha w
  · exact b.dj a ha j w
/-- the tests of a clause -/
theorem vpts {ifs : List Expr} {os : List ODen} {t : TT} (h : PTs X ifs t) (i : ∀ σ H Q, tT R (tAll T C os) σ H Q → t σ H Q) : PTs X ifs (tT R (tAll T C os)) := ⟨fun pins s σ H Q I q => h.run pins s σ H Q I (i σ H Q q)⟩
theorem vifs0 : PTs X [] (tT R (tAll T C [])) := vpts pts_nil fun σ H Q t => by
  obtain ⟨e, h, F, S, w⟩ := t
  exact w H h F .refl S
theorem vifs1 {c : Expr} {o : ODen} (hc : PT X c (tT R (tst T C o))) : PTs X [c] (tT R (tAll T C [o])) := vpts (pts_one hc) fun σ H Q t => by
  obtain ⟨e, h, F, S, w⟩ := t
  refine ⟨e, h, F, S, wpR_mono (wpR_bind.mp w) (fun b e1 w1 => ?_) fun _ _ _ q => q⟩
  cases b with
  | true => exact w1
  | false => exact w1
theorem RSL.snoc {Y : Names} : ∀ {xs : List SV} {vs : List V} {A B : List Addr} {x : SV} {v : V}, RSL Y H h xs vs A → RS Y H h x v B → RSL Y H h (xs ++ [x]) (vs ++ [v]) (A ++ B)
  | [], vs, A, B, x, v, ⟨e1, e2⟩, r => by
    subst e1 e2
    exact ⟨v, [], B, [], rfl, by simp, r, rfl, rfl⟩
  | y :: xs, _, _, B, x, v, ⟨w, vr, B1, C1, e, eA, r1, r⟩, q => by
    subst e eA
    exact ⟨w, vr ++ [v], B1, C1 ++ B, rfl, by simp, r1, RSL.snoc r q⟩
/-- what is left to do of a comprehension, and what is done -/
def LcW (R : Fr) (H1 h1 : Hp) (F1 : Fp) (σ : L2.St) (t : Tg) (own : List Nat) (ok : BDen) (d : Den) (xs : List IV) (Q : VK) (D : Addr) : Nat → Nat → Hp → Prop := fun i m H' => m = xs.length - i ∧ ∃ e' h' F' acc accV As,
  Go H1 h1 F1 H' h' F' ∧ St R.Y H' h' (L2.wipe σ own) e' F' ∧ H' D = some (.lst accV) ∧ RSL R.Y H' h' acc accV As ∧ Bs R.Y H' h' F' (D :: As) ∧ (∀ a ∈ D :: As, H1 a = none ∨ ∃ j, a ∈ F1 j) ∧
  wpR (compL t own ok d (xs.drop i) acc e') (fun ys e2 => OKs R H1 h1 F1 σ Q (.ol ys) e2) (EXx R H1 h1 F1 σ)
theorem tLc_of {own : List Nat} {t : Tg} {it : IDen} {os : List ODen} {d : Den} (q : tE R (dLc T C d t it os own) σ H Q) : tLc (tI R it) (tG R.quiet (kOwn own) t) (tT R.quiet (tAll T C os)) (tE R.quiet d) own σ H Q := by
  obtain ⟨e, h, F, S, w⟩ := q
  refine ⟨e, h, F, S, wpR_mono (wpR_bind.mp w) (fun xs e1 w1 => ?_) fun _ _ _ q => q⟩
  intro J H1 h1 F1 g1 S1 jo D hD
  obtain ⟨Fw, Sw, gw, sw⟩ := S1.wipe own
  have hdD : h1 D = none := S1.le.fresh hD
  -- with the new list
  obtain ⟨S2, g2⟩ := Sw.more (H' := upd H1 D (.lst [])) (h' := h1) (.new hD) (.refl _) (S1.le.trans (Sub.new hD).up) fun _ z => .inl z
  refine ⟨LcW R H1 h1 F1 σ t own (tAll T C os) d xs Q D, ⟨xs.length, rfl, Vy.wipe own e1, h1, Fw, [], [], [], gw.trans g2, S2, upd_same, ⟨rfl, rfl⟩, ⟨by simp, fun a ha => ?_, fun a ha i z => ?_, fun a ha => ?_⟩, fun a ha => ?_, ?_⟩, fun i m H' hW => ?_⟩
  · rw [List.mem_singleton.mp ha]; exact hdD
  · rw [List.mem_singleton.mp ha] at z
    exact S1.dom (sw i D z) hD
  · rw [List.mem_singleton.mp ha, upd_same]; exact fun w => nomatch w
  · rw [List.mem_singleton.mp ha]; exact .inl hD
  · refine wpR_mono (wpR_bind.mp w1) (fun ys e2 q => ?_) fun _ _ _ q => q.go g1
    exact OKs.go g1 q
  obtain ⟨hm, e', h', F', acc, accV, As, g', S', hDv, ra, bs, nf, w'⟩ := hW
  obtain ⟨j0, j1⟩ := jo i H' h' F' g' S'.le
  cases hx : xs[i]? with
  | none =>
    have hl := List.getElem?_eq_none_iff.mp hx
    rw [List.drop_eq_nil_of_le hl] at w'
    refine .inl ⟨j0 hx, ?_⟩
    exact w' (.ref D) (D :: As) H' h' F' g' (S1.unwipe S') ⟨D, accV, As, rfl, rfl, hDv, ra⟩ ⟨bs.nd, bs.hd, bs.dj, nf⟩
  | some v =>
    obtain ⟨hl, _⟩ := List.getElem?_eq_some_iff.mp hx
    have ed : xs.drop i = v :: xs.drop (i + 1) := by
      rw [List.drop_eq_getElem_cons hl]
      congr 1
    rw [ed] at w'
    obtain ⟨jg, jy⟩ := j1 v hx
    refine .inr ⟨jg, fun H2 => LcW R H1 h1 F1 σ t own (tAll T C os) d xs Q D (i + 1) (xs.length - (i + 1)) H2, fun H2 hN => ⟨xs.length - (i + 1), by omega, hN⟩, fun x H2 hy => ?_⟩
    obtain ⟨h2, sH, sh, u2, nn, rx⟩ := jy x H2 hy
    obtain ⟨S2, g2⟩ := S'.more sH sh u2 nn
    unfold compL at w'
    cases eb : bindT 20 t v e' with
    | none => rw [eb] at w'; exact w'.elim
    | some e3 =>
      rw [eb] at w'
      refine ⟨e', h2, F', 20, v, e3, S2, rx, eb, fun σ3 H3 h3 F3 g3 S3 k3 => ⟨by rw [show L2.wipe σ3 own = L2.wipe (L2.wipe σ own) own from k3, wipe_wipe], ?_⟩⟩
      have kw : L2.wipe σ3 own = L2.wipe σ own := by rw [show L2.wipe σ3 own = L2.wipe (L2.wipe σ own) own from k3, wipe_wipe]
      refine ⟨e3, h3, F3, S3, wp_noX (E' := EXx R.quiet H3 h3 F3 σ3) (wpR_mono (wpR_bind.mp w') (fun b e4 w4 => ?_) fun _ _ _ q => q)⟩
      intro H4 h4 F4 g4 S4
      have gA := ((g2.trans g3).trans g4)
      -- one turn's end
      have turn : ∀ {H5 h5 : Hp} {F5 : Fp} {e5 : Env} {acc' : List SV} {accV' : List V} {As' : List Addr}, Go H' h' F' H5 h5 F5 → St R.Y H5 h5 σ3 e5 F5 → H5 D = some (.lst accV') → RSL R.Y H5 h5 acc' accV' As' → Bs R.Y H5 h5 F5 (D :: As') → (∀ a ∈ D :: As', H1 a = none ∨ ∃ j, a ∈ F1 j) →
          wpR (compL t own (tAll T C os) d (xs.drop (i + 1)) acc' (Vy.wipe own e5)) (fun ys e2 => OKs R H1 h1 F1 σ Q (.ol ys) e2) (EXx R H1 h1 F1 σ) → LcW R H1 h1 F1 σ t own (tAll T C os) d xs Q D (i + 1) (xs.length - (i + 1)) H5 := fun {H5 h5 F5 e5 acc' accV' As'} g5 S5 hD5 ra5 b5 n5 w5 => by
        obtain ⟨F6, S6, g6, s6⟩ := S5.wipe own
        rw [kw] at S6
        exact ⟨rfl, _, h5, F6, acc', accV', As', (g'.trans g5).trans g6, S6, hD5, ra5, ⟨b5.nd, b5.hd, fun a ha j z => b5.dj a ha j (s6 j a z), b5.dm⟩, n5, w5⟩
      obtain ⟨b4, same4⟩ := bs.go gA
      have hD4 : H4 D = some (.lst accV) := by rw [same4 D List.mem_cons_self]; exact hDv
      have ra4 := RSL.up gA.up _ ra fun a ha => same4 a (List.mem_cons_of_mem _ ha)
      cases b with
      | false =>
        rw [if_neg Bool.false_ne_true]
        exact turn gA S4 hD4 ra4 b4 nf w4
      | true =>
        rw [if_pos rfl]
        refine ⟨e4, h4, F4, S4, wp_noX (E' := EXx R.quiet H4 h4 F4 σ3) (wpR_mono (wpR_bind.mp w4) (fun r e5 w5 => ?_) fun _ _ _ q => q)⟩
        intro y A H5 h5 F5 g5 S5 rs o
        obtain ⟨b5, same5⟩ := b4.go g5
        have hD5 : H5 D = some (.lst accV) := by rw [same5 D List.mem_cons_self]; exact hD4
        have ra5 := RSL.up g5.up _ ra4 fun a ha => same5 a (List.mem_cons_of_mem _ ha)
        cases z : fits acc.length with
        | false => rw [z] at w5; exact w5.elim
        | true =>
          rw [z] at w5
          have lA : accV.length = acc.length := ra.length
          have hz : acc.length < sizeLine := by
            have := Nat.le_of_ble_eq_true z
            rw [sizeLine_eq]
            omega
          refine ⟨accV, hD5, by rw [lA]; exact hz, ?_⟩
          -- D is written: nobody else has it
          have dA : ∀ a ∈ A, a ∉ D :: As := fun a ha za => by
            rcases o.nf a ha with w | ⟨j, w⟩
            · exact b4.dm a za w
            · exact b4.dj a za j w
          have hDh : h5 D = none := b5.hd D List.mem_cons_self
          have same6 : ∀ a, a ≠ D → upd H5 D (.lst (accV ++ [y])) a = H5 a := fun a n => upd_ne n
          have up6 : Up h5 (upd H5 D (.lst (accV ++ [y]))) := by
            have n1 : ∀ a, h5 a ≠ none → a ≠ D := fun a z e => by rw [e] at z; exact z hDh
            refine ⟨fun a u p r => ?_, fun a => ⟨fun C' dx ps e => ?_, fun x e => ?_⟩, fun a z => ?_⟩
            · have n2 : a ≠ D := n1 a (by rcases r with r | ⟨_, r⟩ <;> (rw [r]; exact fun w => nomatch w))
              unfold Rd
              rw [same6 a n2]
              exact S5.le.le a u p r
            · rw [same6 a (n1 a (by rw [e]; exact fun w => nomatch w))]
              exact (S5.le.ins a).1 _ _ _ e
            · rw [same6 a (n1 a (by rw [e]; exact fun w => nomatch w))]
              exact (S5.le.ins a).2 _ e
            · rw [same6 a (n1 a z)]
              exact S5.le.dom a z
          have S6 : St R.Y (upd H5 D (.lst (accV ++ [y]))) h5 σ3 e5 F5 := ⟨S5.len, fun j s hs => by
            rcases S5.rel j s hs with w | ⟨x1, w1, w2⟩
            · exact .inl w
            · exact .inr ⟨x1, w1, RS.up (.refl h5) s w2 fun a ha => same6 a fun e => b5.dj D List.mem_cons_self j (by rw [← e]; exact ha)⟩, S5.out, S5.nd, S5.dj, S5.hd, up6⟩
          have nfD : ∀ a ∈ A, H1 a = none ∨ ∃ j, a ∈ F1 j := fun a ha => by
            rcases o.nf a ha with w | ⟨j, w⟩
            · by_cases k : ∃ j, a ∈ F1 j
              · exact .inr k
              · cases q : H1 a with
                | none => exact .inl rfl
                | some u =>
                  obtain ⟨o', eo⟩ := ((g'.trans gA).keep a u q fun j y => k ⟨j, y⟩).some
                  rw [eo] at w
                  cases w
            · exact (g'.trans gA).nf a j w
          have g6 : Go H1 h1 F1 (upd H5 D (.lst (accV ++ [y]))) h5 F5 := by
            have gg := (g'.trans gA).trans g5
            refine ⟨fun a u e n => ?_, gg.up, gg.nh, gg.nf⟩
            have nD : a ≠ D := fun z => by
              rcases nf D List.mem_cons_self with w | ⟨j, w⟩
              · rw [z, w] at e; cases e
              · exact n j (by rw [z]; exact w)
            rw [same6 a nD]
            exact gg.keep a u e n
          obtain ⟨F7, S7, g7, s7⟩ := S6.wipe own
          rw [kw] at S7
          refine ⟨rfl, _, h5, F7, acc ++ [r], accV ++ [y], As ++ A, g6.trans g7, S7, upd_same, RSL.snoc (RSL.up (.refl h5) _ ra5 fun a ha => same6 a fun e => ?_) (RS.up (.refl h5) _ rs fun a ha => same6 a fun e => ?_), ⟨?_, fun a ha => ?_, fun a ha j z => ?_, fun a ha => ?_⟩, fun a ha => ?_, w5⟩
          · have := (List.nodup_cons.mp b5.nd).1
            rw [e] at ha
            exact this ha
          · rw [e] at ha
            exact dA D ha List.mem_cons_self
          · have nn := List.nodup_cons.mp b5.nd
            refine List.nodup_cons.mpr ⟨fun z => ?_, List.nodup_append.mpr ⟨nn.2, o.nd, fun a ha b hb e => ?_⟩⟩
            · rcases List.mem_append.mp z with z | z
              · exact nn.1 z
              · exact dA D z List.mem_cons_self
            · rw [e] at ha
              exact dA b hb (List.mem_cons_of_mem _ ha)
          · rcases List.mem_cons.mp ha with z | z
            · rw [z]; exact hDh
            · rcases List.mem_append.mp z with z | z
              · exact b5.hd a (List.mem_cons_of_mem _ z)
              · exact o.hd a z
          · have z := s7 j a z
            rcases List.mem_cons.mp ha with y | y
            · rw [y] at z; exact b5.dj D List.mem_cons_self j z
            · rcases List.mem_append.mp y with y | y
              · exact b5.dj a (List.mem_cons_of_mem _ y) j z
              · exact o.dj a y j z
          · by_cases e : a = D
            · rw [e, upd_same]; exact fun w => nomatch w
            · rw [same6 a e]
              rcases List.mem_cons.mp ha with y | y
              · exact absurd y e
              · rcases List.mem_append.mp y with y | y
                · exact b5.dm a (List.mem_cons_of_mem _ y)
                · exact RS.dom _ rs a y
          · rcases List.mem_cons.mp ha with y | y
            · rw [y]; exact nf D List.mem_cons_self
            · rcases List.mem_append.mp y with y | y
              · exact nf a (List.mem_cons_of_mem _ y)
              · exact nfD a y
/-- [e for t in it if ..] -/
theorem vlc {elt tg iter : Expr} {ifs : List Expr} {scope : Scope} {own : List (Str × Nat)} {ownN : List Nat} {pos : Pos} {t : Tg} {it : IDen} {os : List ODen} {d : Den} (hc : X.calm = true) (hN : X.N.Nodup) (ok : BlkOk X.N X.env.scope scope own) (ho : own.map (·.2) = ownN) (hi : PI X tg iter (tI R it))
    (hg : ∀ (s : Shared) (H : Hp) (C : Addr) (cl : List (Str × Addr)) (fp : List Addr), PG (X.blk s H scope (compEnvC scope cl C X.env) fp) tg (tG R.quiet (kOwn ownN) t))
    (ht : ∀ (s : Shared) (H : Hp) (C' : Addr) (cl : List (Str × Addr)) (fp : List Addr), PTs (X.blk s H scope (compEnvC scope cl C' X.env) fp) ifs (tT R.quiet (tAll T C os)))
    (he : ∀ (s : Shared) (H : Hp) (C : Addr) (cl : List (Str × Addr)) (fp : List Addr), PE (X.blk s H scope (compEnvC scope cl C X.env) fp) elt (tE R.quiet d)) (hs : ∀ x, foldedSetIterable iter X.env x = pure x := by intro _; rfl) :
    PE X (.ListComp elt [⟨tg, iter, ifs, 0⟩] scope pos) (tE R (dLc T C d t it os ownN)) := by
  subst ho
  exact pe_weak (pe_lc hc hN hi ok hg ht he hs) fun σ H Q q => tLc_of q
end
end Vy

end
section
set_option maxRecDepth 100000
set_option maxHeartbeats 2000000
/-! Names; callees. -/
namespace Vy
open PySem PySem.Spec PyProof.Rows L2 StX
def atOf (ns : List Str) (i : Nat) : Str := match ns[i]? with
  | some s => s
  | none => ⟨#[i + 1114112]⟩
def atOk (ns : List Str) : Bool := decide ns.Nodup && ns.all fun s => match s.cps.toList with
  | [c] => Nat.blt c 1114112
  | _ => true
theorem atOf_inj {ns : List Str} (h : atOk ns = true) : ∀ i j, atOf ns i = atOf ns j → i = j := by
  obtain ⟨nd, al⟩ := bAnd h
  have nd := of_decide_eq_true nd
  have odd : ∀ (i k : Nat), ns[i]? ≠ some ⟨#[k + 1114112]⟩ := fun i k z => by
    have := List.all_eq_true.mp al _ (List.mem_of_getElem? z)
    have := Nat.blt_eq.mp this
    omega
  intro i j e
  unfold atOf at e
  cases p : ns[i]? with
  | none =>
    cases q : ns[j]? with
    | none =>
      rw [p, q] at e
      have e : (⟨#[i + 1114112]⟩ : Str) = ⟨#[j + 1114112]⟩ := e
      injection e with e
      have := congrArg (fun a => a.toList) e
      simp at this
      exact this
    | some t =>
      rw [p, q] at e
      exact absurd (by rw [q]; exact congrArg some e.symm) (odd j i)
  | some s =>
    cases q : ns[j]? with
    | none =>
      rw [p, q] at e
      exact absurd (by rw [p]; exact congrArg some e) (odd i j)
    | some t =>
      rw [p, q] at e
      have e : s = t := e
      subst e
      obtain ⟨hi, ei⟩ := List.getElem?_eq_some_iff.mp p
      obtain ⟨hj, ej⟩ := List.getElem?_eq_some_iff.mp q
      exact (List.getElem_inj nd).mp (ei.trans ej.symm)
/-- the text's names over the written part -/
def nmOf (P : Program) (w : World) (K : PySem.W.Frag) (fs : List (Str × Option Str)) (cs as : List Str) : Names := { P := P, w := w, K := K, fn := fun i => He.fAd K (fs.getD i ("", none)), cl := fun c => He.ga K (cs.getD c ""), at_ := atOf as, nc := cs.length }
/-- a def that may be called -/
structure Cal (P : Program) (w : World) (K : PySem.W.Frag) (mg : Str → Option Value) (base : Heap) (Y : Names) (xc : Nat → Addr) (xr : XR) (C : Callee) (k f : Nat) (x : Str) (fa : Addr) (fd : FuncData) (ps : List Str) : Prop where
  ok : FnOk P w K mg base (L2.CX P w) k fa fd ps (spV Y xc xr C f)
  mg : mg x = some (.ref fa)
  kp : PySem.W.keepIn K (.ref fa) = true
  bd : Binds K fd ps []
theorem hu64 {k : Nat} {A : Around} (r : Room k A) : A.units + 64 < cLine := by have := r.un; omega
theorem hu65 {k : Nat} {A : Around} (r : Room k A) : A.units + 65 < cLine := by have := r.un; omega
theorem hu9 {k : Nat} {A : Around} (r : Room k A) : A.units + 9 < cLine := by have := r.un; omega
end Vy
namespace Vy
open PySem PySem.Spec PyProof.Rows L2 StX
/-- an error's class that may be raised -/
structure ExcF (P : Program) (w : World) (K : PySem.W.Frag) (mg : Str → Option Value) (base : Heap) (Y : Names) (k : Nat) (fs : List Nat) (x : Str) (C fI : Addr) (fd : FuncData) (ps : List Str) : Prop where
  T : OexC K C
  iC : PySem.W.findIn K (.ref C) "__init__" = some (some (.ref fI))
  tI : PySem.W.typeIn K (.ref fI) = some (.type "function")
  ok : FnOk P w K mg base (L2.CX P w) k fI fd ps (spI C (fs.map Y.at_))
  bd : Binds K fd ps []
  mg : mg x = some (.ref C)
end Vy

end
section
set_option maxRecDepth 100000
set_option maxHeartbeats 2000000
/-! Stores into what a name owns. -/
namespace Vy
open PySem PySem.Spec PyProof.Rows L2 StX
section
variable {R : Fr} {X : Cx} {T : Tab} {C : Vy.Callee} {H h H1 h1 : Hp} {σ : L2.St} {e : Env} {F F1 : Fp} {D : Ends} {Q : VK}
/-- the object at p, owned by the name i, is written -/
theorem St.write {Y : Names} {H0 h0 : Hp} {F0 : Fp} (S : St Y H h σ e F) (g : Go H0 h0 F0 H h F) {i : Nat} {s s' : SV} {x : V} {p : Addr} {B B' Ar : List Addr} {ob : HO} (hs : getE e i = s) (hx : σ[i]? = some (some x)) (hF : F i = p :: B)
    (o : Own H0 h0 H h F0 F Ar) (hB : ∀ a ∈ B', a ∈ B ∨ a ∈ Ar) (nd : (p :: B').Nodup) (r : RS Y (upd H p ob) h s' x (p :: B')) : ∃ F', St Y (upd H p ob) h σ (setE e i s') F' ∧ Go H0 h0 F0 (upd H p ob) h F' := by
  have pi : p ∈ F i := by rw [hF]; exact List.mem_cons_self
  have hp : h p = none := S.hd i p pi
  have il : i < e.length := by
    cases Nat.lt_or_ge i e.length with
    | inl z => exact z
    | inr z => rw [S.out i z] at hF; cases hF
  have same : ∀ a, a ≠ p → upd H p ob a = H a := fun a n => upd_ne n
  have up : Up h (upd H p ob) := by
    have n1 : ∀ a, h a ≠ none → a ≠ p := fun a z e => by rw [e] at z; exact z hp
    refine ⟨fun a u pl r => ?_, fun a => ⟨fun C' dx ps e => ?_, fun x e => ?_⟩, fun a z => ?_⟩
    · have n2 : a ≠ p := n1 a (by rcases r with r | ⟨_, r⟩ <;> (rw [r]; exact fun w => nomatch w))
      unfold Rd
      rw [same a n2]
      exact S.le.le a u pl r
    · rw [same a (n1 a (by rw [e]; exact fun w => nomatch w))]
      exact (S.le.ins a).1 _ _ _ e
    · rw [same a (n1 a (by rw [e]; exact fun w => nomatch w))]
      exact (S.le.ins a).2 _ e
    · rw [same a (n1 a z)]
      exact S.le.dom a z
  obtain ⟨F', fi, fe⟩ := fp_upd F i (p :: B')
  have inF : ∀ a, a ∈ p :: B' → a ∈ F i ∨ a ∈ Ar := fun a ha => by
    rcases List.mem_cons.mp ha with z | z
    · rw [z]; exact .inl pi
    · rcases hB a z with z | z
      · rw [hF]; exact .inl (List.mem_cons_of_mem _ z)
      · exact .inr z
  refine ⟨F', ⟨by simp [setE, S.len], fun j t ht => ?_, fun j hj => ?_, fun j => ?_, fun j l hjl a ha => ?_, fun j a ha => ?_, up⟩, ⟨fun a u ea n => ?_, g.up, g.nh, fun a j ha => ?_⟩⟩
  · by_cases hj : j = i
    · subst hj
      rw [show (setE e j s')[j]? = some s' from by simp [setE, il]] at ht
      cases ht
      exact .inr ⟨x, hx, by rw [fi]; exact r⟩
    · rw [show (setE e i s')[j]? = e[j]? from by simp [setE, List.getElem?_set_ne (Ne.symm hj)]] at ht
      rw [fe j hj]
      rcases S.rel j t ht with z | ⟨y, z1, z2⟩
      · exact .inl z
      · exact .inr ⟨y, z1, RS.up (.refl h) t z2 fun a ha => same a fun z => S.dj i j (Ne.symm hj) p pi (by rw [← z]; exact ha)⟩
  · have hj2 : e.length ≤ j := by simpa [setE] using hj
    rw [fe j (by omega)]
    exact S.out j hj2
  · by_cases z : j = i
    · rw [z, fi]; exact nd
    · rw [fe j z]; exact S.nd j
  · by_cases z : j = i
    · rw [z, fi] at ha
      rw [fe l (by rw [← z]; exact Ne.symm hjl)]
      rcases inF a ha with w | w
      · exact S.dj i l (by rw [← z]; exact hjl) a w
      · exact o.dj a w l
    · rw [fe j z] at ha
      by_cases w : l = i
      · rw [w, fi]
        intro y
        rcases inF a y with y | y
        · exact S.dj j i z a ha y
        · exact o.dj a y j ha
      · rw [fe l w]; exact S.dj j l hjl a ha
  · by_cases z : j = i
    · rw [z, fi] at ha
      rcases inF a ha with w | w
      · exact S.hd i a w
      · exact o.hd a w
    · rw [fe j z] at ha; exact S.hd j a ha
  · have nP : a ≠ p := fun z => by
      rcases g.nf p i pi with w | ⟨j, w⟩
      · rw [z, w] at ea; cases ea
      · exact n j (by rw [z]; exact w)
    rw [same a nP]
    exact g.keep a u ea n
  · by_cases z : j = i
    · rw [z, fi] at ha
      rcases inF a ha with w | w
      · exact g.nf a i w
      · exact o.nf a w
    · rw [fe j z] at ha; exact g.nf a j ha
/-- an item of an owned row is another one -/
theorem RSL.set {Y : Names} : ∀ {xs : List SV} {vs : List V} {B Ar : List Addr} {r : SV} {v : V} (j : Nat), RSL Y H h xs vs B → RS Y H h r v Ar → B.Nodup → Ar.Nodup → (∀ a ∈ Ar, a ∉ B) → ∃ B', RSL Y H h (xs.set j r) (vs.set j v) B' ∧ (∀ a ∈ B', a ∈ B ∨ a ∈ Ar) ∧ B'.Nodup
  | [], vs, B, Ar, r, v, j, ⟨e1, e2⟩, _, _, _, _ => by subst e1 e2; exact ⟨[], ⟨rfl, rfl⟩, fun _ z => .inl z, .nil⟩
  | x :: xs, _, _, Ar, r, v, 0, ⟨w, vr, B1, C1, e, eA, r1, rr⟩, q, n1, n2, dj => by
    subst e eA
    refine ⟨Ar ++ C1, ⟨v, vr, Ar, C1, rfl, rfl, q, rr⟩, fun a ha => ?_, List.nodup_append.mpr ⟨n2, (List.nodup_append.mp n1).2.1, fun a ha b hb e => dj a ha (by rw [e]; exact List.mem_append_right _ hb)⟩⟩
    rcases List.mem_append.mp ha with z | z
    · exact .inr z
    · exact .inl (List.mem_append_right _ z)
  | x :: xs, _, _, Ar, r, v, j + 1, ⟨w, vr, B1, C1, e, eA, r1, rr⟩, q, n1, n2, dj => by
    subst e eA
    obtain ⟨m1, m2, m3⟩ := List.nodup_append.mp n1
    obtain ⟨B', r', s', nd'⟩ := RSL.set j rr q m2 n2 fun a ha z => dj a ha (List.mem_append_right _ z)
    refine ⟨B1 ++ B', ⟨w, vr.set j v, B1, B', rfl, rfl, r1, r'⟩, fun a ha => ?_, List.nodup_append.mpr ⟨m1, nd', fun a ha b hb e => ?_⟩⟩
    · rcases List.mem_append.mp ha with z | z
      · exact .inl (List.mem_append_left _ z)
      · exact (s' a z).imp (List.mem_append_right _) id
    · rcases s' b hb with z | z
      · exact m3 a ha b z e
      · exact dj b z (by rw [← e]; exact List.mem_append_left _ ha)
theorem get_list (hY : Fits R.Y X) (hu : X.A.units + 9 < cLine) : PGet X (fun o i H Q => ∃ p xs k v, o = .ref p ∧ i = .int k ∧ Rd H p (.lst xs) ∧ atI xs k = some v ∧ Q v H) := by
  intro pins s σ H o i ov iv Q I ro ri hh
  obtain ⟨p, xs, k, z, rfl, rfl, hq, he, q⟩ := hh
  cases ro
  obtain ⟨t, rfl⟩ := ri
  obtain ⟨its, r, pl, hz⟩ := I.list (.inl hq)
  obtain ⟨j, h1, h2, h3, h4, h5⟩ := atI_get he
  obtain ⟨w, ew, rw'⟩ := r.get h2
  have hl := r.length
  have hn := line63
  have fin : EP X pins σ Q w s := ⟨z, H, I, rw', q⟩
  by_cases h0 : 0 ≤ k
  · have hj : k.toNat = j := by
      rw [seqIndex_of h0 h5] at h1
      exact Option.some.inj h1
    exact wpAny_getItem_list pl.isList h0 (by omega) (by rw [hj]; simpa using ew) fin
  · have hj : (k + (its.toArray.size : Int)).toNat = j := by
      rw [seqIndex_neg (by omega) h4] at h1
      rw [List.size_toArray, ← hl]
      exact Option.some.inj h1
    exact wpAny_getItem_list_neg pl.isList (by omega) (by rw [List.size_toArray] <;> omega) (by omega) (by rw [hj]; simpa using ew) fin
/-- i[k] op= e -/
theorem zaugs {x : Str} {i : Nat} {a b : Expr} {ok od : ODen} {op : Operator} {o : Nat} {f : Int → Int → Int} {p0 p1 pos : Pos} (hY : Fits R.Y X) (hu : X.A.units + 9 < cLine) (hip : PIp X op (ipI f)) (hb : ∀ m n, augI o (.int m) (.int n) = some (.int (f m n))) (hv : PE X (.Name x p0) (tVar i)) (ha : PE X a (tO R ok)) (hd : PE X b (tO R od))
    (hs : ∀ ov iv new, augStore a ov iv new = (do holding [new, ov, iv] (setItem ov iv new); release [new, ov, iv] []; pure .next) := by intros; rfl) : PS X (.AugAssign (.Subscript (.Name x p0) a p1) op b pos) (tS R (sAugs i ok o od)) :=
  ps_weak (ps_augS hv ha (get_list hY hu) hd hip set_list hs) fun D σ H t => by
    obtain ⟨e, h, F, S, P, w⟩ := t
    -- the name is there
    have there : ∀ {e1 : Env} {H1 h1 : Hp} {F1 : Fp} {xs : List SV}, St R.Y H1 h1 σ e1 F1 → getE e1 i = .ol xs → ∃ p vs B, σ[i]? = some (some (.ref p)) ∧ F1 i = p :: B ∧ H1 p = some (.lst vs) ∧ RSL R.Y H1 h1 xs vs B := fun {e1 H1 h1 F1 xs} S1 q => by
      obtain ⟨y, hy, p, vs, B, e2, eA, e3, rl⟩ := S1.at_ q (fun z => nomatch z)
      subst e2
      exact ⟨p, vs, B, hy, eA, e3, rl⟩
    unfold sAugs at w
    cases q0 : getE e i with
    | ol xs0 =>
      rw [q0] at w
      obtain ⟨p, vs0, B0, hp, _, _, _⟩ := there S q0
      refine ⟨.ref p, hp, e, h, F, S, wpR_mono (wpR_bind.mp w) (fun ox e1 w1 => ?_) fun _ _ _ q => q.x P⟩
      intro kx H1 h1 F1 g1 S1 rk
      cases qk : ox.at e1 with
      | none => rw [qk] at w1; exact w1.elim
      | some kw =>
        rw [qk] at w1
        cases q1 : getE e1 i with
        | ol xs =>
          rw [q1] at w1
          obtain ⟨p1, vs, B, hp1, hF1, hH1, rl⟩ := there S1 q1
          rw [hp] at hp1
          cases hp1
          obtain ⟨old, eo, w2⟩ := wpR_retO.mp (wpR_bind.mp w1)
          have tk := S1.top rk qk
          -- the index
          have idx : ∃ m j v0, kw = .int m ∧ ixN xs.length m = some j ∧ xs[j]? = some (.fz old) ∧ vs[j]? = some v0 ∧ RF R.Y h1 old v0 := by
            unfold subS at eo
            cases kw <;> try cases eo
            rename_i m
            dsimp only at eo
            rw [ixOf_ixN] at eo
            cases qi : ixN xs.length m with
            | none => rw [qi] at eo; cases eo
            | some j =>
              rw [qi] at eo
              dsimp only at eo
              rw [lstAt_get] at eo
              cases qj : xs[j]? with
              | none => rw [qj] at eo; cases eo
              | some t =>
                rw [qj] at eo
                cases t <;> try cases eo
                obtain ⟨z, B2, z1, z2⟩ := rl.get qj
                exact ⟨m, j, z, rfl, qi, qj, z1, z2.2⟩
          obtain ⟨m, j, v0, rfl, hj, hxj, hvj, rv0⟩ := idx
          refine ⟨p, vs, m, v0, rfl, tk, .inl hH1, by unfold atI; rw [rl.length, hj]; exact hvj, ?_⟩
          refine ⟨e1, h1, F1, S1, wpR_mono (wpR_bind.mp w2) (fun oy e2 w3 => ?_) fun _ _ _ q => (q.x P).go g1⟩
          intro y H2 h2 F2 g2 S2 ry
          cases qy : oy.at e2 with
          | none => rw [qy] at w3; exact w3.elim
          | some v =>
            rw [qy] at w3
            obtain ⟨r, er, w4⟩ := wpR_retO.mp (wpR_bind.mp w3)
            obtain ⟨s', es', w5⟩ := wpR_retO.mp (wpR_bind.mp w4)
            have ty := S2.top ry qy
            have bothI : ∃ a b, old = .int a ∧ v = .int b := by
              unfold augI at er
              cases old <;> try cases er
              cases v <;> try cases er
              exact ⟨_, _, rfl, rfl⟩
            obtain ⟨a, b, rfl, rfl⟩ := bothI
            rw [hb] at er
            cases er
            rw [show v0 = .int a from rv0]
            refine ⟨a, b, rfl, ty, ?_⟩
            -- the store
            unfold setL at es'
            cases q2 : getE e2 i with
            | ol ys =>
              rw [q2] at es'
              obtain ⟨p2, ws, B2, hp2, hF2, hH2, rl2⟩ := there S2 q2
              rw [hp] at hp2
              cases hp2
              have es' : (match ixOf ys.length m with
                | some j => some (SV.ol (ys.set j (.fz (.int (f a b)))))
                | none => none) = some s' := es'
              rw [ixOf_ixN] at es'
              cases qi : ixN ys.length m with
              | none => rw [qi] at es'; cases es'
              | some j2 =>
                rw [qi] at es'
                cases es'
                have nd := S2.nd i
                rw [hF2] at nd
                have nn := List.nodup_cons.mp nd
                obtain ⟨B', rl3, sb, nd'⟩ := RSL.set (r := .fz (.int (f a b))) (v := .int (f a b)) (Ar := []) j2 rl2 ⟨rfl, rfl⟩ nn.2 .nil (fun _ z => absurd z (by simp))
                have pB : p ∉ B' := fun z => by
                  rcases sb p z with w | w
                  · exact nn.1 w
                  · cases w
                refine ⟨p, ws, m, j2, rfl, tk, hH2, by rw [rl2.length]; exact qi, ?_⟩
                obtain ⟨F3, S3, g3⟩ := S2.write (s' := .ol (ys.set j2 (.fz (.int (f a b))))) (ob := .lst (ws.set j2 (.int (f a b)))) (g1.trans g2) q2 hp hF2 (Own.nil (H := H) (h := h) (F := F)) sb (List.nodup_cons.mpr ⟨pB, nd'⟩)
                  ⟨p, _, B', rfl, rfl, upd_same, RSL.up (.refl h2) _ rl3 fun a' ha' => upd_ne fun z => pB (by rw [← z]; exact ha')⟩
                exact w5 σ _ h2 F3 g3 S3 P
            | _ => rw [q2] at es'; cases es'
        | _ => rw [q1] at w1; exact w1.elim
    | _ => rw [q0] at w; exact w.elim
theorem aug_add : ∀ m n : Int, augI 0 (.int m) (.int n) = some (.int (m + n)) := fun _ _ => rfl
theorem aug_sub : ∀ m n : Int, augI 1 (.int m) (.int n) = some (.int (m - n)) := fun _ _ => rfl
end
end Vy

end
section
set_option maxRecDepth 100000
set_option maxHeartbeats 2000000
/-! Dict comprehensions whose keys may be tuples. -/
namespace Vy
open PySem PySem.Spec PyProof.Rows L2 StX
/-- what a turn of a dict comprehension stores: by its own rule -/
abbrev TPut := Addr → V → V → Hp → (Hp → Prop) → Prop
def PutR (prog : Program) (w : World) (A : Around) (B : Cx) (p : TPut) : Prop := ∀ (pins : List (Addr × Obj)) (s : Shared) (τ : L2.St) (H : Hp) (D : Addr) (y z : V) (u r : Value) (N : Hp → Prop) (E : Value → Shared → Prop), Inv B pins τ H s → RelV y u → RelV z r → p D y z H N →
  wpAny (model prog w) A (dictSet D u r) (fun _ t => ∃ H', Inv B pins τ H' t ∧ N H') E s
section
variable {X : Cx}
/-- the turns, in the block's own context B -/
theorem dcn_loop {B : Cx} (hP : B.prog = X.prog) (hw : B.w = X.w) (hK : B.K = X.K) (hA : B.A = X.A) (hcB : B.calm = true) (hxe : B.xe = fun _ _ => False) {ce : PySem.Env} (hce : B.env = ce) {kx vx tg iter : Expr} {ifs : List Expr} {scope : Scope} {own : List Nat} {pos : Pos} {g : TG} {tt : TT} {tk tv : TE} {pt : TPut} {Rz : Result → Shared → Prop}
    {it D : Addr} {fp : List Addr} {tn : Nat → Heap → Prop} {J : It} {σ : L2.St} {W : Nat → Nat → Hp → Prop} {Qz : Hp → Prop} (pg : PG B tg g) (pts : PTs B ifs tt) (pk : PE B kx tk) (pv : PE B vx tv) (pp : PutR X.prog X.w X.A B pt) (T : Turn X.prog X.w X.K tg J fp it tn)
    (fresh : ∀ {τ : L2.St} {H' : Hp} {t : Shared}, Inv B [] τ H' t → (∀ b ∈ fp, H' b = none) → ∀ b ∈ fp, FpOk B [] H' b)
    (turn : ∀ i m H', W i m H' → (J.stop i H' ∧ Qz H') ∨ (J.go i H' ∧ ∃ N : Hp → Prop, (∀ G, N G → ∃ m', m' < m ∧ W (i + 1) m' G) ∧ ∀ x G, J.yld i H' x G → g x (L2.wipe σ own) G fun τ G2 => L2.wipe τ own = L2.wipe σ own ∧ tt τ G2 fun b G3 =>
      if b = true then tk τ G3 fun y G4 => tv τ G4 fun z G5 => pt D y z G5 N else N G3))
    (stop : ∀ t G, Inv B [] (L2.wipe σ own) G t → Qz G → Rz (.ok .next) t) {m0 : Nat} {H0 : Hp} {t0 : Shared} (I0 : Inv B [] (L2.wipe σ own) H0 t0) (st0 : tn 0 t0.heap) (nf : ∀ b ∈ fp, H0 b = none) (w0 : W 0 m0 H0) :
    codeAny (model X.prog X.w) X.A (.compLoop (.DictComp kx vx [⟨tg, iter, ifs, 0⟩] scope pos) 0 (.ref it) (.ref D) ce) Rz t0 := by
  obtain ⟨bp, bw, bK, bmg, bbase, bA, bN, bs0, bH0, benv, bouter, bstack, bex, bfn, bcalm, bpn, bxe⟩ := B
  dsimp only at hP hw hK hA hcB hxe hce
  subst hP hw hK hA hxe hce
  refine compLoop_anyD (fun m t => ∃ i G, Inv (⟨X.prog, X.w, X.K, bmg, bbase, X.A, bN, bs0, bH0, benv, bouter, bstack, bex, bfn, bcalm, bpn, fun _ _ => False⟩ : Cx) [] (L2.wipe σ own) G t ∧ tn i t.heap ∧ (∀ b ∈ fp, G b = none) ∧ W i m G) ?_ m0 ⟨0, H0, I0, st0, nf, w0⟩
  rintro m t ⟨i, G, I, st, n, w⟩
  rcases turn i m G w with ⟨sp, q⟩ | ⟨go, N, hN, step⟩
  · refine thnF (T.done ⟨X.prog, X.w, X.K, bmg, bbase, X.A, bN, bs0, bH0, benv, bouter, bstack, bex, bfn, bcalm, bpn, fun _ _ => False⟩ rfl rfl rfl hcB i [] t _ G (fun _ _ => False) I (fresh I n) st sp) fun r t1 ⟨er, I1⟩ => ?_
    subst er
    exact stop t1 G I1 q
  · refine thnF (T.item ⟨X.prog, X.w, X.K, bmg, bbase, X.A, bN, bs0, bH0, benv, bouter, bstack, bex, bfn, bcalm, bpn, fun _ _ => False⟩ rfl rfl rfl hcB i [] t _ G (fun _ _ => False) I (fresh I n) st go) fun r t1 ⟨u, er, h1⟩ => ?_
    subst er
    refine thnF h1 fun _ t2 ⟨x, G2, I2, r2, y2, st2, n2⟩ => ?_
    have J2 := I2.pinned (fresh I2 n2) (T.obj _ _ st2)
    refine thnF (pg.run _ t2 _ G2 x u _ J2 r2 (step x G2 y2)) fun _ t3 ⟨τ, G3, I3, ew, q3⟩ => ?_
    refine thnF (pts.run _ t3 τ G3 _ I3 q3) fun b t4 ⟨G4, I4, q4⟩ => ?_
    have ended : ∀ {t' : Shared} {G' : Hp}, Inv (⟨X.prog, X.w, X.K, bmg, bbase, X.A, bN, bs0, bH0, benv, bouter, bstack, bex, bfn, bcalm, bpn, fun _ _ => False⟩ : Cx) ([] ++ pinsAt fp t2.heap) τ G' t' → N G' → ∃ m', m' < m ∧ ∃ i G, Inv (⟨X.prog, X.w, X.K, bmg, bbase, X.A, bN, bs0, bH0, benv, bouter, bstack, bex, bfn, bcalm, bpn, fun _ _ => False⟩ : Cx) [] (L2.wipe σ own) G t' ∧ tn i t'.heap ∧ (∀ b ∈ fp, G b = none) ∧ W i m' G := fun {t' G'} I' nx => by
      obtain ⟨m', lt, w'⟩ := hN G' nx
      have held : ∀ b ∈ fp, ∀ o, t2.heap.get? b = some o → t'.heap.get? b = some o ∧ G' b = none := fun b hb o e => by
        have z := I'.pin (b, o) (List.mem_append_right _ (List.mem_append_right _ (mem_pinsAt hb e)))
        exact ⟨z.1, z.2.1⟩
      have len : (L2.wipe σ own).length = τ.length := by rw [← ew, wipe_length]
      refine ⟨m', lt, i + 1, G', (I'.unpinned (pins := [])).weak len (fun j v e => ?_), T.keep _ _ _ st2 fun b hb o e => (held b hb o e).1, fun b hb => ?_, w'⟩
      · rw [← ew] at e
        exact (wipe_some e).1
      · obtain ⟨o, e, _⟩ := T.obj _ _ st2 b hb
        exact (held b hb o e).2
    cases b with
    | false =>
      simp only [Bool.false_eq_true, if_false] at q4 ⊢
      exact ended I4 q4
    | true =>
      simp only [if_true] at q4 ⊢
      refine thnF (pk.run _ t4 τ G4 _ I4 q4) fun u1 t5 ⟨y, G5, I5, r5, q5⟩ => ?_
      refine thnF (pv.run _ t5 τ G5 _ I5 q5) fun u2 t6 ⟨z, G6, I6, r6, q6⟩ => ?_
      exact thn (pp _ t6 τ G6 D y z u1 u2 N _ I6 r5 r6 q6) fun _ t7 ⟨G7, I7, q7⟩ => ended I7 q7
def tDcN (wi : TI) (g : TG) (tt : TT) (tk tv : TE) (pt : TPut) (own : List Nat) : TE := fun σ H Q => wi σ H fun J H1 => ∀ D, H1 D = none → ∃ W : Nat → Nat → Hp → Prop, (∃ m, W 0 m (upd H1 D (.dK []))) ∧ ∀ i m G, W i m G →
  (J.stop i G ∧ Q (.ref D) G) ∨ (J.go i G ∧ ∃ N : Hp → Prop, (∀ G', N G' → ∃ m', m' < m ∧ W (i + 1) m' G') ∧ ∀ x G', J.yld i G x G' → g x (L2.wipe σ own) G' fun τ G2 => L2.wipe τ own = L2.wipe σ own ∧ tt τ G2 fun b G3 =>
    if b = true then tk τ G3 fun y G4 => tv τ G4 fun z G5 => pt D y z G5 N else N G3)
/-- {k: v for t in it if ..} -/
theorem pe_dcn {kx vx tg iter : Expr} {ifs : List Expr} {scope : Scope} {own : List (Str × Nat)} {pos : Pos} {wi : TI} {g : TG} {tt : TT} {tk tv : TE} {pt : TPut} (hc : X.calm = true) (hN : X.N.Nodup) (hi : PI X tg iter wi) (ok : BlkOk X.N X.env.scope scope own)
    (hg : ∀ (s : Shared) (H : Hp) (C : Addr) (cl : List (Str × Addr)) (fp : List Addr), PG (X.blk s H scope (compEnvC scope cl C X.env) fp) tg g) (ht : ∀ (s : Shared) (H : Hp) (C : Addr) (cl : List (Str × Addr)) (fp : List Addr), PTs (X.blk s H scope (compEnvC scope cl C X.env) fp) ifs tt)
    (hk : ∀ (s : Shared) (H : Hp) (C : Addr) (cl : List (Str × Addr)) (fp : List Addr), PE (X.blk s H scope (compEnvC scope cl C X.env) fp) kx tk) (he : ∀ (s : Shared) (H : Hp) (C : Addr) (cl : List (Str × Addr)) (fp : List Addr), PE (X.blk s H scope (compEnvC scope cl C X.env) fp) vx tv)
    (hp : ∀ (s : Shared) (H : Hp) (C : Addr) (cl : List (Str × Addr)) (fp : List Addr), PutR X.prog X.w X.A (X.blk s H scope (compEnvC scope cl C X.env) fp) pt) (hs : ∀ x, foldedSetIterable iter X.env x = pure x := by intro _; rfl) :
    PE X (.DictComp kx vx [⟨tg, iter, ifs, 0⟩] scope pos) (tDcN wi g tt tk tv pt (own.map (·.2))) := by
  refine ⟨fun pins s σ H Q I h => ?_⟩
  rw [arm_eval_DictComp]
  have clo : ∀ y ∈ scope.names, y.2 = .free → ∃ c, X.env.cells.lookup y.1 = some c := fun y hy e => (ok.free y hy e).elim (fun k => I.ok.has _ (.inl k)) fun k => I.ok.has _ (.inr k)
  refine wpAny_comprehension_free rfl hs (closure_ok clo) ok.kind (fun y hy e => by rw [ok.uniq y hy, e]) (thn (hi.run pins s σ H _ I h) fun _ s1 h1 => thn h1 fun iv s2 h2 => ?_)
  obtain ⟨it, fp, tn, J, H2, ei, I2, TT, st2, f2, q⟩ := h2
  subst ei
  refine wpAny_newObj_type (newEnv_comp ?_)
  have hDn : H2 s2.heap.objs.size = none := I2.hok.fresh (Nat.le_refl _)
  obtain ⟨W, ⟨m0, w0⟩, turn⟩ := q _ hDn
  -- the new dict
  have I3 : Inv X pins σ (upd H2 s2.heap.objs.size (.dK [])) { s2 with heap := s2.heap.push { cls := .type "dict", data := .dict #[] } } :=
    I2.laid (t' := s2.toks) (fun b o e => Heap.get?_push_of_some _ e) (Nat.le_refl _) (dk_empty s2.heap I2.big)
  have low : ∀ b ∈ fp, b < s2.heap.objs.size := fun b hb => by
    obtain ⟨o, e, _⟩ := TT.obj _ _ st2 b hb
    exact Heap.lt_size e
  have f3 : ∀ b ∈ fp, FpOk X pins (upd H2 s2.heap.objs.size (.dK [])) b ∧ b < (s2.heap.push { cls := .type "dict", data := .dict #[] }).objs.size := fun b hb =>
    ⟨⟨by rw [upd_ne (Nat.ne_of_lt (low b hb))]; exact (f2 b hb).1, (f2 b hb).2⟩, by rw [Heap.size_push]; exact Nat.lt_succ_of_lt (low b hb)⟩
  have I4 := block_start I3 ok hN f3
  have st4 : tn 0 (pushCells ((s2.heap.push { cls := .type "dict", data := .dict #[] }).push { cls := .type "dict", data := .dict #[] }) scope.names) :=
    TT.keep _ _ _ st2 fun b _ o e => pushCells_keeps _ _ _ _ (Heap.get?_push_of_some _ (Heap.get?_push_of_some _ e))
  refine codeAny_compStart_dict ?_ (TT.self X.A 0 _ _ _ st4 ?_)
  all_goals
    refine dcn_loop (B := X.blk { s2 with heap := s2.heap.push { cls := .type "dict", data := .dict #[] } } (upd H2 s2.heap.objs.size (.dK [])) scope (compEnvC scope (cellsFrom ((s2.heap.push { cls := .type "dict", data := .dict #[] }).objs.size + 1) scope.names (cloFrom X.env.cells scope.names [])) (s2.heap.push { cls := .type "dict", data := .dict #[] }).objs.size X.env) fp)
      rfl rfl rfl rfl hc rfl rfl (hg _ _ _ _ _) (ht _ _ _ _ _) (hk _ _ _ _ _) (he _ _ _ _ _) (hp _ _ _ _ _) TT (fun {τ H' t} I' n b hb => ?_) turn (fun t G I' qq => ?_) I4 st4 (fun b hb => (f3 b hb).1.1) w0
    · exact ⟨n b hb, (I'.ok.exf b hb).1, I'.ok.exfs b hb, .inl hb, fun x c e => (I'.ok.exf b hb).2 x c e, fun p hp => absurd (show p ∈ ([] : List (Addr × Obj)) ++ [] from hp) (by simp)⟩
    · -- back in the def
      have I7 : Inv X pins σ G t := I3.call' (ch := fp) I'.os I'.base I'.hok I'.bare fun b hb => ⟨(f3 b hb).1.2.2.2.1, (f3 b hb).1.2.1, (f3 b hb).1.2.2.2.2.1, (f3 b hb).1.2.2.2.2.2⟩
      have nC : G (s2.heap.push { cls := .type "dict", data := .dict #[] }).objs.size = none := I'.free
      obtain ⟨m, hn, _⟩ := I'.loc
      obtain ⟨f0, f1, f2', f3', f4, f5⟩ := I3.fpOk (Nat.le_refl _) nC
      exact ⟨m, hn, fun h'' sb => ⟨.ref _, G, I7.turned (t' := t.toks) (fun b o hb e => (sb.2 b hb).trans e) f0 f1 f3' f4 f5, rfl, qq⟩⟩
end
end Vy

end
section
set_option maxRecDepth 100000
set_option maxHeartbeats 2000000
/-! Stores into dicts. -/
namespace Vy
open PySem PySem.Spec PyProof.Rows L2 StX
section
variable {Y : Names} {H h : Hp}
theorem putK_cons_eq {ps : List (Key × V)} {κ : Key} {v z : V} (n : κ ∉ ps.map (·.1)) : putK ((κ, v) :: ps) κ z = (κ, z) :: ps := by
  have e : ps.map (fun kv => if kv.1 = κ then (kv.1, z) else kv) = ps := by
    refine (List.map_congr_left fun p hp => ?_).trans (List.map_id ps)
    rw [if_neg fun w => n (by rw [← w]; exact List.mem_map_of_mem hp)]
    rfl
  unfold putK
  rw [if_pos (by simp), List.map_cons, if_pos rfl, e]
theorem putK_cons_ne {ps : List (Key × V)} {κ μ : Key} {v z : V} (n : ¬ μ = κ) : putK ((μ, v) :: ps) κ z = (μ, v) :: putK ps κ z := by
  unfold putK
  rw [List.any_cons, decide_eq_false n, Bool.false_or]
  split
  · rw [List.map_cons, if_neg n]
  · rfl
def dputL (kvs : List (IV × SV)) (k : IV) (w : SV) : List (IV × SV) := match dhas kvs k with
  | true => drep kvs k w
  | false => kvs ++ [(k, w)]
theorem dputL_eq {kvs : List (IV × SV)} {k k0 : IV} {w w0 : SV} (e : ieq k0 k = true) : dputL ((k0, w0) :: kvs) k w = (k0, w) :: kvs := by
  unfold dputL
  rw [dhas, e]
  dsimp only
  rw [drep, e]
theorem dputL_ne {kvs : List (IV × SV)} {k k0 : IV} {w w0 : SV} (e : ieq k0 k = false) : dputL ((k0, w0) :: kvs) k w = (k0, w0) :: dputL kvs k w := by
  unfold dputL
  rw [dhas, e]
  dsimp only
  cases dhas kvs k with
  | true => dsimp only; rw [drep, e]
  | false => rfl
theorem dput_L {kvs kvs' : List (IV × SV)} {k : IV} {w : SV} (e : dput kvs k w = some kvs') : kindOk (kvs.map (·.1)) k = true ∧ kvs' = dputL kvs k w := by
  unfold dput at e
  unfold dputL
  cases q : kindOk (kvs.map (·.1)) k with
  | false => rw [q] at e; cases e
  | true =>
    rw [q] at e
    dsimp only at e
    cases q2 : dhas kvs k with
    | true => rw [q2] at e; cases e; exact ⟨rfl, rfl⟩
    | false => rw [q2] at e; cases e; exact ⟨rfl, rfl⟩
theorem RSD.put {k : IV} {κ : Key} {w : SV} {z : V} {Ar : List Addr} (ek : keyOf k = some κ) (rw_ : RS Y H h w z Ar) (n2 : Ar.Nodup) : ∀ {kvs : List (IV × SV)} {ps : List (Key × V)} {A : List Addr}, RSD Y H h kvs ps A → (ps.map (·.1)).Nodup → A.Nodup → (∀ a ∈ Ar, a ∉ A) →
    ∃ A', RSD Y H h (dputL kvs k w) (putK ps κ z) A' ∧ (∀ a ∈ A', a ∈ A ∨ a ∈ Ar) ∧ A'.Nodup
  | [], ps, A, r, _, _, _ => by
    obtain ⟨e1, e2⟩ := r
    subst e1 e2
    exact ⟨Ar, ⟨κ, z, [], Ar, [], rfl, by simp, ek, rw_, rfl, rfl⟩, fun _ z => .inr z, n2⟩
  | (k0, w0) :: kvs, _, _, ⟨κ0, v0, pr, B, C, e, eA, e0, r0, r⟩, nk, nA, dj => by
    subst e eA
    obtain ⟨m1, m2, m3⟩ := List.nodup_append.mp nA
    have nk := List.nodup_cons.mp (show (κ0 :: pr.map (·.1)).Nodup from nk)
    have q := keyOf_ieq e0 ek
    by_cases z1 : κ0 = κ
    · rw [decide_eq_true z1] at q
      subst z1
      rw [dputL_eq q, putK_cons_eq nk.1]
      refine ⟨Ar ++ C, ⟨κ0, z, pr, Ar, C, rfl, rfl, e0, rw_, r⟩, fun a ha => ?_, List.nodup_append.mpr ⟨n2, m2, fun a ha b hb e => dj a ha (by rw [e]; exact List.mem_append_right _ hb)⟩⟩
      rcases List.mem_append.mp ha with y | y
      · exact .inr y
      · exact .inl (List.mem_append_right _ y)
    · rw [decide_eq_false z1] at q
      rw [dputL_ne q, putK_cons_ne z1]
      obtain ⟨A', r', s', nd'⟩ := RSD.put ek rw_ n2 r nk.2 m2 fun a ha y => dj a ha (List.mem_append_right _ y)
      refine ⟨B ++ A', ⟨κ0, v0, _, B, A', rfl, rfl, e0, r0, r'⟩, fun a ha => ?_, List.nodup_append.mpr ⟨m1, nd', fun a ha b hb e => ?_⟩⟩
      · rcases List.mem_append.mp ha with y | y
        · exact .inl (List.mem_append_left _ y)
        · exact (s' a y).imp (List.mem_append_right _) id
      · rcases s' b hb with y | y
        · exact m3 a ha b y e
        · exact dj b y (by rw [← e]; exact List.mem_append_left _ ha)
/-- rows of keys that are tuples, one more or changed -/
def putN (ps : List NRow) (κ : NestedKey) (b : Addr) (z : V) : List NRow := if (ps.any fun p => decide (p.1 = κ)) = true then ps.map (fun p => if p.1 = κ then (p.1, p.2.1, z) else p) else ps ++ [(κ, b, z)]
theorem putN_cons_eq {ps : List NRow} {κ : NestedKey} {b b' : Addr} {v z : V} (n : κ ∉ ps.map (·.1)) : putN ((κ, b', v) :: ps) κ b z = (κ, b', z) :: ps := by
  have e : ps.map (fun p => if p.1 = κ then (p.1, p.2.1, z) else p) = ps := by
    refine (List.map_congr_left fun p hp => ?_).trans (List.map_id ps)
    rw [if_neg fun w => n (by rw [← w]; exact List.mem_map_of_mem hp)]
    rfl
  unfold putN
  rw [if_pos (by simp), List.map_cons, if_pos rfl, e]
theorem putN_cons_ne {ps : List NRow} {κ μ : NestedKey} {b b' : Addr} {v z : V} (n : ¬ μ = κ) : putN ((μ, b', v) :: ps) κ b z = (μ, b', v) :: putN ps κ b z := by
  unfold putN
  rw [List.any_cons, decide_eq_false n, Bool.false_or]
  split
  · rw [List.map_cons, if_neg n]
  · rfl
theorem RST.put {k : IV} {κ : NestedKey} {b : Addr} {w : SV} {z : V} {Ar : List Addr} (ek : nkOk k κ) (rk : RF Y h k (.ref b)) (rw_ : RS Y H h w z Ar) (n2 : Ar.Nodup) : ∀ {kvs : List (IV × SV)} {ps : List NRow} {A : List Addr}, RST Y H h kvs ps A → (ps.map (·.1)).Nodup → A.Nodup → (∀ a ∈ Ar, a ∉ A) →
    ∃ A', RST Y H h (dputL kvs k w) (putN ps κ b z) A' ∧ (∀ a ∈ A', a ∈ A ∨ a ∈ Ar) ∧ A'.Nodup
  | [], ps, A, r, _, _, _ => by
    obtain ⟨e1, e2⟩ := r
    subst e1 e2
    exact ⟨Ar, ⟨κ, b, z, [], Ar, [], rfl, by simp, ek, rk, rw_, rfl, rfl⟩, fun _ z => .inr z, n2⟩
  | (k0, w0) :: kvs, _, _, ⟨κ0, b0, v0, pr, B, C, e, eA, e0, rk0, r0, r⟩, nk, nA, dj => by
    subst e eA
    obtain ⟨m1, m2, m3⟩ := List.nodup_append.mp nA
    have nk := List.nodup_cons.mp (show (κ0 :: pr.map (·.1)).Nodup from nk)
    have q := nkeyOf_ieq k0 k e0.1 ek.1
    rw [← NestedKey.decide_eq] at q
    by_cases z1 : κ0 = κ
    · rw [decide_eq_true z1] at q
      subst z1
      rw [dputL_eq q, putN_cons_eq nk.1]
      refine ⟨Ar ++ C, ⟨κ0, b0, z, pr, Ar, C, rfl, rfl, e0, rk0, rw_, r⟩, fun a ha => ?_, List.nodup_append.mpr ⟨n2, m2, fun a ha b hb e => dj a ha (by rw [e]; exact List.mem_append_right _ hb)⟩⟩
      rcases List.mem_append.mp ha with y | y
      · exact .inr y
      · exact .inl (List.mem_append_right _ y)
    · rw [decide_eq_false z1] at q
      rw [dputL_ne q, putN_cons_ne z1]
      obtain ⟨A', r', s', nd'⟩ := RST.put ek rk rw_ n2 r nk.2 m2 fun a ha y => dj a ha (List.mem_append_right _ y)
      refine ⟨B ++ A', ⟨κ0, b0, v0, _, B, A', rfl, rfl, e0, rk0, r0, r'⟩, fun a ha => ?_, List.nodup_append.mpr ⟨m1, nd', fun a ha b hb e => ?_⟩⟩
      · rcases List.mem_append.mp ha with y | y
        · exact .inl (List.mem_append_left _ y)
        · exact (s' a y).imp (List.mem_append_right _) id
      · rcases s' b hb with y | y
        · exact m3 a ha b y e
        · exact dj b y (by rw [← e]; exact List.mem_append_left _ ha)
end
end Vy

end
section
set_option maxRecDepth 100000
set_option maxHeartbeats 2000000
/-! A store into an owned dict, by values. -/
namespace Vy
open PySem PySem.Spec PyProof.Rows L2 StX
/-- an owned dict at D, what its values own -/
def DctAt (Y : Names) (H h : Hp) (D : Addr) (kvs : List (IV × SV)) (As : List Addr) : Prop := (∃ ps, H D = some (.dK ps) ∧ RSD Y H h kvs ps As) ∨ ∃ ps, H D = some (dN Y D ps) ∧ RST Y H h kvs ps As
theorem NPair.put {κ : NestedKey} {b : Addr} {z : V} {r : Value} (rz : RelV z r) : ∀ {ps : List NRow} {xs : List (NestedKey × Addr × Value)}, NPair ps xs → NPair (putN ps κ b z) (storedH xs κ b r) := by
  intro ps xs hp
  have any : (ps.any fun p => decide (p.1 = κ)) = (atKey xs κ).isSome := by
    induction hp with
    | nil => rfl
    | @cons p q ps qs h0 t ih =>
      rw [List.any_cons, ih]
      obtain ⟨h1, _, _⟩ := h0
      unfold atKey
      by_cases e : p.1 = κ
      · have e' : q.1 = κ := h1.symm.trans e
        simp [e, e']
      · have e' : ¬ q.1 = κ := fun w => e (h1.trans w)
        simp [e, e']
  unfold putN storedH
  rw [any]
  by_cases q : (atKey xs κ).isSome = true
  · rw [if_pos q, if_pos q]
    clear any q
    induction hp with
    | nil => exact .nil
    | @cons p q ps qs h0 t ih =>
      rw [List.map_cons, List.map_cons]
      refine .cons ?_ ih
      obtain ⟨h1, h2, h3⟩ := h0
      unfold putAt
      by_cases e : p.1 = κ
      · rw [if_pos e, if_pos (h1.symm.trans e)]; exact ⟨h1, h2, rz⟩
      · rw [if_neg e, if_neg fun w => e (h1.trans w)]; exact ⟨h1, h2, h3⟩
  · rw [if_neg q, if_neg q]
    clear any q
    induction hp with
    | nil => exact .cons ⟨rfl, rfl, rz⟩ .nil
    | cons h0 t ih => exact .cons h0 ih
theorem NPair.keys : ∀ {ps : List NRow} {xs : List (NestedKey × Addr × Value)}, NPair ps xs → ps.map (·.1) = xs.map (·.1) := by
  intro ps xs hp
  induction hp with
  | nil => rfl
  | cons h0 t ih => rw [List.map_cons, List.map_cons, ih, h0.1]
theorem putN_len (ps : List NRow) (κ : NestedKey) (b : Addr) (z : V) : (putN ps κ b z).length ≤ ps.length + 1 := by
  unfold putN
  split
  · rw [List.length_map]; omega
  · rw [List.length_append]; simp
section
variable {X : Cx} {Y : Names} {pins : List (Addr × Obj)} {σ : L2.St} {H h : Hp} {s : Shared} {D : Addr}
theorem dN_new {h' : Heap} {H' : Hp} {ps : List NRow} {xs : List (NestedKey × Addr × Value)} (hY : Fits Y X) (lo : (D == sysModules) = false) (z : ps.length ≤ sizeLine) (rel : NPair ps xs) (d : h'.DictOfH (nestedKind X.prog X.w) D xs) : ObjOk X.prog X.w H' h' D (dN Y D ps) := by
  obtain ⟨o, es, ep, h1, h2, h3, h4, h5, h6⟩ := d
  unfold dN
  rw [hY.P, hY.w]
  refine ⟨⟨lo, z, xs, rel, o, es, ep, h1, h2, h3, h4, h6⟩, ⟨o, h1⟩, fun g1 g2 y e => ?_⟩
  obtain ⟨lo, z, xs, rel, o, es, ep, h1, h2, h3, h4, h6⟩ := y
  exact ⟨lo, z, xs, rel, o, es, ep, e _ h1, h2, h3, h4, h6⟩
/-- the rows as they lie in the heap -/
theorem DctAt.isD (hY : Fits Y X) (I : Inv X pins σ H s) (up : Up h H) {kvs : List (IV × SV)} {As : List Addr} (d : DctAt Y H h D kvs As) : Mut (H D) ∧ (D == sysModules) = false ∧
    ((∃ ps vs, RSD Y H h kvs ps As ∧ ps.length ≤ sizeLine ∧ KV ps vs ∧ s.heap.DictOf (mixKind X.prog X.w) D vs) ∨ ∃ ps xs, RST Y H h kvs ps As ∧ ps.length ≤ sizeLine ∧ NPair ps xs ∧ s.heap.DictOfH (nestedKind X.prog X.w) D xs) := by
  rcases d with ⟨ps, e, r⟩ | ⟨ps, e, r⟩
  · obtain ⟨z, lo, vs, rel, dd⟩ := dk_of I.hok e
    exact ⟨by rw [e]; exact True.intro, lo, .inl ⟨ps, vs, r, z, rel, dd⟩⟩
  · obtain ⟨lo, z, xs, rel, o, es, ep, h1, h2, h3, h4, h5⟩ := dN_rd hY I (.inl e)
    exact ⟨by rw [e]; exact True.intro, lo, .inr ⟨ps, xs, r, z, rel, o, es, ep, h1, h2, h3, h4, RTg.all hY I up r.g rel, h5⟩⟩
theorem dct_store {A : Around} {E : Value → Shared → Prop} {Q : Unit → Shared → Prop} (hY : Fits Y X) (hu : A.units + 9 < cLine) (I : Inv X pins σ H s) (up : Up h H) {kvs : List (IV × SV)} {As Ar : List Addr} (d : DctAt Y H h D kvs As) {k : IV} (ok : kindOk (kvs.map (·.1)) k = true) (fz : fits kvs.length = true)
    {y z : V} {u r : Value} {w : SV} (rk : RF Y h k y) (ry : RelV y u) (rw_ : RS Y H h w z Ar) (rz : RelV z r) (nA : As.Nodup) (nR : Ar.Nodup) (dj : ∀ a ∈ Ar, a ∉ As) (dA : D ∉ As) (dR : D ∉ Ar)
    (q : ∀ s' ob As', Inv X pins σ (upd H D ob) s' → DctAt Y (upd H D ob) h D (dputL kvs k w) As' → (∀ a ∈ As', a ∈ As ∨ a ∈ Ar) → As'.Nodup → Q () s') :
    wpAny (model X.prog X.w) A (dictSet D u r) Q E s ∧ wpAny (model X.prog X.w) A (setItem (.ref D) u r) Q E s := by
  obtain ⟨mu, lo, d⟩ := d.isD hY I up
  have sm : ∀ {n : Nat}, n = kvs.length → n + 1 ≤ sizeLine := fun e => by
    have := Nat.le_of_ble_eq_true fz
    rw [sizeLine_eq, e]
    omega
  have keep : ∀ {ob : HO} {As' : List Addr}, (∀ a ∈ As', a ∈ As ∨ a ∈ Ar) → ∀ a ∈ As', upd H D ob a = H a := fun s' a ha => upd_ne fun e => by
    rcases s' a ha with z | z
    · exact dA (by rw [← e]; exact z)
    · exact dR (by rw [← e]; exact z)
  -- flat keys
  have flat : ∀ {ps : List (Key × V)} {vs : List (Key × Value)} {κ : Key}, keyOf k = some κ → RSD Y H h kvs ps As → KV ps vs → s.heap.DictOf (mixKind X.prog X.w) D vs →
      wpAny (model X.prog X.w) A (dictSet D u r) Q E s ∧ wpAny (model X.prog X.w) A (setItem (.ref D) u r) Q E s := fun {ps vs κ} ek rr rel dd => by
    have l1 : ps.length = kvs.length := rr.g.length
    have l2 : vs.length ≤ sizeLine := by rw [← rel.length]; have := sm l1; omega
    have nk : (ps.map (·.1)).Nodup := by
      obtain ⟨_, _, _, _, _, _, _, _, nd⟩ := dd
      rw [rel.keys]; exact nd
    rw [keyOf_kV ek rk] at ry
    obtain ⟨A', r', s', nd'⟩ := RSD.put ek rw_ nR rr nk nA dj
    have fin : ∀ h' t, h'.DictOf (mixKind X.prog X.w) D (stored vs κ r) → Heap.SameBut D s.heap h' → Q () { s with heap := h', toks := t } := fun h' t dd' hs => by
      have he : ∃ o, h'.get? D = some o := let ⟨o, _, _, ho, _⟩ := dd'; ⟨o, ho⟩
      have hl : (putK ps κ z).length ≤ sizeLine := by have := length_putK ps κ z; have := sm l1; omega
      have J := d_write (t' := t) I mu hs he (dk_new hl lo (rel.put κ rz) dd')
      exact q _ _ A' J (.inl ⟨_, upd_same, RSD.up (.refl h) _ r' (keep s')⟩) s' nd'
    exact ⟨wpAny_dictSet_pairs (hsz := l2) (kV_is ry) dd fun h' dd' hs => fin h' _ dd' hs, wpAny_setItem_pairs (hsz := l2) (kV_is ry) dd fun h' dd' hs => fin h' _ dd' hs⟩
  -- keys that are tuples
  have nest : ∀ {ps : List NRow} {xs : List (NestedKey × Addr × Value)} {κ : NestedKey}, keyT k = true → nkOk k κ → RST Y H h kvs ps As → NPair ps xs → s.heap.DictOfH (nestedKind X.prog X.w) D xs →
      wpAny (model X.prog X.w) A (dictSet D u r) Q E s ∧ wpAny (model X.prog X.w) A (setItem (.ref D) u r) Q E s := fun {ps xs κ} kt ek rr rel dd => by
    have l1 : ps.length = kvs.length := rr.g.length
    have l2 : xs.length ≤ sizeLine := by rw [← Paired.length rel]; have := sm l1; omega
    have nk : (ps.map (·.1)).Nodup := by
      obtain ⟨_, _, _, _, _, _, _, _, nd⟩ := dd
      rw [rel.keys]; exact nd
    obtain ⟨b, rfl⟩ := keyT_ref kt rk
    cases ry
    obtain ⟨A', r', s', nd'⟩ := RST.put ek rk rw_ nR rr nk nA dj
    have fin : ∀ h' t, h'.DictOfH (nestedKind X.prog X.w) D (storedH xs κ b r) → Heap.SameBut D s.heap h' → Q () { s with heap := h', toks := t } := fun h' t dd' hs => by
      have he : ∃ o, h'.get? D = some o := let ⟨o, _, _, ho, _⟩ := dd'; ⟨o, ho⟩
      have hl : (putN ps κ b z).length ≤ sizeLine := by have := putN_len ps κ b z; have := sm l1; omega
      have J := d_write (t' := t) I mu hs he (dN_new hY lo hl (rel.put rz) dd')
      exact q _ _ A' J (.inr ⟨_, upd_same, RST.up (.refl h) _ r' (keep s')⟩) s' nd'
    have is_ := nkOk.is hY I up ek rk
    exact ⟨wpAny_dictSet_heap (hsz := l2) (show A.units + 8 < cLine by omega) is_ dd fun h' dd' hs => fin h' _ dd' hs,
      wpAny_setItem_heap (hsz := l2) (show A.in1.units + 8 < cLine by rw [Around.in1_units]; omega) is_ dd fun h' dd' hs => fin h' _ dd' hs⟩
  have kb := kindOk_key ok
  cases kvs with
  | nil =>
    cases t : keyT k with
    | true =>
      obtain ⟨κ, ek⟩ := keyB_t kb t
      rcases d with ⟨ps, vs, rr, _, rel, dd⟩ | ⟨ps, xs, rr, _, rel, dd⟩
      · obtain ⟨e1, e2⟩ := rr
        subst e1 e2
        cases rel
        exact nest t ek (ps := []) ⟨rfl, rfl⟩ .nil (dk_nil_dn dd)
      · exact nest t ek rr rel dd
    | false =>
      obtain ⟨κ, ek⟩ := keyB_f kb t
      rcases d with ⟨ps, vs, rr, _, rel, dd⟩ | ⟨ps, xs, rr, _, rel, dd⟩
      · exact flat ek rr rel dd
      · obtain ⟨e1, e2⟩ := rr
        subst e1 e2
        cases rel
        exact flat ek (ps := []) ⟨rfl, rfl⟩ .nil (dn_nil_dk dd)
  | cons p0 kr =>
    obtain ⟨k0, w0⟩ := p0
    obtain ⟨_, ok2⟩ := bAnd (show (keyB k && (keyT k0 == keyT k)) = true from ok)
    have ok2 := eq_of_beq ok2
    rcases d with ⟨ps, vs, rr, _, rel, dd⟩ | ⟨ps, xs, rr, _, rel, dd⟩
    · obtain ⟨κ0, _, _, _, _, _, _, e0, _, _⟩ := id rr
      rw [keyOf_keyT e0] at ok2
      obtain ⟨κ, ek⟩ := keyB_f kb ok2.symm
      exact flat ek rr rel dd
    · obtain ⟨κ0, b0, _, _, _, _, _, _, e0, rk0, _, _⟩ := id rr
      rw [nkey_ref_keyT e0.1 rk0] at ok2
      obtain ⟨κ, ek⟩ := keyB_t kb ok2.symm
      exact nest ok2.symm ek rr rel dd
end
end Vy

end
section
set_option maxRecDepth 100000
set_option maxHeartbeats 2000000
/-! Dict comprehensions. -/
namespace Vy
open PySem PySem.Spec PyProof.Rows L2 StX
/-- a store into an owned dict -/
def tP (Y : Names) : TPut := fun D y z H N => ∃ h kvs As Ar k w, Up h H ∧ DctAt Y H h D kvs As ∧ kindOk (kvs.map (·.1)) k = true ∧ fits kvs.length = true ∧ RF Y h k y ∧ RS Y H h w z Ar ∧ As.Nodup ∧ Ar.Nodup ∧ (∀ a ∈ Ar, a ∉ As) ∧ D ∉ As ∧ D ∉ Ar ∧
  ∀ ob As', DctAt Y (upd H D ob) h D (dputL kvs k w) As' → (∀ a ∈ As', a ∈ As ∨ a ∈ Ar) → As'.Nodup → N (upd H D ob)
theorem putR_tP {Y : Names} {A : Around} {B : Cx} (hY : Fits Y B) (hu : A.units + 9 < cLine) : PutR B.prog B.w A B (tP Y) := fun pins s τ H D y z u r N E I ry rz ⟨h, kvs, As, Ar, k, w, up, d, ok, fz, rk, rw_, nA, nR, dj, dA, dR, q⟩ =>
  (dct_store hY hu I up d ok fz rk ry rw_ rz nA nR dj dA dR fun s' ob As' I' d' sb nd => ⟨_, I', q ob As' d' sb nd⟩).1
theorem DctAt.up {Y : Names} {H H' h h' : Hp} (u : Up h h') {D : Addr} {kvs : List (IV × SV)} {As : List Addr} (d : DctAt Y H h D kvs As) (k : ∀ a ∈ D :: As, H' a = H a) : DctAt Y H' h' D kvs As :=
  d.imp (fun ⟨ps, q, r⟩ => ⟨ps, (k D List.mem_cons_self).trans q, RSD.up u kvs r fun b hb => k b (List.mem_cons_of_mem _ hb)⟩) fun ⟨ps, q, r⟩ => ⟨ps, (k D List.mem_cons_self).trans q, RST.up u kvs r fun b hb => k b (List.mem_cons_of_mem _ hb)⟩
theorem DctAt.dom {Y : Names} {H h : Hp} {D : Addr} {kvs : List (IV × SV)} {As : List Addr} (d : DctAt Y H h D kvs As) : ∀ a ∈ As, H a ≠ none := fun a ha => by
  rcases d with ⟨ps, _, r⟩ | ⟨ps, _, r⟩
  · exact RSD.dom _ r a ha
  · exact RST.dom _ r a ha
/-- what only we have is written -/
theorem Bs.write {Y : Names} {H h : Hp} {F : Fp} {D : Addr} {A : List Addr} {σ : L2.St} {e : Env} (b : Bs Y H h F (D :: A)) (S : St Y H h σ e F) (ob : HO) : Up h (upd H D ob) ∧ St Y (upd H D ob) h σ e F ∧
    ∀ {H1 h1 : Hp} {F1 : Fp}, Go H1 h1 F1 H h F → (H1 D = none ∨ ∃ j, D ∈ F1 j) → Go H1 h1 F1 (upd H D ob) h F := by
  have hDh : h D = none := b.hd D List.mem_cons_self
  have same : ∀ a, a ≠ D → upd H D ob a = H a := fun a n => upd_ne n
  have up6 : Up h (upd H D ob) := by
    have n1 : ∀ a, h a ≠ none → a ≠ D := fun a z e => by rw [e] at z; exact z hDh
    refine ⟨fun a u p r => ?_, fun a => ⟨fun C' dx ps e => ?_, fun x e => ?_⟩, fun a z => ?_⟩
    · have n2 : a ≠ D := n1 a (by rcases r with r | ⟨_, r⟩ <;> (rw [r]; exact fun w => nomatch w))
      unfold Rd
      rw [same a n2]
      exact S.le.le a u p r
    · rw [same a (n1 a (by rw [e]; exact fun w => nomatch w))]
      exact (S.le.ins a).1 _ _ _ e
    · rw [same a (n1 a (by rw [e]; exact fun w => nomatch w))]
      exact (S.le.ins a).2 _ e
    · rw [same a (n1 a z)]
      exact S.le.dom a z
  refine ⟨up6, ⟨S.len, fun j s hs => ?_, S.out, S.nd, S.dj, S.hd, up6⟩, fun {H1 h1 F1} gg nf => ⟨fun a u e n => ?_, gg.up, gg.nh, gg.nf⟩⟩
  · rcases S.rel j s hs with w | ⟨x1, w1, w2⟩
    · exact .inl w
    · exact .inr ⟨x1, w1, RS.up (.refl h) s w2 fun a ha => same a fun e => b.dj D List.mem_cons_self j (by rw [← e]; exact ha)⟩
  · have nD : a ≠ D := fun z => by
      rcases nf with w | ⟨j, w⟩
      · rw [z, w] at e; cases e
      · exact n j (by rw [z]; exact w)
    rw [same a nD]
    exact gg.keep a u e n
/-- what was ours before, or nobody's -/
theorem Go.nfs {H1 h1 H h : Hp} {F1 F : Fp} (g : Go H1 h1 F1 H h F) {a : Addr} (o : H a = none ∨ ∃ j, a ∈ F j) : H1 a = none ∨ ∃ j, a ∈ F1 j := by
  rcases o with w | ⟨j, w⟩
  · by_cases k : ∃ j, a ∈ F1 j
    · exact .inr k
    · cases q : H1 a with
      | none => exact .inl rfl
      | some u =>
        obtain ⟨o', eo⟩ := (g.keep a u q fun j y => k ⟨j, y⟩).some
        rw [eo] at w
        cases w
  · exact g.nf a j w
section
variable {R : Fr} {X : Cx} {T : Tab} {C : Callee} {H h H1 h1 : Hp} {σ : L2.St} {e : Env} {F F1 : Fp} {Q : VK}
/-- what is left to do of a dict comprehension, and what is done -/
def DcW (R : Fr) (H1 h1 : Hp) (F1 : Fp) (σ : L2.St) (t : Tg) (own : List Nat) (ok : BDen) (dk d : Den) (xs : List IV) (Q : VK) (D : Addr) : Nat → Nat → Hp → Prop := fun i m H' => m = xs.length - i ∧ ∃ e' h' F' acc As,
  Go H1 h1 F1 H' h' F' ∧ St R.Y H' h' (L2.wipe σ own) e' F' ∧ DctAt R.Y H' h' D acc As ∧ Bs R.Y H' h' F' (D :: As) ∧ (∀ a ∈ D :: As, H1 a = none ∨ ∃ j, a ∈ F1 j) ∧
  wpR (compD t own ok dk d (xs.drop i) acc e') (fun ys e2 => OKs R H1 h1 F1 σ Q (.od ys) e2) (EXx R H1 h1 F1 σ)
theorem tDc_of {own : List Nat} {t : Tg} {it : IDen} {os : List ODen} {dk d : Den} (q : tE R (dDc T C dk d t it os own) σ H Q) : tDcN (tI R it) (tG R.quiet (kOwn own) t) (tT R.quiet (tAll T C os)) (tE R.quiet dk) (tE R.quiet d) (tP R.Y) own σ H Q := by
  obtain ⟨e, h, F, S, w⟩ := q
  refine ⟨e, h, F, S, wpR_mono (wpR_bind.mp w) (fun xs e1 w1 => ?_) fun _ _ _ q => q⟩
  intro J H1 h1 F1 g1 S1 jo D hD
  obtain ⟨Fw, Sw, gw, sw⟩ := S1.wipe own
  have hdD : h1 D = none := S1.le.fresh hD
  -- with the new dict
  obtain ⟨S2, g2⟩ := Sw.more (H' := upd H1 D (.dK [])) (h' := h1) (.new hD) (.refl _) (S1.le.trans (Sub.new hD).up) fun _ z => .inl z
  refine ⟨DcW R H1 h1 F1 σ t own (tAll T C os) dk d xs Q D, ⟨xs.length, rfl, Vy.wipe own e1, h1, Fw, [], [], gw.trans g2, S2, .inl ⟨[], upd_same, rfl, rfl⟩, ⟨by simp, fun a ha => ?_, fun a ha i z => ?_, fun a ha => ?_⟩, fun a ha => ?_, ?_⟩, fun i m H' hW => ?_⟩
  · rw [List.mem_singleton.mp ha]; exact hdD
  · rw [List.mem_singleton.mp ha] at z
    exact S1.dom (sw i D z) hD
  · rw [List.mem_singleton.mp ha, upd_same]; exact fun w => nomatch w
  · rw [List.mem_singleton.mp ha]; exact .inl hD
  · refine wpR_mono (wpR_bind.mp w1) (fun ys e2 q => ?_) fun _ _ _ q => q.go g1
    exact OKs.go g1 q
  obtain ⟨hm, e', h', F', acc, As, g', S', da, bs, nf, w'⟩ := hW
  obtain ⟨j0, j1⟩ := jo i H' h' F' g' S'.le
  cases hx : xs[i]? with
  | none =>
    have hl := List.getElem?_eq_none_iff.mp hx
    rw [List.drop_eq_nil_of_le hl] at w'
    refine .inl ⟨j0 hx, ?_⟩
    exact w' (.ref D) (D :: As) H' h' F' g' (S1.unwipe S') ⟨D, As, rfl, rfl, da⟩ ⟨bs.nd, bs.hd, bs.dj, nf⟩
  | some v =>
    obtain ⟨hl, _⟩ := List.getElem?_eq_some_iff.mp hx
    have ed : xs.drop i = v :: xs.drop (i + 1) := by
      rw [List.drop_eq_getElem_cons hl]
      congr 1
    rw [ed] at w'
    obtain ⟨jg, jy⟩ := j1 v hx
    refine .inr ⟨jg, fun H2 => DcW R H1 h1 F1 σ t own (tAll T C os) dk d xs Q D (i + 1) (xs.length - (i + 1)) H2, fun H2 hN => ⟨xs.length - (i + 1), by omega, hN⟩, fun x H2 hy => ?_⟩
    obtain ⟨h2, sH, sh, u2, nn, rx⟩ := jy x H2 hy
    obtain ⟨S2, g2⟩ := S'.more sH sh u2 nn
    unfold compD at w'
    cases eb : bindT 20 t v e' with
    | none => rw [eb] at w'; exact w'.elim
    | some e3 =>
      rw [eb] at w'
      refine ⟨e', h2, F', 20, v, e3, S2, rx, eb, fun σ3 H3 h3 F3 g3 S3 k3 => ⟨by rw [show L2.wipe σ3 own = L2.wipe (L2.wipe σ own) own from k3, wipe_wipe], ?_⟩⟩
      have kw : L2.wipe σ3 own = L2.wipe σ own := by rw [show L2.wipe σ3 own = L2.wipe (L2.wipe σ own) own from k3, wipe_wipe]
      refine ⟨e3, h3, F3, S3, wp_noX (E' := EXx R.quiet H3 h3 F3 σ3) (wpR_mono (wpR_bind.mp w') (fun b e4 w4 => ?_) fun _ _ _ q => q)⟩
      intro H4 h4 F4 g4 S4
      have gA := ((g2.trans g3).trans g4)
      -- one turn's end
      have turn : ∀ {H5 h5 : Hp} {F5 : Fp} {e5 : Env} {acc' : List (IV × SV)} {As' : List Addr}, Go H1 h1 F1 H5 h5 F5 → St R.Y H5 h5 σ3 e5 F5 → DctAt R.Y H5 h5 D acc' As' → Bs R.Y H5 h5 F5 (D :: As') → (∀ a ∈ D :: As', H1 a = none ∨ ∃ j, a ∈ F1 j) →
          wpR (compD t own (tAll T C os) dk d (xs.drop (i + 1)) acc' (Vy.wipe own e5)) (fun ys e2 => OKs R H1 h1 F1 σ Q (.od ys) e2) (EXx R H1 h1 F1 σ) → DcW R H1 h1 F1 σ t own (tAll T C os) dk d xs Q D (i + 1) (xs.length - (i + 1)) H5 := fun {H5 h5 F5 e5 acc' As'} g5 S5 d5 b5 n5 w5 => by
        obtain ⟨F6, S6, g6, s6⟩ := S5.wipe own
        rw [kw] at S6
        exact ⟨rfl, _, h5, F6, acc', As', g5.trans g6, S6, d5, ⟨b5.nd, b5.hd, fun a ha j z => b5.dj a ha j (s6 j a z), b5.dm⟩, n5, w5⟩
      obtain ⟨b4, same4⟩ := bs.go gA
      have d4 := da.up gA.up same4
      cases b with
      | false =>
        rw [if_neg Bool.false_ne_true]
        exact turn (g'.trans gA) S4 d4 b4 nf w4
      | true =>
        rw [if_pos rfl]
        have wk := wp_noX (E' := EXx R.quiet H4 h4 F4 σ3) (wpR_bind.mp w4)
        refine ⟨e4, h4, F4, S4, wpR_mono (wpR_bind.mp (show wpR ((dk e4).bind fun r e => .ok r.frz e) _ _ from wk)) (fun ky e5 w5 => ?_) fun _ _ _ q => q⟩
        intro y Ak H5 h5 F5 g5 S5 rk ok_
        obtain ⟨S5, gg5, rk⟩ := S5.letRes rk ok_ (fun _ _ => .inr True.intro)
        have g5 := gg5 g5
        obtain ⟨b5, same5⟩ := b4.go g5
        have d5 := d4.up g5.up same5
        refine ⟨e5, _, F5, S5, wp_noX (E' := EXx R.quiet H5 (hidA H5 h5 Ak) F5 σ3) (wpR_mono (wpR_bind.mp w5) (fun r e6 w6 => ?_) fun _ _ _ q => q)⟩
        intro z A H6 h6 F6 g6 S6 rs o
        obtain ⟨b6, same6⟩ := b5.go g6
        have d6 := d5.up g6.up same6
        have rk6 := RF.up g6.up _ rk
        cases fz : fits acc.length with
        | false => rw [fz] at w6; exact w6.elim
        | true =>
          rw [fz] at w6
          cases dp : dput acc ky.frz r with
          | none => rw [dp] at w6; exact w6.elim
          | some acc' =>
            rw [dp] at w6
            obtain ⟨kok, ea⟩ := dput_L dp
            subst ea
            have dA : ∀ a ∈ A, a ∉ D :: As := fun a ha za => by
              rcases o.nf a ha with w | ⟨j, w⟩
              · exact b5.dm a za w
              · exact b5.dj a za j w
            have nn := List.nodup_cons.mp b6.nd
            refine ⟨h6, acc, As, A, ky.frz, r, S6.le, d6, kok, fz, rk6, rs, nn.2, o.nd, fun a ha q => dA a ha (List.mem_cons_of_mem _ q), nn.1, fun q => dA D q List.mem_cons_self, fun ob As' d7 sb nd7 => ?_⟩
            obtain ⟨up7, S7, gw7⟩ := b6.write S6 ob
            have gg := ((g'.trans gA).trans g5).trans g6
            have dj' : ∀ a ∈ As', a ≠ D := fun a ha e => by
              rcases sb a ha with q | q
              · exact nn.1 (by rw [← e]; exact q)
              · exact dA a q (by rw [e]; exact List.mem_cons_self)
            refine turn (gw7 gg (nf D List.mem_cons_self)) S7 d7 ⟨List.nodup_cons.mpr ⟨fun q => dj' D q rfl, nd7⟩, fun a ha => ?_, fun a ha j q => ?_, fun a ha => ?_⟩ (fun a ha => ?_) w6
            · rcases List.mem_cons.mp ha with q | q
              · rw [q]; exact b6.hd D List.mem_cons_self
              · rcases sb a q with q | q
                · exact b6.hd a (List.mem_cons_of_mem _ q)
                · exact o.hd a q
            · rcases List.mem_cons.mp ha with y | y
              · rw [y] at q; exact b6.dj D List.mem_cons_self j q
              · rcases sb a y with y | y
                · exact b6.dj a (List.mem_cons_of_mem _ y) j q
                · exact o.dj a y j q
            · rcases List.mem_cons.mp ha with y | y
              · rw [y, upd_same]; exact fun w => nomatch w
              · rw [upd_ne (dj' a y)]
                rcases sb a y with y | y
                · exact b6.dm a (List.mem_cons_of_mem _ y)
                · exact RS.dom _ rs a y
            · rcases List.mem_cons.mp ha with y | y
              · rw [y]; exact nf D List.mem_cons_self
              · rcases sb a y with y | y
                · exact nf a (List.mem_cons_of_mem _ y)
                · exact ((g'.trans gA).trans g5).nfs (o.nf a y)
/-- {k: e for t in it if ..} -/
theorem vdc {kx elt tg iter : Expr} {ifs : List Expr} {scope : Scope} {own : List (Str × Nat)} {ownN : List Nat} {pos : Pos} {t : Tg} {it : IDen} {os : List ODen} {dk d : Den} (hY : Fits R.Y X) (hu : X.A.units + 9 < cLine) (hc : X.calm = true) (hN : X.N.Nodup) (ok : BlkOk X.N X.env.scope scope own) (ho : own.map (·.2) = ownN) (hi : PI X tg iter (tI R it))
    (hg : ∀ (s : Shared) (H : Hp) (C : Addr) (cl : List (Str × Addr)) (fp : List Addr), PG (X.blk s H scope (compEnvC scope cl C X.env) fp) tg (tG R.quiet (kOwn ownN) t))
    (ht : ∀ (s : Shared) (H : Hp) (C' : Addr) (cl : List (Str × Addr)) (fp : List Addr), PTs (X.blk s H scope (compEnvC scope cl C' X.env) fp) ifs (tT R.quiet (tAll T C os)))
    (hk : ∀ (s : Shared) (H : Hp) (C : Addr) (cl : List (Str × Addr)) (fp : List Addr), PE (X.blk s H scope (compEnvC scope cl C X.env) fp) kx (tE R.quiet dk))
    (he : ∀ (s : Shared) (H : Hp) (C : Addr) (cl : List (Str × Addr)) (fp : List Addr), PE (X.blk s H scope (compEnvC scope cl C X.env) fp) elt (tE R.quiet d)) (hs : ∀ x, foldedSetIterable iter X.env x = pure x := by intro _; rfl) :
    PE X (.DictComp kx elt [⟨tg, iter, ifs, 0⟩] scope pos) (tE R (dDc T C dk d t it os ownN)) := by
  subst ho
  exact pe_weak (pe_dcn (pt := tP R.Y) hc hN hi ok hg ht hk he (fun s H C cl fp => putR_tP (B := X.blk s H scope (compEnvC scope cl C X.env) fp) ⟨hY.K, hY.P, hY.w, hY.inj⟩ hu) hs) fun σ H Q q => tDc_of q
end
end Vy

end
section
set_option maxRecDepth 100000
set_option maxHeartbeats 2000000
/-! sorted. -/
namespace Vy
open PySem PySem.Spec PySem.Calls PyProof.Rows L2 StX
mutual
theorem alk_alike : ∀ (n : Nat) (a b : IV), alkN n a b = true → PySem.W.alike (encV a) (encV b) = true
  | 0, _, _, h => by rw [alkN] at h; cases h
  | n + 1, a, b, h => by
    cases a with
    | int i =>
      cases b with
      | int j => simp [encV, PySem.W.alike]
      | _ => simp [alkN] at h
    | str i =>
      cases b with
      | str j => simp [encV, PySem.W.alike]
      | _ => simp [alkN] at h
    | tup xs =>
      cases b with
      | tup ys => rw [encV, encV, PySem.W.alike]; exact alkL_alike n xs ys (by simpa only [alkN] using h)
      | _ => simp [alkN] at h
    | _ => simp [alkN] at h
theorem alkL_alike : ∀ (n : Nat) (a b : List IV), alkL n a b = true → PySem.W.alikeAll (encL a) (encL b) = true
  | _, [], _, _ => by rw [encL, PySem.W.alikeAll]
  | _, _ :: _, [], _ => by rw [encL, encL, PySem.W.alikeAll]
  | n, x :: xs, y :: ys, h => by
    rw [alkL] at h
    obtain ⟨h1, h2⟩ := bAnd h
    rw [encL, encL, PySem.W.alikeAll, alk_alike n x y h1, alkL_alike n xs ys h2]
    rfl
end
mutual
theorem alk_depth : ∀ (n : Nat) (a : IV), alkN n a a = true → (encV a).depth ≤ n
  | 0, _, h => by rw [alkN] at h; cases h
  | n + 1, a, h => by
    cases a with
    | int i => rw [encV, PyData.depth]; omega
    | str i => rw [encV, PyData.depth]; omega
    | tup xs => rw [encV, PyData.depth]; have := alkL_depth n xs (by simpa only [alkN] using h); omega
    | _ => simp [alkN] at h
theorem alkL_depth : ∀ (n : Nat) (a : List IV), alkL n a a = true → PyData.depthAll (encL a) ≤ n
  | _, [], _ => by rw [encL, PyData.depthAll]; omega
  | n, x :: xs, h => by
    rw [alkL] at h
    obtain ⟨h1, h2⟩ := bAnd h
    rw [encL, PyData.depthAll]
    have := alk_depth n x h1
    have := alkL_depth n xs h2
    omega
end
section
variable {X : Cx} {Y : Names} {pins : List (Addr × Obj)} {σ : L2.St} {H h : Hp} {s : Shared}
mutual
theorem RF.enc (hY : Fits Y X) (I : Inv X pins σ H s) (up : Up h H) : ∀ (n : Nat) (v : IV) {x : V} {u : Value}, alkN n v v = true → RF Y h v x → RelV x u → Reads s.heap u (encV v) []
  | 0, _, _, _, k, _, _ => by rw [alkN] at k; cases k
  | n + 1, v, x, u, k, r, q => by
    cases v with
    | int i =>
      rw [show _ = V.int i from r] at q
      obtain ⟨t, rfl⟩ := q
      rw [encV]; exact .int _ _
    | str i =>
      rw [show _ = V.str (strOf i) from r] at q
      obtain ⟨t, rfl⟩ := q
      rw [encV]; exact .str _ _
    | tup xs =>
      obtain ⟨a, vs, ex, st, r⟩ := r
      subst ex
      cases q
      have st := up.le.sqT st
      rw [hY.K] at st
      obtain ⟨its, rv, ⟨o, e1, e2, m, e3⟩, _⟩ := I.tuple st
      have ra := RFL.enc hY I up n xs (by simpa only [alkN] using k) r rv
      rw [encV]
      exact .tuple e1 e2 e3 (by simpa using ra)
    | _ => simp [alkN] at k
theorem RFL.enc (hY : Fits Y X) (I : Inv X pins σ H s) (up : Up h H) : ∀ (n : Nat) (v : List IV) {x : List V} {u : List Value}, alkL n v v = true → RFL Y h v x → Vals x u → ReadsAll s.heap u (encL v) []
  | _, [], _, _, _, r, q => by
    rw [show _ = [] from r] at q
    cases q
    rw [encL]; exact .nil
  | n, x :: xs, _, _, k, ⟨v, vr, ex, r1, r⟩, q => by
    rw [alkL] at k
    obtain ⟨k1, k2⟩ := bAnd k
    subst ex
    cases q with
    | cons q1 q2 =>
      have h1 := RF.enc hY I up n x k1 r1 q1
      have h2 := RFL.enc hY I up n xs k2 r q2
      rw [encL]; exact .cons h1 h2
end
/-- what a value stands for -/
def SvR (Y : Names) (h : Hp) (u : Value) (v : IV) : Prop := ∃ x, RF Y h v x ∧ RelV x u
theorem svr_each {vs : List IV} {xs : List V} {us : List Value} (r : RFL Y h vs xs) (q : Vals xs us) : PySem.W.EachIs (SvR Y h) us vs := by
  induction vs generalizing xs us with
  | nil => rw [show xs = [] from r] at q; cases q; exact .nil
  | cons v vs ih =>
    obtain ⟨x, xr, ex, r1, r2⟩ := r
    subst ex
    cases q with
    | cons q1 q2 => exact .cons ⟨x, r1, q1⟩ (ih r2 q2)
theorem each_svr {vs : List IV} {us : List Value} (e : PySem.W.EachIs (SvR Y h) us vs) : ∃ xs, RFL Y h vs xs ∧ Vals xs us := by
  induction e with
  | nil => exact ⟨[], rfl, .nil⟩
  | cons h0 t ih =>
    obtain ⟨x, r, q⟩ := h0
    obtain ⟨xs, rs, qs⟩ := ih
    exact ⟨x :: xs, ⟨x, xs, rfl, r, rs⟩, .cons q qs⟩
theorem srtOk_all {vs : List IV} (k : srtOk vs = true) : (∀ a ∈ vs, ∀ b ∈ vs, alkN 9 a b = true) ∧ PySem.W.AllAlike (vs.map encV) ∧ PySem.W.Sortable (vs.map encV) := by
  obtain ⟨k1, k2⟩ := bAnd k
  have al : ∀ a ∈ vs, ∀ b ∈ vs, alkN 9 a b = true := fun a ha b hb => List.all_eq_true.mp (List.all_eq_true.mp k1 a ha) b hb
  refine ⟨al, fun d hd d' hd' => ?_, ?_⟩
  · obtain ⟨a, ha, rfl⟩ := List.mem_map.mp hd
    obtain ⟨b, hb, rfl⟩ := List.mem_map.mp hd'
    exact alk_alike 9 a b (al a ha b hb)
  · cases q : vs.all tupNe with
    | true =>
      refine .inl fun d hd => ?_
      obtain ⟨a, ha, rfl⟩ := List.mem_map.mp hd
      have := List.all_eq_true.mp q a ha
      cases a with
      | tup xs =>
        cases xs with
        | nil => cases this
        | cons y ys => exact ⟨encV y, encL ys, by rw [encV, encL]⟩
      | _ => cases this
    | false =>
      rw [q] at k2
      refine .inr fun d hd => ?_
      obtain ⟨a, ha, rfl⟩ := List.mem_map.mp hd
      have := List.all_eq_true.mp (show vs.all atomB = true from k2) a ha
      cases a with
      | int i => rw [encV]; exact ⟨(nomatch ·), fun _ => (nomatch ·)⟩
      | str i => rw [encV]; exact ⟨(nomatch ·), fun _ => (nomatch ·)⟩
      | _ => cases this
end
end Vy

end
section
set_option maxRecDepth 100000
set_option maxHeartbeats 2000000
/-! A dict's keys, in order; sorted of lists and dicts. -/
namespace Vy
open PySem PySem.Spec PySem.Calls PyProof.Rows L2 StX
section
variable {α : Type} {P : α → V → Prop} {X : Cx} {Y : Names} {pins : List (Addr × Obj)} {σ : L2.St} {H h : Hp} {s : Shared} {a : Addr}
theorem keyOf_svr {k : IV} {κ : Key} {u : Value} (e : keyOf k = some κ) (q : keyIs κ u = true) : SvR Y h u k := by
  rcases keyIs_shape q with ⟨i, t, rfl, rfl⟩ | ⟨x, t, rfl, rfl⟩
  all_goals cases k <;> simp only [keyOf, Option.some.injEq, reduceCtorEq] at e <;> cases e
  · exact ⟨.int i, rfl, t, rfl⟩
  · exact ⟨.str _, rfl, t, rfl⟩
theorem flat_keys : ∀ {kvs : List (IV × α)} {ps : List (Key × V)} {vs : List (Key × Value)} {es : List DictEntry}, RDg P kvs ps → KV ps vs → Pairs (mixKind X.prog X.w) es vs → PySem.W.EachIs (SvR Y h) (es.map (·.key)) (kvs.map (·.1))
  | [], ps, vs, es, r, kv, pr => by
    rw [show ps = [] from r] at kv
    cases kv
    cases pr
    exact .nil
  | (k, x) :: xs, _, vs, es, ⟨κ, v, p2, e, ek, _, r⟩, kv, pr => by
    subst e
    cases kv with
    | cons q1 q2 =>
      cases pr with
      | cons p1 _ p3 =>
        obtain ⟨e1, _⟩ := q1
        rw [← e1] at p1
        exact .cons (keyOf_svr ek p1) (flat_keys r q2 p3)
theorem nest_keys : ∀ {kvs : List (IV × α)} {ps : List NRow} {xs : List (NestedKey × Addr × Value)}, RTg Y h P kvs ps → NPair ps xs → PySem.W.EachIs (SvR Y h) ((xs.map (entryOfKey (nestedKind X.prog X.w))).map (·.key)) (kvs.map (·.1))
  | [], ps, xs, r, kv => by
    rw [show ps = [] from r] at kv
    cases kv
    exact .nil
  | (k, x) :: xs, _, vs, ⟨κ, b, v, p2, e, ek, rk, _, r⟩, kv => by
    subst e
    cases kv with
    | cons q1 q2 =>
      obtain ⟨_, e2, _⟩ := q1
      exact .cons ⟨.ref b, rk, show RelV (.ref b) (.ref _) from by rw [← e2]; rfl⟩ (nest_keys r q2)
/-- the dict as it lies, and what its keys stand for -/
def KeysAt (Y : Names) (h : Hp) (s : Shared) (a : Addr) (ks : List IV) : Prop := (a == sysModules) = false ∧ ks.length ≤ sizeLine ∧ ∃ o es ep, s.heap.get? a = some o ∧ o.ExactDict ∧ o.data = .dict es ep ∧ PySem.W.EachIs (SvR Y h) (es.toList.map (·.key)) ks
theorem IsDK.keysV {kvs : List (IV × α)} (d : IsDK P X Y h s a kvs) : KeysAt Y h s a (kvs.map (·.1)) := by
  obtain ⟨lo, ps, vs, r, z, kv, o, es, ep, h1, h2, h3, _, h5, _⟩ := d
  exact ⟨lo, by rw [List.length_map, ← r.length]; exact z, o, es, ep, h1, h2, h3, flat_keys r kv h5⟩
theorem IsDN.keysV {kvs : List (IV × α)} (d : IsDN P X Y h s a kvs) : KeysAt Y h s a (kvs.map (·.1)) := by
  obtain ⟨lo, ps, vs, r, z, kv, o, es, ep, h1, h2, h3, h4, _, _⟩ := d
  exact ⟨lo, by rw [List.length_map, ← r.length]; exact z, o, es, ep, h1, h2, h3, by rw [h4]; exact nest_keys r kv⟩
theorem Top.keysV (hY : Fits Y X) (I : Inv X pins σ H s) (up : Up h H) {kvs : List (IV × IV)} {x : V} (t : Top Y H h (.dct kvs) x) : ∃ a, x = .ref a ∧ KeysAt Y h s a (kvs.map (·.1)) := by
  obtain ⟨a, e, d⟩ := Top.isD hY I up t
  exact ⟨a, e, d.elim (·.keysV) (·.keysV)⟩
end
section
variable {prog : Program} {w : World} {A : Around} {E : Value → Shared → Prop} {s : Shared} {T : String} {r d : Addr} {n : Nat} {P : Nat → Value → Prop} {OK : Heap → Prop} {Q : Value → Shared → Prop}
/-- sorted of what is collected -/
theorem sorted_src (K : PySem.W.KdlSrc prog w T r d n P OK) (hh : A.handled = none) (hok : OK s.heap) (hn : n ≤ sizeLine)
    (hq : ∀ (D : Addr) (h' : Heap) (tk : Nat) (vs : List Value), (∀ b o, s.heap.get? b = some o → h'.get? b = some o) → s.heap.get? D = none → (∃ h0 : Heap, (∀ b o, s.heap.get? b = some o → h0.get? b = some o) ∧ h0.objs.size ≤ D) → h'.get? D = some (seqObj "list" vs.toArray 0) → vs.length = n → (∀ (j : Nat) (v : Value), vs[j]? = some v → P j v) →
      wpAny (model prog w) A.in1 (call (.builtin "list.sort") [.ref D]) (fun _ s' => Q (.ref D) s') E { s with heap := h', toks := tk }) :
    wpAny (model prog w) A (call (.builtin "sorted") [.ref r]) Q E s := by
  refine call_function_entry kind_sorted plain_sorted entry_sorted (args_sorted1 _) ?_
  unfold Builtin.«sorted»
  refine wpAny_bind (m := checkCount "sorted" 1 1 _) (wpAny_pure ?_)
  refine wpAny_bind (PySem.W.kdu_collect (A := A.in1) K hh hok hn fun h' tk acc hk hacc => ?_)
  have hl : acc.toList.length = n := by rw [Array.length_toList]; exact hacc.1
  refine wpAny_bind (wpAny_newList ?_ (by rw [hl]; exact hn))
  have hg := hq h'.objs.size (h'.push { cls := .type "list", data := .seq acc.toList.toArray }) tk acc.toList (fun b o e => Heap.get?_push_of_some _ (hk b o e)) (by
    cases q : s.heap.get? h'.objs.size with
    | none => rfl
    | some o => exact absurd (Heap.lt_size (hk _ _ q)) (Nat.lt_irrefl _)) ⟨h', hk, Nat.le_refl _⟩ (Heap.get?_push_size _ rfl) hl (fun j v e => hacc.2 j v (by rw [← Array.getElem?_toList]; exact e))
  refine wpAny_bind (wpAny_holding (wpAny_mono hg (fun _ s' x => ?_) fun _ _ e => e))
  exact wpAny_pure ⟨_, rfl, x⟩
end
end Vy

end
section
set_option maxRecDepth 100000
set_option maxHeartbeats 2000000
/-! sorted of lists and dicts. -/
namespace Vy
open PySem PySem.Spec PySem.Calls PyProof.Rows L2 StX
section
variable {X : Cx} {Y : Names} {pins : List (Addr × Obj)} {σ : L2.St} {H h : Hp} {s : Shared}
theorem each_at {α β : Type} {R : α → β → Prop} : ∀ {as : List α} {bs : List β}, as.length = bs.length → (∀ (j : Nat) a b, as[j]? = some a → bs[j]? = some b → R a b) → PySem.W.EachIs R as bs
  | [], [], _, _ => .nil
  | a :: as, b :: bs, e, k => .cons (k 0 a b rfl rfl) (each_at (by simpa using e) fun j a b h1 h2 => k (j + 1) a b (by simpa using h1) (by simpa using h2))
  | [], _ :: _, e, _ => by simp at e
  | _ :: _, [], e, _ => by simp at e
theorem each_get {α β : Type} {R : α → β → Prop} {as : List α} {bs : List β} (e : PySem.W.EachIs R as bs) : ∀ (j : Nat) (a : α), as[j]? = some a → ∃ b, bs[j]? = some b ∧ R a b := by
  induction e with
  | nil => intro j a q; simp at q
  | @cons a0 b0 as bs h t ih =>
    intro j a q
    cases j with
    | zero => simp at q; subst q; exact ⟨b0, rfl, h⟩
    | succ j => simpa using ih j a (by simpa using q)
theorem svr_enc (hY : Fits Y X) (I : Inv X pins σ H s) (up : Up h H) {u : Value} {v : IV} (k : alkN 9 v v = true) (r : SvR Y h u v) : Reads s.heap u (encV v) [] := by
  obtain ⟨x, r1, r2⟩ := r
  exact RF.enc hY I up 9 v k r1 r2
theorem each_enc {h' : Heap} (hY : Fits Y X) (I : Inv X pins σ H s) (up : Up h H) (kp : ∀ b o, s.heap.get? b = some o → h'.get? b = some o) (a : Addr) {us : List Value} {vs : List IV} (k : ∀ v ∈ vs, alkN 9 v v = true) (e : PySem.W.EachIs (SvR Y h) us vs) : PySem.W.EachIs (fun v b => ∃ as, Reads h' v (encV b) as ∧ a ∉ as) us vs := by
  induction e with
  | nil => exact .nil
  | cons h0 t ih => exact .cons ⟨[], PyProof.Rows.Reads.keeps kp (svr_enc hY I up (k _ List.mem_cons_self) h0), by simp⟩ (ih fun v hv => k v (List.mem_cons_of_mem _ hv))
/-- sorted of a list of things that can be ordered -/
theorem cb_sorted (hY : Fits Y X) (hc : X.calm = true) (hu : X.A.units + 64 < cLine) : CallR X (.builtin "sorted") (rBl Y fun ws => match ws with
    | [.lst xs] => (sortV xs).map nl
    | [.dct kvs] => (sortV (kvs.map (·.1))).map nl
    | _ => none) := by
  intro pins s σ H vs us Q I rv hh
  obtain ⟨h, ws, sv, t, up, e, g⟩ := hh
  -- what comes out
  have fin : ∀ (ks : List IV) (h' : Heap) (D : Addr) (tk : Nat) (ep : Nat) (out : List Value), srtOk ks = true → ks.length ≤ sizeLine → (sortV ks).map nl = some sv → (∀ b o, s.heap.get? b = some o → h'.get? b = some o) → s.heap.get? D = none → H D = none → h'.get? D = some (seqObj "list" out.toArray ep) →
      PySem.W.EachIs (SvR Y h) out (ks.mergeSort (PySem.W.dataLe false encV)) → EP X pins σ Q (.ref D) { s with heap := h', toks := tk } := fun ks h' D tk ep out ok z es kp fr hn at_ eo => by
    obtain ⟨xs, rl, rv⟩ := each_svr eo
    unfold sortV at es
    rw [ok] at es
    cases es
    have hl : xs.length ≤ sizeLine := by rw [rl.length, List.length_mergeSort]; exact z
    exact ⟨.ref D, _, I.laidN (o := .lst xs) kp fr hn ⟨hl, out, ep, rv, at_⟩, rfl, g.nl up rl hn⟩
  -- a list
  have lst : ∀ (a : Addr) (ks : List IV) (xs : List V), srtOk ks = true → (sortV ks).map nl = some sv → Rd H a (.lst xs) → RFL Y h ks xs → wpAny (model X.prog X.w) X.A (call (.builtin "sorted") [.ref a]) (EP X pins σ Q) X.xe s := fun a ks xs ok es rd rl => by
    obtain ⟨k1, k2, k3⟩ := srtOk_all ok
    obtain ⟨its, rv2, hl, hz⟩ := I.list (.inl rd)
    have z : ks.length ≤ sizeLine := by rw [← rl.length]; exact hz
    have e0 := svr_each rl rv2
    refine PySem.W.sorted_data hl.isList e0 ((each_enc hY I up (fun _ _ q => q) s.heap.objs.size (fun v hv => k1 v hv v hv) e0).mono fun _ _ ⟨as, r, _⟩ => ⟨as, r⟩) k2 k3 z (fun b hb => ?_) fun out ho eo => ?_
    · have := alk_depth 9 b (k1 b hb b hb)
      omega
    · obtain ⟨ep, he⟩ := PyProof.Rows.sortedAll_at s.heap its out.toArray
      refine fin ks _ _ s.toks ep out ok z es (fun _ _ => PyProof.Rows.sortedAll_old) ?_ (I.hok.fresh (Nat.le_succ _)) he eo
      cases q : s.heap.get? (s.heap.objs.size + 1) with
      | none => rfl
      | some o => exact absurd (Nat.lt_trans (Nat.lt_succ_self _) (Heap.lt_size q)) (Nat.lt_irrefl _)
  -- a dict
  have dct : ∀ (a : Addr) (ks : List IV), srtOk ks = true → (sortV ks).map nl = some sv → KeysAt Y h s a ks → wpAny (model X.prog X.w) X.A (call (.builtin "sorted") [.ref a]) (EP X pins σ Q) X.xe s := fun a ks ok es d => by
    obtain ⟨k1, k2, k3⟩ := srtOk_all ok
    obtain ⟨lo, z, o, es', ep, h1, h2, h3, e0⟩ := d
    have l0 : es'.size = ks.length := by have := e0.length; rw [List.length_map, Array.length_toList] at this; exact this
    refine sorted_src (kdl_raw lo h2 h3) (I.ok.hd hc) h1 (by omega) fun D h' tk vs kp fr ⟨h0, kp0, le0⟩ at_ hl hv => ?_
    have hn : H D = none := (I.hok.kept kp0).fresh le0
    have e1 : PySem.W.EachIs (SvR Y h) vs ks := each_at (by rw [hl, l0]) fun j v k q1 q2 => by
      obtain ⟨en, h4, h5⟩ := hv j v q1
      obtain ⟨b, h6, h7⟩ := each_get e0 j en.key (by rw [List.getElem?_map, Array.getElem?_toList, h4]; rfl)
      rw [q2] at h6
      cases h6
      rw [h5]
      exact h7
    have e2 := each_enc hY I up kp D (fun v hv => k1 v hv v hv) e1
    refine PySem.W.list_sort_data at_ e1 e2 k2 k3 z (fun b hb => ?_) fun out ho eo => ?_
    · have := alk_depth 9 b (k1 b hb b hb)
      rw [Around.in1_units]
      omega
    · obtain ⟨ep2, he⟩ := PyProof.Rows.sortedHeap_at (out := out.toArray) at_
      refine fin ks _ _ tk ep2 out ok z es (fun b o q => ?_) fr hn he eo
      have q2 := kp b o q
      refine (PyProof.Rows.sortedHeap_old (fun z => ?_) (Heap.lt_size q2)).trans q2
      rw [z, fr] at q
      cases q
  have ok_of : ∀ ks : List IV, (sortV ks).map nl = some sv → srtOk ks = true := fun ks es => by
    unfold sortV at es
    cases q : srtOk ks with
    | true => rfl
    | false => rw [q] at es; cases es
  dsimp only at e
  split at e <;> try cases e
  · obtain ⟨x, rfl, tx⟩ := one_of t
    obtain ⟨a, xs, rfl, rd, rl⟩ := tx
    rw [Vals.ref1 rv]
    exact lst a _ xs (ok_of _ e) e rd rl
  · obtain ⟨x, rfl, tx⟩ := one_of t
    obtain ⟨a, rfl, d⟩ := Top.keysV hY I up tx
    rw [Vals.ref1 rv]
    exact dct a _ (ok_of _ e) e d
end
end Vy

end
section
set_option maxRecDepth 100000
set_option maxHeartbeats 2000000
/-! Lambdas that a frame makes. -/
namespace Vy
open PySem PySem.Spec PyProof.Rows L2 StX
/-- the frame makes lambdas: its code, its table -/
structure MkL (Y : Names) (X : Cx) : Prop where
  c : ∃ c, X.env.code = .ref c ∧ LamX.TabB X.base X.mg c Y.tP
  q : Y.tq = X.env.qual ++ "<lambda>"
/-- what the lambda n is -/
abbrev lamOf (X : Cx) (params : Arguments) (body : Expr) (scope : Scope) : LamD := ⟨X.env.qual ++ "<lambda>", params, body, scope, cloFrom X.env.cells scope.names []⟩
/-- a lambda of the frame; g: the slot of the table -/
def dLam (g n : Nat) : Den := fun e => match getE e g with
  | .tb => .ok (.fz (.lam n)) e
  | _ => .bad 80
section
variable {R : Fr} {X : Cx} {H h H1 h1 : Hp} {σ : L2.St} {e : Env} {F F1 : Fp} {Q : VK} {pins : List (Addr × Obj)} {s : Shared} {g n : Nat} {params : Arguments} {body : Expr} {scope : Scope} {pos : Pos}
theorem sub_upd {H : Hp} {a : Addr} {o : HO} (n : H a = none) : Sub H (upd H a o) := Sub.new n
theorem mk_lam (I : Inv X pins σ H s) (M : MkL R.Y X) (S : St R.Y H h σ e F) (hg : getE e g = .tb) (hL : R.Y.lm n = lamOf X params body scope) (hdef : defaultsOf params X.env = ([], []))
    (hfree : ∀ y ∈ scope.names, y.2 = .free → ∃ c, X.env.cells.lookup y.1 = some c) {E : Value → Shared → Prop} (hQ : ∀ x H' h' F', Go H h F H' h' F' → St R.Y H' h' σ e F' → RF R.Y h' (.lam n) x → Q x H') :
    wpAny (model X.prog X.w) X.A (eval (.Lambda params body scope pos) X.env) (EP X pins σ Q) E s := by
  obtain ⟨c, hcode, TB⟩ := M.c
  obtain ⟨x0, hx0, ps, ex0, hFg, hP, ht, ha⟩ := S.at_ hg (fun z => nomatch z)
  subst ex0
  have pg : R.Y.tP ∈ F g := by rw [hFg]; exact List.mem_singleton.mpr rfl
  refine PySem.W.kla_eval hdef ?_
  have bP := TB.bm.keeps I.bk
  have oP : s.heap.get? R.Y.tP = some { cls := .none, data := .fields ps } := I.hok _ _ hP
  cases hc : codeAmong pos ps.toList with
  | none =>
    refine PySem.W.kla_makeFunction (mg := X.mg) (c := c) (P := R.Y.tP) (ps := ps) (closure_ok hfree) I.ok.glob (I.mod.glob.keeps I.bk) hcode (TB.code.keeps I.bk) oP ht hc TB.gP bP fun c' ctv h' tk hx hge hlt hrec htb => ?_
    obtain ⟨c2, oc, vs, t, e2, hoc, hd, hv⟩ := hrec
    cases e2
    have nC : H c' = none := I.hok.fresh hge
    have I1 := LamX.inv_table (t' := tk) (more := #[rawInt pos.line, rawInt pos.col, .ref c']) (h' := h') I hP (fun b o hb e => hx b o hb e) htb hge ⟨oc, vs, t, hoc, hd, hv⟩
    have nF0 : H h'.objs.size = none := I.hok.fresh (Nat.le_trans hge (Nat.le_of_lt hlt))
    have nFc : h'.objs.size ≠ c' := Nat.ne_of_gt hlt
    have nPc : R.Y.tP ≠ c' := ne_of_none hP nC
    have nPf : R.Y.tP ≠ h'.objs.size := ne_of_none hP nF0
    have I2 := I1.laid (a := h'.objs.size) (o := LamO h'.objs.size (lamOf X params body scope) c') (t' := tk) (h' := h'.push (PySem.W.kla_obj "<lambda>" (X.env.qual ++ "<lambda>") params body scope (cloFrom X.env.cells scope.names []) ((X.mg "__name__").getD .none) c' ctv))
      (fun b u e => Heap.get?_push_of_some _ e) (Nat.le_refl _) ⟨⟨_, ctv, Heap.get?_push_size _ rfl⟩, ⟨_, Heap.get?_push_size _ rfl⟩, fun h1 h2 ⟨p, t, z⟩ st => ⟨p, t, st _ z⟩⟩
    -- what is known more
    have nC1 : h c' = none := S.le.fresh nC
    have sH : Sub H (upd (upd H c' (LamX.CodeO c' (X.env.qual ++ "<lambda>"))) h'.objs.size (LamO h'.objs.size (lamOf X params body scope) c')) := (sub_upd nC).trans (sub_upd (by rw [upd_ne nFc]; exact nF0))
    have sh : Sub h (upd (upd h c' (LamX.CodeO c' (X.env.qual ++ "<lambda>"))) h'.objs.size (LamO h'.objs.size (lamOf X params body scope) c')) := (sub_upd nC1).trans (sub_upd (by rw [upd_ne nFc]; exact S.le.fresh nF0))
    have up2 : Up (upd (upd h c' (LamX.CodeO c' (X.env.qual ++ "<lambda>"))) h'.objs.size (LamO h'.objs.size (lamOf X params body scope) c')) (upd (upd H c' (LamX.CodeO c' (X.env.qual ++ "<lambda>"))) h'.objs.size (LamO h'.objs.size (lamOf X params body scope) c')) := upd_up (upd_up S.le nC) (by rw [upd_ne nFc]; exact nF0)
    obtain ⟨S1, g1⟩ := S.more sH sh up2 fun a z => by
      by_cases w : a = h'.objs.size
      · rw [w]; exact .inr nF0
      · rw [upd_ne w] at z
        by_cases w2 : a = c'
        · rw [w2]; exact .inr nC
        · rw [upd_ne w2] at z; exact .inl z
    have ec : Rd (upd (upd h c' (LamX.CodeO c' (X.env.qual ++ "<lambda>"))) h'.objs.size (LamO h'.objs.size (lamOf X params body scope) c')) c' (LamX.CodeO c' (X.env.qual ++ "<lambda>")) := .inl (by rw [upd_ne (Ne.symm nFc), upd_same])
    have ef : Rd (upd (upd h c' (LamX.CodeO c' (X.env.qual ++ "<lambda>"))) h'.objs.size (LamO h'.objs.size (lamOf X params body scope) c')) h'.objs.size (LamO h'.objs.size (lamOf X params body scope) c') := .inl upd_same
    obtain ⟨F', S2, g2⟩ := S1.write (s' := .tb) (ob := .tbl (ps ++ #[rawInt pos.line, rawInt pos.col, .ref c'])) (B' := []) (Ar := []) g1 hg hx0 hFg .nil (fun _ z => nomatch z) (by simp)
      ⟨_, rfl, rfl, upd_same, by rw [Array.toList_append]; exact PySem.TriplesOk_snoc _ _ _ _ ht, fun p' cv hcv => by
        rw [Array.toList_append] at hcv
        rcases LamX.among_app _ ht hcv with z | z
        · obtain ⟨c0, e1, e2⟩ := ha p' cv z
          exact ⟨c0, e1, sh.le _ _ True.intro e2⟩
        · refine ⟨c', z, ?_⟩
          rw [M.q]
          exact ec⟩
    have eE : setE e g .tb = e := by
      have q := getE_some hg (fun z => nomatch z)
      obtain ⟨hl, hh⟩ := List.getElem?_eq_some_iff.mp q
      unfold setE
      rw [← hh]
      exact List.set_getElem_self hl
    rw [eE] at S2
    have eH : upd (upd (upd H c' (LamX.CodeO c' (X.env.qual ++ "<lambda>"))) h'.objs.size (LamO h'.objs.size (lamOf X params body scope) c')) R.Y.tP (.tbl (ps ++ #[rawInt pos.line, rawInt pos.col, .ref c'])) =
        upd (upd (upd H R.Y.tP (.tbl (ps ++ #[rawInt pos.line, rawInt pos.col, .ref c']))) c' (LamX.CodeO c' (X.env.qual ++ "<lambda>"))) h'.objs.size (LamO h'.objs.size (lamOf X params body scope) c') := by
      rw [upd_swap (Ne.symm nPf), upd_swap (Ne.symm nPc)]
    rw [eH] at S2 g2
    refine ⟨.ref h'.objs.size, _, I2, rfl, hQ _ _ _ _ g2 S2 ⟨h'.objs.size, c', rfl, ?_, ?_⟩⟩
    · rw [hL]; exact ef
    · rw [hL]; exact ec
  | some cv =>
    obtain ⟨c', e1, hco⟩ := ha pos cv hc
    subst e1
    refine PySem.W.kla_makeFunctionHit (mg := X.mg) (c := c) (P := R.Y.tP) (ps := ps) (closure_ok hfree) I.ok.glob (I.mod.glob.keeps I.bk) hcode (TB.code.keeps I.bk) oP ht hc bP fun ctv h' tk hx hsz => ?_
    have I1 : Inv X pins σ H { s with heap := h', toks := tk } := I.kept hx
    have nF0 : H h'.objs.size = none := I.hok.fresh hsz
    have I2 := I1.laid (a := h'.objs.size) (o := LamO h'.objs.size (lamOf X params body scope) c') (t' := tk) (h' := h'.push (PySem.W.kla_obj "<lambda>" (X.env.qual ++ "<lambda>") params body scope (cloFrom X.env.cells scope.names []) ((X.mg "__name__").getD .none) c' ctv))
      (fun b u e => Heap.get?_push_of_some _ e) (Nat.le_refl _) ⟨⟨_, ctv, Heap.get?_push_size _ rfl⟩, ⟨_, Heap.get?_push_size _ rfl⟩, fun h1 h2 ⟨p, t, z⟩ st => ⟨p, t, st _ z⟩⟩
    have sh : Sub h (upd h h'.objs.size (LamO h'.objs.size (lamOf X params body scope) c')) := sub_upd (S.le.fresh nF0)
    obtain ⟨S1, g1⟩ := S.more (H' := upd H h'.objs.size (LamO h'.objs.size (lamOf X params body scope) c')) (sub_upd nF0) sh (upd_up S.le nF0) fun a z => by
      by_cases w : a = h'.objs.size
      · rw [w]; exact .inr nF0
      · rw [upd_ne w] at z; exact .inl z
    refine ⟨.ref h'.objs.size, _, I2, rfl, hQ _ _ _ _ g1 S1 ⟨h'.objs.size, c', rfl, ?_, ?_⟩⟩
    · rw [hL]; exact .inl upd_same
    · rw [hL, show (lamOf X params body scope).q = R.Y.tq from M.q.symm]
      exact sh.le _ _ True.intro hco
/-- lambda: body -/
theorem vlam (g n : Nat) (M : MkL R.Y X) (hL : R.Y.lm n = lamOf X params body scope) (hdef : defaultsOf params X.env = ([], [])) (L : LamX.LamS X.env.scope scope) : PE X (.Lambda params body scope pos) (tE R (dLam g n)) := by
  refine ⟨fun pins s σ H Q I t => ?_⟩
  obtain ⟨e, h, F, S, w⟩ := t
  unfold dLam at w
  cases q : getE e g with
  | tb =>
    rw [q] at w
    exact mk_lam I M S q hL hdef (L.has I.ok) fun x H' h' F' g' S' r => w x [] H' h' F' g' S' ⟨rfl, r⟩ .nil
  | _ => rw [q] at w; exact w.elim
end
end Vy

end
section
set_option maxRecDepth 100000
set_option maxHeartbeats 2000000
/-! A lambda of the frame is called by the frame. -/
namespace Vy
open PySem PySem.Spec PyProof.Rows L2 StX
/-- x(), x a name that holds a lambda of the frame; ds: what they mean -/
def dCallL (ds : List Den) (i : Nat) : Den := fun e => match getE e i with
  | .fz (.lam n) => match ds[n]? with
    | some d => d e
    | none => .bad 81
  | _ => .bad 82
abbrev Fr.own (R : Fr) (E : XK) : Fr := { R with W := fun cls d _ H => E cls d H }
/-- the lambda n means d -/
def LamOk (R : Fr) (X : Cx) (k n : Nat) (d : Den) : Prop := ∃ (params : Arguments) (body : Expr) (scope : Scope), R.Y.lm n = lamOf X params body scope ∧ LamX.LamS X.env.scope scope ∧
  (∀ (q : Str) (cl : List (Str × Addr)) (pm cv ctv : Value), bindArgs (PySem.W.kla_fn "<lambda>" q params body scope cl pm cv ctv) ⟨[], []⟩ = pure []) ∧
  ∀ (A : Around) (outer : List PySem.Env) (s : Shared) (H : Hp) (E : XK) (f c' : Addr), Room k (A.deeper (LamX.lamEnv X scope s.heap.objs.size f c')) → PE (LamX.lamCx X A outer s H E scope f c') body (tE (R.own E) d)
section
variable {R : Fr} {X : Cx} {k i : Nat} {a : Str} {ds : List Den} {p1 p2 : Pos}
theorem vlamcall (i : Nat) (hds : ∀ n d, ds[n]? = some d → LamOk R X k n d) (tk : Takes X R.W) (hr : Room (k + 1) X.A) (hN : X.N[i]? = some a) (hv : Vis X.env.scope a) (hd : (a == ("__debug__" : Str)) = false := by decide) (hcd : (a == ("__classdict__" : Str)) = false := by decide) :
    PE X (.Call (.Name a p1) [] [] p2) (tE R (dCallL ds i)) := by
  refine ⟨fun pins s σ H Q I t => ?_⟩
  obtain ⟨e, h, F, S, w⟩ := t
  unfold dCallL at w
  cases q : getE e i with
  | fz v =>
    rw [q] at w
    cases v with
    | lam n =>
      dsimp only at w
      cases q2 : ds[n]? with
      | none => rw [q2] at w; exact w.elim
      | some d =>
        rw [q2] at w
        obtain ⟨x, hx, _, f, c', ex, rf, rc⟩ := S.at_ q (fun z => nomatch z)
        subst ex
        obtain ⟨params, body, scope, hL, L, hbind, hbody⟩ := hds n d q2
        rw [hL] at rf rc
        refine wpAny_Call_Name_kw (thn ((pe_var (pos := p1) (i := i) hN hv hd hcd).run pins s σ H (fun v H1 => v = .ref f ∧ H1 = H) I ⟨.ref f, hx, rfl, rfl⟩) fun u s1 ⟨v, H1, I1, r1, q1⟩ => ?_)
        obtain ⟨ev, eH⟩ := q1
        subst ev
        rw [eH] at I1
        obtain rfl : u = Value.ref f := r1
        obtain ⟨⟨pm, ctv, of1⟩, _, _⟩ := (S.le.le _ (LamO f (lamOf X params body scope) c') True.intro rf).ok I1.hok
        obtain ⟨⟨oc, vs, t, hoc, hdc, hvc⟩, _, _⟩ := (S.le.le _ (LamX.CodeO c' (lamOf X params body scope).q) True.intro rc).ok I1.hok
        refine PySem.W.callWith_F0 ⟨_, _, _, _, of1⟩ ?_
        have run : codeAny (model X.prog X.w) X.A (.call (.ref f) ⟨[], []⟩) (CR (L2.CX X.prog X.w) X.stack X.prog X.w H s1 Q (WE R.W σ)) s1 := by
          refine PySem.W.kla_callFunE hr.depth of1 rfl L.co L.gen rfl ⟨c', oc, vs, t, rfl, hoc, hdc, hvc⟩ ?_
          rw [hbind]
          refine wpAny_pure (wpAny_newFunctionEnv (fun y hy => (L.own y hy).2) (fun y hy => absurd hy (by simp)) (fun hN' hns hsb => ⟨I1.nolimit.fresh _ hsb, ?_⟩) L.kind)
          show codeAny _ _ (.expr body (LamX.lamEnv X scope s1.heap.objs.size f c')) _ _
          have kp : ∀ b o, s1.heap.get? b = some o → hN'.get? b = some o := fun b o z => hsb.extBut b o (Nat.ne_of_lt (Heap.lt_size z)) (Heap.get?_push_of_some _ z)
          have J : Inv (LamX.lamCx X X.A X.stack s1 H (WE R.W σ) scope f c') [] σ H { s1 with heap := hN', toks := s1.toks + ([] : List (Str × Value)).length } :=
            LamX.lam_start2 I1 L I1.env0 hr.hd Un.refl hns kp
          refine PySem.W.kla_codeExpr (wpAny_mono ((hbody X.A X.stack s1 H (WE R.W σ) f c' (hr.deeper _)).run [] _ _ H Q J ⟨e, h, F, S, wpR_mono w (fun _ _ z => z) fun c fs e' z σ' H' h' F' dd es g' S' xx => ?_⟩) (fun v s' hq => ?_) fun e s' hq => hq)
          · subst es
            exact z _ H' h' F' dd rfl g' S' xx
          · obtain ⟨w', H', J', rv, q'⟩ := hq
            exact ⟨w', H', J'.os, J'.bare, J'.base, J'.hok, rv, q'⟩
        refine wpAny_call (codeAny_mono run fun r s' hq => ?_)
        cases r with
        | error ex => exact passAt tk σ pins H s1 ex s' I1 hq
        | ok fl =>
          cases fl with
          | ret u => exact I1.after hq
          | next => exact False.elim hq
          | brk => exact False.elim hq
          | cont => exact False.elim hq
    | _ => exact w.elim
  | _ => rw [q] at w; exact w.elim
end
end Vy

end
section
set_option maxRecDepth 100000
set_option maxHeartbeats 2000000
/-! try, except one class as a name: suite. -/
namespace Vy
open PySem PySem.Spec PyProof.Rows L2 StX
def catchR (c0 : Nat) (k : List (Nat × IV) → Env → Res Fl) : Res Fl → Res Fl
  | .ok f e => .ok f e
  | .exc c fs e => match Nat.beq c c0 with
    | true => k fs e
    | false => .bad 83
  | .ask n q => .ask n fun i => catchR c0 k (q i)
  | .bad m => .bad m
/-- i: the name's slot, empty for the evaluator -/
def sTry (c0 i : Nat) (b : SDen) (s : List (Nat × IV) → SDen) : SDen := fun e => catchR c0 (fun fs e => (s fs (setE e i .und)).noX.bind fun f e => .ok f (setE e i .und)) (b e)
theorem wp_catch {c0 : Nat} {k : List (Nat × IV) → Env → Res Fl} {Q : Fl → Env → Prop} {E : Nat → List (Nat × IV) → Env → Prop} : ∀ {r : Res Fl}, wpR (catchR c0 k r) Q E → wpR r Q fun c fs e => c = c0 ∧ wpR (k fs e) Q E
  | .ok _ _, w => w
  | .exc c fs e, w => by
    unfold catchR at w
    cases q : Nat.beq c c0 with
    | true =>
      rw [q] at w
      exact ⟨Nat.eq_of_beq_eq_true q, w⟩
    | false => rw [q] at w; exact w.elim
  | .ask n q, w => fun i hi => wp_catch (w i hi)
  | .bad _, w => w
/-- an attribute of the caught error -/
def dXf (fs : List (Nat × IV)) (f : Nat) : Den := fun e => match lkf fs f with
  | some v => .ok (.fz v) e
  | none => .bad 84
abbrev Fr.sil (R : Fr) : Fr := { R with W := fun _ _ _ _ => False }
/-- in a suite: a the caught error, cls its class, d its dict -/
def tXS (R : Fr) (c0 i : Nat) (a : Addr) (cls : Value) (d : Option Addr) (fs : List (Nat × IV)) (sd : SDen) : TS := fun D σ H => σ[i]? = some (some (.ref a)) ∧ cls = .ref (R.xc c0) ∧ ∃ e h F, St R.Y H h σ e F ∧ Par R σ ∧ R.xr H h c0 fs d ∧ wpR (sd e) (OKf R H h F D) (EXs R H h F)
def tXO (R : Fr) (c0 i : Nat) (a : Addr) (cls : Value) (d : Option Addr) (fs : List (Nat × IV)) (od : ODen) : TE := fun σ H Q => σ[i]? = some (some (.ref a)) ∧ cls = .ref (R.xc c0) ∧ ∃ e h F, St R.Y H h σ e F ∧ R.xr H h c0 fs d ∧ wpR (od e) (OKo R H h F σ Q) (EXx R H h F σ)
def tXT (R : Fr) (c0 i : Nat) (a : Addr) (cls : Value) (d : Option Addr) (fs : List (Nat × IV)) (b : BDen) : TT := fun σ H Q => σ[i]? = some (some (.ref a)) ∧ cls = .ref (R.xc c0) ∧ ∃ e h F, St R.Y H h σ e F ∧ R.xr H h c0 fs d ∧ wpR (b e) (OKb R H h F σ Q) (EXx R H h F σ)
def sIfB (b : BDen) (x y : SDen) : SDen := fun e => (b e).bind fun t e => match t with
  | true => x e
  | false => y e
section
variable {R : Fr} {X : Cx} {T : Tab} {C : Vy.Callee} {H h H1 h1 : Hp} {σ : L2.St} {e : Env} {F F1 : Fp} {D : Ends} {Q : VK} {c0 i : Nat}
theorem St.unS {Y : Names} {v : Option V} (S : St Y H h (σ.set i none) (setE e i .und) F) : St Y H h (σ.set i v) (setE e i .und) F := by
  refine ⟨by rw [← S.len, List.length_set, List.length_set], fun j t ht => ?_, S.out, S.nd, S.dj, S.hd, S.le⟩
  rcases S.rel j t ht with z | ⟨x, z1, z2⟩
  · exact .inl z
  · by_cases hj : j = i
    · subst hj
      by_cases hl : j < σ.length
      · rw [List.getElem?_set_self hl] at z1; cases z1
      · rw [List.getElem?_eq_none (by simpa using hl)] at z1; cases z1
    · rw [List.getElem?_set_ne (Ne.symm hj)] at z1
      exact .inr ⟨x, by rw [List.getElem?_set_ne (Ne.symm hj)]; exact z1, z2⟩
theorem Par.setn (P : Par R σ) {v : Option V} (n : R.par i = none) : Par R (σ.set i v) := ⟨fun j y hj => by
  have : j ≠ i := fun z => by rw [z, n] at hj; cases hj
  rw [List.getElem?_set_ne (Ne.symm this)]
  exact P.1 j y hj, by rw [List.length_set]; exact P.2⟩
theorem ztry {x n : Str} {body suite : List Stmt} {b₀ : Stmt} {np pos pos' : Pos} {b : SDen} {s : List (Nat × IV) → SDen} (c0 i : Nat) (hs : X.stack = X.env :: X.outer) (hf : X.env.frame = some X.env.locals) (hN : X.N.Nodup) (hi : X.N[i]? = some n) (hln : X.env.kindOf n = some .local)
    (hc : L2.Names X x (.ref (R.xc c0))) (hm : PySem.W.exmOne X.K (.ref (R.xc c0)) (.ref (R.xc c0)) = some true) (hpar : R.par i = none) (hns : i < R.ns)
    (hb : ∀ (W : WX) (pn : List (Addr × Obj)) (xe : Value → Shared → Prop), Takes (X.tr pn xe) W → PassesOwn (model X.prog X.w) X.A X.env xe → PSs (X.tr pn xe) body (tS { R with W := W } b))
    (hsu : ∀ (a : Addr) (oe : Obj) (cls : Value) (d : Option Addr) (pn : List (Addr × Obj)) (fs : List (Nat × IV)), Zc cls d oe → (∃ vs, oe.data = .fields vs) → PSs (X.suite a ((a, oe) :: pn)) (b₀ :: suite) (tXS R.sil c0 i a cls d fs (s fs))) :
    PS X (.Try body [.ExceptHandler (some (.Name x np)) (some n) (b₀ :: suite) pos'] [] [] pos) (tS R (sTry c0 i b s)) :=
  ps_weak (ps_try_as (i := i) (Wout := fun _ _ _ _ => False) (tb := fun W => tS { R with W := W } b) (ts := fun a cls d D σ H => ∃ fs, tXS R.sil c0 i a cls d fs (s fs) D σ H) hs hf hN hi hln hc takes_none5 hb
    fun a oe cls d pn hz hv => ⟨fun pins s' σ H D I ⟨fs, t⟩ => (hsu a oe cls d pn fs hz hv).run pins s' σ H D I t⟩) fun D σ H t => by
    obtain ⟨e, h, F, S, P, w⟩ := t
    refine ⟨e, h, F, S, P, wpR_mono (wp_catch w) (fun f e' q => q) fun c fs e' q => ?_⟩
    obtain ⟨rfl, q⟩ := q
    intro σ' H' h' F' d g' S' P' x'
    refine ⟨true, hm, fun _ a na => ?_, fun z => nomatch z⟩
    obtain ⟨F2, S2, g2, sub⟩ := S'.wipe1 i
    have hl : i < σ'.length := by rw [P'.2]; exact hns
    refine ⟨fs, List.getElem?_set_self hl, rfl, _, h', F2, S2.unS, Par.setn (R := R.sil) P' hpar, x', wpR_mono (wp_noX (E' := EXs R.sil H' h' F2) (wpR_mono (wpR_bind.mp q) (fun f e6 q6 => q6) fun _ _ _ q => q)) (fun f e6 q6 => ?_) fun _ _ _ q => q⟩
    have gA := g'.trans g2
    cases f with
    | nx =>
      intro σ6 H6 h6 F6 g6 S6 P6
      obtain ⟨F7, S7, g7, sub7⟩ := S6.wipe1 i
      exact q6 _ H6 h6 F7 (gA.trans (g6.trans g7)) S7 (Par.setn (R := R) P6 hpar)
    | brk =>
      intro σ6 H6 h6 F6 g6 S6 P6
      obtain ⟨F7, S7, g7, sub7⟩ := S6.wipe1 i
      exact q6 _ H6 h6 F7 (gA.trans (g6.trans g7)) S7 (Par.setn (R := R) P6 hpar)
    | cnt =>
      intro σ6 H6 h6 F6 g6 S6 P6
      obtain ⟨F7, S7, g7, sub7⟩ := S6.wipe1 i
      exact q6 _ H6 h6 F7 (gA.trans (g6.trans g7)) S7 (Par.setn (R := R) P6 hpar)
    | ret r =>
      intro σ6 y A H6 h6 F6 g6 S6 P6 rs o
      obtain ⟨F7, S7, g7, sub7⟩ := S6.wipe1 i
      exact q6 _ y A H6 h6 F7 (gA.trans (g6.trans g7)) S7 (Par.setn (R := R) P6 hpar) rs (Own.go gA ⟨o.nd, o.hd, fun a ha j z => o.dj a ha j (sub7 j a z), o.nf⟩)
/-! ### in the suite -/
variable {a : Addr} {oe : Obj} {cls : Value} {d : Option Addr} {pn : List (Addr × Obj)} {fs : List (Nat × IV)} {p pos : Pos} {n F' : Str} {f : Nat} {eb : Expr} {ob : ODen}
/-- name.F -/
theorem vxf (f : Nat) (hxr : R.xr = xrV R.Y) (T : XfC X.K (R.xc c0)) (hno : PySem.W.findIn X.K (.ref (R.xc c0)) F' = some none) (hz : Zc cls d oe) (hf : ∃ vs, oe.data = .fields vs) (ef : R.Y.at_ f = F') (he : PE (X.suite a ((a, oe) :: pn)) (.Name n p) (tVar i))
    (hb : attributeBase (.Name n p) F' X.env (eval (.Name n p) X.env) = eval (.Name n p) X.env := by rfl) :
    PE (X.suite a ((a, oe) :: pn)) (.Attribute (.Name n p) F' pos) (tXO R c0 i a cls d fs (oE (dXf fs f))) :=
  pe_weak (pe_xf T hno hz hf he hb) fun σ H Q t => by
    obtain ⟨hi, hc, e, h, F, S, x, w⟩ := t
    rw [hxr] at x
    obtain ⟨dd, ps, ed, ea, l⟩ := x
    have w := wpR_bind.mp w
    unfold dXf at w
    cases q : lkf fs f with
    | none => rw [q] at w; exact w.elim
    | some v =>
      rw [q] at w
      obtain ⟨y, l1, r⟩ := l f v q
      exact ⟨_, hi, rfl, hc, dd, ps, y, ed, ea, by rw [← ef]; exact l1, w y H h F .refl S r⟩
/-- e != e', in a test -/
theorem vxneT {ea : Expr} {oa : ODen} {pos2 : Pos} (hE : EqOk R (X.suite a ((a, oe) :: pn)) T C) (ha : PE (X.suite a ((a, oe) :: pn)) ea (tXO R c0 i a cls d fs oa)) (hb : PE (X.suite a ((a, oe) :: pn)) eb (tO R ob)) :
    PT (X.suite a ((a, oe) :: pn)) (.Compare ea [.NotEq] [eb] pos2) (tXT R c0 i a cls d fs (tst T C (oE (dCmp T C 1 oa ob)))) :=
  pt_weak (pt_cmpS hE.2 ha hb (nomark _)) fun σ H Q t => by
    obtain ⟨hi, hc, e, h, F, S, x, w⟩ := t
    have w := wp_tstE.mp w
    refine ⟨hi, hc, e, h, F, S, x, wpR_mono (wpR_bind.mp w) (fun ox e1 w1 => ?_) fun _ _ _ q => q⟩
    intro x H1 h1 F1 g1 S1 rx
    refine ⟨e1, h1, F1, S1, wpR_mono (wpR_bind.mp w1) (fun oy e2 w2 => ?_) fun _ _ _ q => q.go g1⟩
    intro y H2 h2 F2 g2 S2 ry
    cases qx : ox.at e2 with
    | none => rw [qx] at w2; exact w2.elim
    | some v =>
      rw [qx] at w2
      cases qy : oy.at e2 with
      | none => rw [qy] at w2; exact w2.elim
      | some u =>
        rw [qy] at w2
        refine ⟨e2, h2, F2, v, u, S2, S2.top (rx.up g2.up) qx, S2.top ry qy, wpR_mono (wpR_bind.mp w2) (fun t e' q => ?_) fun _ _ _ q => EXx.go (g1.trans g2) q⟩
        intro H' h' F'' g S'
        have q : wpR (truthR T C (.bl (!t)) e') (OKb R H h F σ Q) (EXx R H h F σ) := q
        rw [truthR_of (k := !t) rfl] at q
        exact ⟨_, rfl, q H' h' F'' ((g1.trans g2).trans g) S'⟩
/-- if, in a suite, last -/
theorem zxif {b : BDen} {c : Expr} {sa : SDen} {sts : List Stmt} {X' : Cx} (hc : PT X' c (tXT R c0 i a cls d fs b)) (ha : PSs X' sts (tS R sa)) : PSs X' [.If c sts [] pos] (tXS R c0 i a cls d fs (sIfB b sa sPas)) :=
  pss_one (ps_weak (ps_if hc ha (znil (R := R))) fun D σ H t => by
    obtain ⟨hi, hcl, e, h, F, S, P, x, w⟩ := t
    refine ⟨hi, hcl, e, h, F, S, x, wpR_mono (wpR_bind.mp w) (fun t e1 w1 => ?_) fun _ _ _ q => q.x P⟩
    intro H1 h1 F1 g1 S1
    cases t with
    | true =>
      rw [if_pos rfl]
      exact ⟨e1, h1, F1, S1, P, wpR_mono w1 (fun _ _ q => q.go g1) fun _ _ _ q => q.go g1⟩
    | false =>
      rw [if_neg Bool.false_ne_true]
      exact ⟨e1, h1, F1, S1, P, wpR_mono w1 (fun _ _ q => q.go g1) fun _ _ _ q => q.go g1⟩)
end
end Vy

end
section
set_option maxRecDepth 100000
set_option maxHeartbeats 2000000
/-! sorted(set(rows)), rows of small numbers. -/
namespace Vy
open PySem PySem.Spec PyProof.Rows L2 StX
def intsV : List IV → Option (List Int)
  | [] => some []
  | .int i :: r => match intsV r with
    | some k => some (i :: k)
    | none => none
  | _ => none
def rowsV : List IV → Option (List (List Int))
  | [] => some []
  | .tup x :: r => match intsV x with
    | some k => match rowsV r with
      | some ks => some (k :: ks)
      | none => none
    | none => none
  | _ => none
def ivRow (k : List Int) : IV := .tup (k.map .int)
def okRow (d : Nat) (k : List Int) : Bool := Nat.beq k.length d && k.all fun i => decide (0 ≤ i) && decide (i < 64)
def okRows (ks : List (List Int)) : Bool := match ks with
  | [] => false
  | k :: r => Nat.blt 0 k.length && Nat.blt r.length 63 && (k :: r).all (okRow k.length)
def unlike : List (List Int) → List (List Int)
  | [] => []
  | k :: r => match r.contains k with
    | true => unlike r
    | false => k :: unlike r
def leRow (a b : List Int) : Bool := decide (a ≤ b)
def ssetV (v : IV) : Option SV := match v with
  | .lst xs => match rowsV xs with
    | some ks => match okRows ks with
      | true => some (nl (((unlike ks).mergeSort leRow).map ivRow))
      | false => none
    | none => none
  | _ => none
def dSSet (o : ODen) : Den := looked o fun v e => retO (ssetV v) e 85
theorem unlike_mem {k : List Int} : ∀ {ks : List (List Int)}, k ∈ unlike ks ↔ k ∈ ks
  | [] => Iff.rfl
  | c :: r => by
    unfold unlike
    cases q : r.contains c with
    | true =>
      have m : c ∈ r := List.contains_iff_mem.mp q
      show k ∈ unlike r ↔ _
      rw [unlike_mem, List.mem_cons]
      exact ⟨.inr, fun z => z.elim (fun z => by rw [z]; exact m) id⟩
    | false =>
      show k ∈ c :: unlike r ↔ _
      rw [List.mem_cons, List.mem_cons, unlike_mem]
theorem unlike_nodup : ∀ {ks : List (List Int)}, (unlike ks).Nodup
  | [] => .nil
  | c :: r => by
    unfold unlike
    cases q : r.contains c with
    | true => exact unlike_nodup (ks := r)
    | false =>
      refine List.nodup_cons.mpr ⟨fun z => ?_, unlike_nodup⟩
      rw [List.contains_iff_mem.mpr (unlike_mem.mp z)] at q
      cases q
theorem code_bd {B : Int} (hB : 0 < B) : ∀ {k : List Int}, TS.Bd B k → 0 ≤ TS.code B k ∧ TS.code B k < B ^ k.length
  | [], _ => ⟨Int.le_refl _, by show (0 : Int) < B ^ 0; rw [Int.pow_zero]; decide⟩
  | d :: r, h => by
    obtain ⟨c0, c1⟩ := code_bd hB h.tail
    obtain ⟨d0, d1⟩ := h.head
    have := TS.num1 c0 c1 d0 d1
    show 0 ≤ d * B ^ r.length + TS.code B r ∧ d * B ^ r.length + TS.code B r < B ^ (r.length + 1)
    rw [Int.pow_succ]
    exact this
theorem code_lex {B : Int} (hB : 0 < B) : ∀ {a b : List Int}, a.length = b.length → TS.Bd B a → TS.Bd B b → TS.code B a ≤ TS.code B b → a ≤ b
  | [], [], _, _, _, _ => List.le_refl _
  | [], _ :: _, h, _, _, _ => by cases h
  | _ :: _, [], h, _, _, _ => by cases h
  | x :: a, y :: b, h, ha, hb, le => by
    have hl : a.length = b.length := by simpa using h
    obtain ⟨a0, a1⟩ := code_bd hB ha.tail
    obtain ⟨b0, b1⟩ := code_bd hB hb.tail
    have le : x * B ^ a.length + TS.code B a ≤ y * B ^ b.length + TS.code B b := le
    rw [← hl] at le b1
    have pp : 0 < B ^ a.length := Int.lt_of_le_of_lt a0 a1
    rcases Int.lt_trichotomy x y with c | c | c
    · exact List.le_of_lt (List.cons_lt_cons_iff.mpr (.inl c))
    · subst c
      exact List.cons_le_cons_iff.mpr (.inr ⟨rfl, code_lex hB hl ha.tail hb.tail (by omega)⟩)
    · exfalso
      have : (y + 1) * B ^ a.length ≤ x * B ^ a.length := Int.mul_le_mul_of_nonneg_right c (Int.le_of_lt pp)
      rw [Int.add_mul, Int.one_mul] at this
      omega
theorem leRow_total (a b : List Int) : (leRow a b || leRow b a) = true := by
  unfold leRow
  rcases List.le_total a b with h | h
  · simp [h]
  · simp [h]
theorem leRow_trans (a b c : List Int) (h1 : leRow a b = true) (h2 : leRow b c = true) : leRow a c = true :=
  decide_eq_true (List.le_trans (of_decide_eq_true h1) (of_decide_eq_true h2))
/-- the one list of these rows that goes up -/
theorem sorted_one {ks L : List (List Int)} (nd : L.Nodup) (m : ∀ k, k ∈ L ↔ k ∈ ks) (pw : L.Pairwise fun a b => a ≤ b) : L = (unlike ks).mergeSort leRow := by
  have p1 : L.Perm (unlike ks) := (List.perm_ext_iff_of_nodup nd unlike_nodup).mpr fun k => (m k).trans unlike_mem.symm
  refine List.Perm.eq_of_pairwise (le := fun a b => a ≤ b) (fun a b _ _ h1 h2 => List.le_antisymm h1 h2) pw ?_ (p1.trans (List.mergeSort_perm _ _).symm)
  exact (List.pairwise_mergeSort leRow_trans leRow_total _).imp fun h => of_decide_eq_true h
section
variable {Y : Names} {K : PySem.W.Frag} {H h : Hp}
theorem RFL.ints : ∀ {xs : List IV} {k : List Int} {vs : List V}, intsV xs = some k → RFL Y h xs vs → vs = k.map V.int ∧ xs = k.map .int
  | [], k, vs, e, r => by
    cases e
    exact ⟨r, rfl⟩
  | .int i :: xs, k, vs, e, ⟨v, vr, ev, r1, r⟩ => by
    unfold intsV at e
    cases q : intsV xs with
    | none => rw [q] at e; cases e
    | some k' =>
      rw [q] at e
      cases e
      obtain ⟨a, b⟩ := RFL.ints q r
      exact ⟨by rw [ev, a, show v = .int i from r1]; rfl, by rw [b]; rfl⟩
  | .non :: _, _, _, e, _ => by cases e
  | .bl _ :: _, _, _, e, _ => by cases e
  | .str _ :: _, _, _, e, _ => by cases e
  | .tup _ :: _, _, _, e, _ => by cases e
  | .lst _ :: _, _, _, e, _ => by cases e
  | .dct _ :: _, _, _, e, _ => by cases e
  | .ins _ _ :: _, _, _, e, _ => by cases e
  | .fn _ :: _, _, _, e, _ => by cases e
  | .cls _ :: _, _, _, e, _ => by cases e
  | .ty _ :: _, _, _, e, _ => by cases e
  | .lam _ :: _, _, _, e, _ => by cases e
theorem RFL.rows : ∀ {xs : List IV} {ks : List (List Int)} {vs : List V}, rowsV xs = some ks → RFL Y h xs vs → ∃ ps : List (Addr × List Int), vs = ps.map (fun p => V.ref p.1) ∧ ps.map (·.2) = ks ∧ ∀ p ∈ ps, SqT Y.K h p.1 (p.2.map V.int)
  | [], ks, vs, e, r => by
    cases e
    exact ⟨[], r, rfl, fun _ z => nomatch z⟩
  | .tup x :: xs, ks, vs, e, ⟨v, vr, ev, ⟨a, ws, ex, st, rw_⟩, r⟩ => by
    unfold rowsV at e
    cases q : intsV x with
    | none => rw [q] at e; cases e
    | some k =>
      rw [q] at e
      dsimp only at e
      cases q2 : rowsV xs with
      | none => rw [q2] at e; cases e
      | some ks' =>
        rw [q2] at e
        cases e
        obtain ⟨a1, _⟩ := RFL.ints q rw_
        obtain ⟨ps, b1, b2, b3⟩ := RFL.rows q2 r
        refine ⟨(a, k) :: ps, by rw [ev, ex, b1]; rfl, by rw [List.map_cons, b2], fun p hp => ?_⟩
        rcases List.mem_cons.mp hp with z | z
        · rw [z]
          rw [a1] at st
          exact st
        · exact b3 p z
  | .non :: _, _, _, e, _ => by cases e
  | .bl _ :: _, _, _, e, _ => by cases e
  | .str _ :: _, _, _, e, _ => by cases e
  | .int _ :: _, _, _, e, _ => by cases e
  | .lst _ :: _, _, _, e, _ => by cases e
  | .dct _ :: _, _, _, e, _ => by cases e
  | .ins _ _ :: _, _, _, e, _ => by cases e
  | .fn _ :: _, _, _, e, _ => by cases e
  | .cls _ :: _, _, _, e, _ => by cases e
  | .ty _ :: _, _, _, e, _ => by cases e
  | .lam _ :: _, _, _, e, _ => by cases e
theorem rfl_ints : ∀ (k : List Int), RFL Y h (k.map .int) (k.map V.int)
  | [] => rfl
  | i :: k => ⟨.int i, k.map V.int, rfl, rfl, rfl_ints k⟩
theorem rfl_rows : ∀ (ps : List (Addr × List Int)), (∀ p ∈ ps, SqT Y.K h p.1 (p.2.map V.int)) → RFL Y h ((ps.map (·.2)).map ivRow) (ps.map fun p => V.ref p.1)
  | [], _ => rfl
  | p :: ps, st => ⟨.ref p.1, ps.map fun p => V.ref p.1, rfl, ⟨p.1, p.2.map V.int, rfl, st p List.mem_cons_self, rfl_ints p.2⟩, rfl_rows ps fun q hq => st q (List.mem_cons_of_mem _ hq)⟩
end
section
variable {R : Fr} {X : Cx} {a : Expr} {oa : ODen} {p1 p2 p3 p4 : Pos}
theorem vsset (hY : Fits R.Y X) (hc : X.calm = true) (hu : X.A.units + 64 < cLine) (hg1 : Gl X "sorted") (hm1 : X.mg "sorted" = none) (hg2 : Gl X "set") (hm2 : X.mg "set" = none) (ha : PE X a (tO R oa)) (hs : starEach [a] X.env = [(false, eval a X.env)] := by rfl)
    (hs2 : starEach [.Call (.Name "set" p2) [a] [] p3] X.env = [(false, eval (.Call (.Name "set" p2) [a] [] p3) X.env)] := by rfl) :
    PE X (.Call (.Name "sorted" p1) [.Call (.Name "set" p2) [a] [] p3] [] p4) (tE R (dSSet oa)) :=
  pe_weak (pe_callB (cr_sortedT hc) hg1 hm1 PyProof.Rows.boot_sorted (pa_cons (pe_callTy (cr_setOfT hc hu) hg2 hm2 PyProof.Rows.boot_set (pa_cons ha pa_nil hs) (by decide) (by decide) hs rfl) pa_nil hs2) (by decide) (by decide) hs2 rfl) fun σ H Q t => by
    obtain ⟨e, h, F, S, w⟩ := t
    refine ⟨e, h, F, S, wpR_mono (wpR_bind.mp w) (fun ox e1 w1 => ?_) fun _ _ _ q => q⟩
    intro x H1 h1 F1 g1 S1 rx
    cases q : ox.at e1 with
    | none => rw [q] at w1; exact w1.elim
    | some v =>
      rw [q] at w1
      obtain ⟨sv, es, qs⟩ := wpR_retO.mp w1
      have tv := S1.top rx q
      unfold ssetV at es
      cases v with
      | lst xs =>
        dsimp only at es
        cases q1 : rowsV xs with
        | none => rw [q1] at es; cases es
        | some ks =>
          rw [q1] at es
          dsimp only at es
          cases q2 : okRows ks with
          | false => rw [q2] at es; cases es
          | true =>
            rw [q2] at es
            cases es
            obtain ⟨l, vs, rfl, rd, rl⟩ := tv
            obtain ⟨ps, b1, b2, b3⟩ := RFL.rows q1 rl
            have b3' : ∀ p ∈ ps, SqT X.K H1 p.1 (p.2.map V.int) := fun p hp => hY.K ▸ S1.le.le.sqT (b3 p hp)
            obtain ⟨d, hd, hlen, hrow⟩ : ∃ d, 1 ≤ d ∧ ks.length < 64 ∧ ∀ k ∈ ks, k.length = d ∧ TS.Bd 64 k := by
              unfold okRows at q2
              cases ks with
              | nil => cases q2
              | cons k r =>
                obtain ⟨z1, z2⟩ := bAnd q2
                obtain ⟨z0, z1⟩ := bAnd z1
                refine ⟨k.length, Nat.blt_eq.mp z0, by have := Nat.blt_eq.mp z1; rw [List.length_cons]; omega, fun c hc => ?_⟩
                obtain ⟨y1, y2⟩ := bAnd (List.all_eq_true.mp z2 c hc)
                refine ⟨Nat.eq_of_beq_eq_true y1, fun m hm => ?_⟩
                obtain ⟨x1, x2⟩ := bAnd (List.all_eq_true.mp y2 m hm)
                exact ⟨of_decide_eq_true x1, of_decide_eq_true x2⟩
            have pl : ps.length < 64 := by rw [← List.length_map (f := (·.2)) (as := ps), b2]; exact hlen
            refine ⟨l, ps, rfl, .inl (b1 ▸ rd), b3', pl, fun sa L na sub cov => ?_⟩
            have lenS : ∀ p ∈ L, SqT X.K (upd H1 sa (SetTO X.prog X.w sa L)) p.1 (p.2.map V.int) := fun p hp => by
              rcases b3' p (sub p hp) with z | z
              · refine .inl ?_
                have : p.1 ≠ sa := fun w => by
                  unfold Rd at z
                  rcases z with z | ⟨_, z⟩ <;> (rw [w, na] at z; cases z)
                unfold Rd
                rw [upd_ne this]
                exact z
              · exact .inr z
            refine ⟨sa, L, d, 64, rfl, upd_same, lenS, hd, fun p hp => ?_, fun L' pp pm nd hf pw np => ?_⟩
            · have : p.2 ∈ ks := by rw [← b2]; exact List.mem_map_of_mem (sub p hp)
              exact hrow _ this
            · have npa : pp ≠ sa := fun z => by rw [z, upd_same] at np; cases np
              have np1 : H1 pp = none := by rw [upd_ne npa] at np; exact np
              have inL : ∀ p ∈ L', p ∈ ps := fun p hp => sub p (pm.mem_iff.mp hp)
              have inK : ∀ p ∈ L', p.2 ∈ ks := fun p hp => by rw [← b2]; exact List.mem_map_of_mem (inL p hp)
              have eq : L'.map (·.2) = (unlike ks).mergeSort leRow := by
                refine sorted_one nd (fun k => ⟨fun hk => ?_, fun hk => ?_⟩) ?_
                · obtain ⟨p, hp, rfl⟩ := List.mem_map.mp hk
                  exact inK p hp
                · rw [← b2] at hk
                  obtain ⟨p, hp, rfl⟩ := List.mem_map.mp hk
                  obtain ⟨p', hp', e'⟩ := List.mem_map.mp (cov p hp)
                  exact List.mem_map.mpr ⟨p', pm.mem_iff.mpr hp', e'⟩
                · rw [List.pairwise_map]
                  refine List.Pairwise.imp_of_mem (fun {x y} hx hy z => ?_) pw
                  obtain ⟨l1, B1⟩ := hrow _ (inK x hx)
                  obtain ⟨l2, B2⟩ := hrow _ (inK y hy)
                  exact code_lex (by decide) (l1.trans l2.symm) B1 B2 z
              rw [← eq] at qs
              have gv := gives_of S1 (OKs.go g1 qs)
              refine gv (.ref pp) (upd (upd H1 sa (SetTO X.prog X.w sa L)) pp (.lst (L'.map fun q => V.ref q.1))) h1 [pp] ((sub_upd na).trans (sub_upd np)) (.refl h1) ?_ (fun _ z => .inl z) (fun b hb => by rw [List.mem_singleton.mp hb]; exact np1) (fun b hb => by rw [List.mem_singleton.mp hb]; exact S1.le.fresh np1) (by simp) ⟨pp, _, [], rfl, rfl, upd_same, RFL.fzs (rfl_rows L' fun p hp => b3 p (inL p hp))⟩
              exact S1.le.trans ((sub_upd na).trans (sub_upd np)).up
      | _ => cases es
end
end Vy

end
section
set_option maxRecDepth 100000
set_option maxHeartbeats 2000000
/-! str(value). -/
namespace Vy
open PySem PySem.Spec PyProof.Rows L2 StX
def strT : IV → Str
  | .str s => strOf s
  | v => (toD v).shown
/-- G: it's known that no tuple's text is under way -/
def okT (G : Bool) : IV → Bool
  | .non => true
  | .bl _ => true
  | .str _ => true
  | .int i => decide (i.natAbs.log2 < 1920)
  | .tup xs => G && IV.dat 60 (.tup xs) && (toD (.tup xs)).showable && decide ((toD (.tup xs)).shown.length ≤ 100000)
  | _ => false
def strV (G : Bool) (v : IV) : Option IV := match okT G v with
  | true => some (.str (strT v).cps.toList)
  | false => none
def dStr (G : Bool) (o : ODen) : Den := looked o fun v e => match strV G v with
  | some t => .ok (.fz t) e
  | none => .bad 86
def rStr (Y : Names) (G : Bool) : List V → Hp → VK → Prop := fun vs H Q => ∃ h v x, vs = [x] ∧ Top Y H h v x ∧ Up h H ∧ okT G v = true ∧ Q (.str (strT v)) H
section
variable {X : Cx} {Y : Names} {G : Bool}
theorem cr_str (hY : Fits Y X) (hu : X.A.units + 64 < cLine) (hG : G = true → X.A.guards = some []) : CallR X (.type "str") (rStr Y G) := by
  intro pins s σ H vs us Q I rv hh
  obtain ⟨h, v, x, rfl, t, up, ok, q⟩ := hh
  obtain ⟨u, rfl, rx⟩ : ∃ u, us = [u] ∧ RelV x u := by
    cases rv with
    | cons a b => cases b; exact ⟨_, rfl, a⟩
  cases v with
  | non =>
    rw [show x = .non from t] at rx
    cases rx
    exact PySem.P.str_of_none ⟨.str _, H, I.tok _, ⟨_, rfl⟩, by rw [show strT .non = "None" by simp [strT, toD, PyData.shown]] at q; exact q⟩
  | bl b =>
    rw [show x = .bl b from t] at rx
    cases rx
    refine PySem.P.str_of_bool ⟨.str _, H, I.tok _, ⟨_, rfl⟩, ?_⟩
    cases b
    · rw [show strT (.bl false) = "False" by simp [strT, toD, PyData.shown]] at q
      exact q
    · rw [show strT (.bl true) = "True" by simp [strT, toD, PyData.shown]] at q
      exact q
  | int i =>
    rw [show x = .int i from t] at rx
    obtain ⟨tk, rfl⟩ := rx
    refine PySem.P.str_of_int (of_decide_eq_true ok) ⟨.str _, H, I.tok _, ⟨_, rfl⟩, ?_⟩
    rw [show strT (.int i) = (toString i : String) by simp [strT, toD, PyData.shown]] at q
    exact q
  | str b =>
    rw [show x = .str (strOf b) from t] at rx
    obtain ⟨tk, rfl⟩ := rx
    exact PySem.P.str_of_str ⟨.str _, H, I, ⟨_, rfl⟩, q⟩
  | tup xs =>
    obtain ⟨ok, k3⟩ := bAnd (show (G && IV.dat 60 (.tup xs) && (toD (.tup xs)).showable && decide ((toD (.tup xs)).shown.length ≤ 100000)) = true from ok)
    obtain ⟨ok, k2⟩ := bAnd ok
    obtain ⟨k0, k1⟩ := bAnd ok
    have d := t.dp up k1
    rw [hY.K] at d
    obtain ⟨as, r⟩ := Dp.reads I _ x u d rx
    obtain ⟨l1, l2⟩ := toD_lay 60 _ k1
    obtain ⟨a, ws, rfl, _⟩ := t
    cases rx
    refine str_of_reads r k2 (PyData.noDict_hsm (PyData.hasDict_of_canLay _ l1)) (hG k0) (by omega) (fun _ _ e => e) (fun h' u tk k => ⟨.str _, H, I.kept (t' := tk) k, ⟨_, rfl⟩, q⟩) ?_
    have := of_decide_eq_true k3
    rw [sizeLine_eq]
    omega
  | _ => cases ok
end
section
variable {R : Fr} {X : Cx} {G : Bool} {a : Expr} {oa ob : ODen} {p p2 : Pos} {T : Tab} {C : Vy.Callee}
theorem str_back {t : Str} : strOf t.cps.toList = t := by
  unfold strOf
  rw [Array.toArray_toList]
/-- str(e) -/
theorem vstr (hY : Fits R.Y X) (hu : X.A.units + 64 < cLine) (hG : G = true → X.A.guards = some []) (hg : Gl X "str") (hm : X.mg "str" = none) (ha : PE X a (tO R oa)) (hs : starEach [a] X.env = [(false, eval a X.env)] := by rfl) :
    PE X (.Call (.Name "str" p) [a] [] p2) (tE R (dStr G oa)) :=
  pe_weak (pe_callTy (cr_str hY hu hG) hg hm boot_str (pa_cons ha pa_nil hs) (by decide) (by decide) hs rfl) fun σ H Q t => by
    obtain ⟨e, h, F, S, w⟩ := t
    refine ⟨e, h, F, S, wpR_mono (wpR_bind.mp w) (fun ox e1 w1 => ?_) fun _ _ _ q => q⟩
    intro x H1 h1 F1 g1 S1 rx
    cases q : ox.at e1 with
    | none => rw [q] at w1; exact w1.elim
    | some v =>
      rw [q] at w1
      dsimp only at w1
      unfold strV at w1
      cases k : okT G v with
      | false => rw [k] at w1; exact w1.elim
      | true =>
        rw [k] at w1
        refine ⟨h1, v, x, rfl, S1.top rx q, S1.le, k, w1 (.str (strT v)) [] H1 h1 F1 g1 S1 ⟨rfl, ?_⟩ .nil⟩
        show V.str (strT v) = .str (strOf _)
        rw [str_back]
/-- .. of the caught error's attribute -/
theorem vstrX {c0 i : Nat} {er : Addr} {cls : Value} {d : Option Addr} {fs : List (Nat × IV)} (hY : Fits R.Y X) (hu : X.A.units + 64 < cLine) (hG : G = true → X.A.guards = some []) (hg : Gl X "str") (hm : X.mg "str" = none) (ha : PE X a (tXO R c0 i er cls d fs oa)) (hs : starEach [a] X.env = [(false, eval a X.env)] := by rfl) :
    PE X (.Call (.Name "str" p) [a] [] p2) (tXO R c0 i er cls d fs (oE (dStr G oa))) :=
  pe_weak (pe_callTy (cr_str hY hu hG) hg hm boot_str (pa_cons ha pa_nil hs) (by decide) (by decide) hs rfl) fun σ H Q t => by
    obtain ⟨hi, hc, e, h, F, S, xx, w⟩ := t
    refine ⟨hi, hc, e, h, F, S, xx, wpR_mono (wpR_bind.mp (wpR_bind.mp w)) (fun ox e1 w1 => ?_) fun _ _ _ q => q⟩
    intro x H1 h1 F1 g1 S1 rx
    cases q : ox.at e1 with
    | none => rw [q] at w1; exact w1.elim
    | some v =>
      rw [q] at w1
      dsimp only at w1
      unfold strV at w1
      cases k : okT G v with
      | false => rw [k] at w1; exact w1.elim
      | true =>
        rw [k] at w1
        refine ⟨h1, v, x, rfl, S1.top rx q, S1.le, k, w1 (.str (strT v)) H1 h1 F1 g1 S1 ?_⟩
        show V.str (strT v) = .str (strOf _)
        rw [str_back]
end
end Vy

end
section
set_option maxRecDepth 100000
set_option maxHeartbeats 2000000
/-! A law's own def, run by the caller; its last name is a ghost that holds the table of lambdas. -/
namespace Vy
open PySem PySem.Spec PyProof.Rows L2 StX
theorem Inv.ghost {X : Cx} {pins : List (Addr × Obj)} {σ : L2.St} {H : Hp} {s : Shared} {g : Nat} {v : Option V} (I : Inv X pins σ H s) (hi : ∀ x, X.N[g]? = some x → ¬ Vis X.env.scope x) : Inv X pins (σ.set g v) H s := by
  refine ⟨I.ok, I.os, I.bare, I.base, ?_, I.cell, I.free, I.freeC, I.pin, I.hok, by rw [List.length_set]; exact I.len⟩
  obtain ⟨m, hn, hl⟩ := I.loc
  refine ⟨m, hn, fun i x w e1 e2 e3 => ?_⟩
  by_cases z : i = g
  · subst z
    exact absurd e3 (hi x e1)
  · rw [List.getElem?_set_ne (Ne.symm z)] at e2
    exact hl i x w e1 e2 e3
theorem pss_ghost {X : Cx} {body : List Stmt} {t : TS} {g : Nat} {v : Option V} (hi : ∀ x, X.N[g]? = some x → ¬ Vis X.env.scope x) (h : PSs X body t) : PSs X body fun D σ H => t D (σ.set g v) H :=
  ⟨fun pins s σ H D I q => h.run pins s _ H D (Inv.ghost I hi) q⟩
section
variable {P : Program} {w : World} {K : PySem.W.Frag} {mg : Str → Option Value} {base : Heap}
theorem rfl_lst_ints {Y : Names} {h : Hp} : ∀ (k : List Int), RFL Y h (k.map .int) (k.map V.int) := rfl_ints
theorem lawV {Y : Names} {xc : Nat → Addr} {xr : XR} {params : Arguments} {body : List Stmt} {scope : Scope} {fa c Pt a : Addr} {fd : FuncData} {N : List Str} {k g : Nat} {b : SDen} {ns : List Int} {o : Obj} {x qual n0 : Str} (F : FunD K x qual params body scope [] [] fa fd) (hcode : fd.code = .ref c) (S : FnScope N [n0] scope)
    (hN : N.length = g + 2) (hinv : ∀ x, N[g + 1]? = some x → ¬ Vis scope x) {s : Shared} {H : Hp} (e0 : Env0 P w K mg base callerA [] s H) (hr : Room (k + 1) callerA) (hbi : BindsTo s fd ⟨[.ref a], []⟩ [(n0, .ref a)]) (hYP : Y.tP = Pt)
    (hP : H Pt = some (.tbl #[])) (ha : H a = some (.frz o (.lst (ns.map V.int))))
    (hw : wpR (b (.fz (.lst (ns.map .int)) :: (List.replicate g .und ++ [.tb]))) (fun f _ => f = .ret (.fz (.bl true))) fun _ _ _ => False)
    (hbody : Room k (callerA.deeper (envOfC qual scope s.heap.objs.size fa (.ref c))) → PSs (cxOf (L2.CX P w) P w K mg base N qual scope fa (.ref c) callerA [] s H fun _ _ _ => False) body (tS ⟨Y, fun _ _ _ _ => False, xc, xr, parOf 1 [] [.ref a], g + 2⟩ b)) :
    codeAny (model P w) callerA (.call (.ref fa) ⟨[.ref a], []⟩) (CR (L2.CX P w) [] P w H s (fun v _ => v = .bl true) fun _ _ _ => False) s := by
  obtain ⟨oc, od, dV, kV, doc, pm, an, cdv, ct, osl, rfl, lk, hcd, _, _⟩ := F.ex
  obtain rfl : cdv = .ref c := hcode
  refine LamX.run_ofS (vs := [.ref a]) (us := [.ref a]) lk hcd S hr e0 hbi (.cons rfl .nil) rfl fun hr' => ⟨_, pss_ghost (g := g + 1) (v := some .non) hinv (hbody hr'), ?_⟩
  have nPa : Pt ≠ a := fun z => by rw [z, ha] at hP; cases hP
  have len : (L2.start N [V.ref a]).length = g + 2 := by
    unfold L2.start
    rw [List.length_append, List.length_map, List.length_replicate, hN]
    simp
    omega
  have elen : (SV.fz (.lst (ns.map .int)) :: (List.replicate g .und ++ [.tb])).length = g + 2 := by simp
  have σ0 : ((L2.start N [V.ref a]).set (g + 1) (some .non))[0]? = some (some (.ref a)) := by
    rw [List.getElem?_set_ne (by omega)]
    unfold L2.start
    rfl
  have sub : Sub (fun y => if y = a then some (.frz o (.lst (ns.map V.int))) else none) H := fun y u e => by
    by_cases z : y = a
    · rw [z]
      have e : (if y = a then some (HO.frz o (.lst (ns.map V.int))) else none) = some u := e
      rw [if_pos z] at e
      rw [ha]
      exact e
    · have e : (if y = a then some (HO.frz o (.lst (ns.map V.int))) else none) = some u := e
      rw [if_neg z] at e
      cases e
  refine ⟨SV.fz (.lst (ns.map .int)) :: (List.replicate g .und ++ [.tb]), fun y => if y = a then some (.frz o (.lst (ns.map V.int))) else none, fun i => if i = g + 1 then [Pt] else [], ⟨?_, fun i sv hs => ?_, fun i hi => ?_, fun i => ?_, fun i j hij y hy => ?_, fun i y hy => ?_, sub.up⟩, ⟨fun i y hy => ?_, ?_⟩, wpR_mono hw (fun f e' q => ?_) fun _ _ _ q => q.elim⟩
  · rw [List.length_set, len, elen]
  · by_cases h0 : i = 0
    · subst h0
      cases hs
      exact .inr ⟨.ref a, σ0, by show (if (0 : Nat) = g + 1 then [Pt] else []) = []; rw [if_neg (by omega)], a, ns.map V.int, rfl, .inr ⟨o, if_pos rfl⟩, rfl_ints ns⟩
    · obtain ⟨j, rfl⟩ : ∃ j, i = j + 1 := ⟨i - 1, by omega⟩
      rw [List.getElem?_cons_succ] at hs
      by_cases hj : j < g
      · rw [List.getElem?_append_left (by simpa using hj)] at hs
        have := (List.mem_replicate.mp (List.mem_of_getElem? hs)).2
        exact .inl ⟨this, if_neg (by omega)⟩
      · have hj2 : j = g := by
          have := (List.getElem?_eq_some_iff.mp hs).1
          simp at this
          omega
        subst hj2
        rw [List.getElem?_append_right (by simp)] at hs
        simp at hs
        subst hs
        refine .inr ⟨.non, List.getElem?_set_self (by rw [len]; omega), #[], rfl, ?_, ?_, True.intro, fun pos cv z => ?_⟩
        · rw [hYP]; exact if_pos rfl
        · rw [hYP]; exact hP
        · simp [codeAmong] at z
  · exact if_neg (by rw [elen] at hi; omega)
  · by_cases z : i = g + 1
    · show (if i = g + 1 then [Pt] else []).Nodup
      rw [if_pos z]; simp
    · show (if i = g + 1 then [Pt] else []).Nodup
      rw [if_neg z]; exact .nil
  · have hy : y ∈ (if i = g + 1 then [Pt] else []) := hy
    by_cases z : i = g + 1
    · show y ∉ (if j = g + 1 then [Pt] else [])
      rw [if_neg (by omega)]; simp
    · rw [if_neg z] at hy; cases hy
  · have hy : y ∈ (if i = g + 1 then [Pt] else []) := hy
    by_cases z : i = g + 1
    · rw [if_pos z] at hy
      exact if_neg (by rw [List.mem_singleton.mp hy]; exact nPa)
    · rw [if_neg z] at hy; cases hy
  · have hy : parOf 1 [] [V.ref a] i = some y := hy
    unfold parOf at hy
    match i with
    | 0 =>
      have hy : some (V.ref a) = some y := hy
      rw [← hy]; exact σ0
    | n + 1 => cases hy
  · show (List.set _ _ _).length = g + 2
    rw [List.length_set, len]
  · subst q
    intro σ' y A H' h' F' g' S' P' rs ow
    obtain ⟨_, r⟩ := rs
    exact r
end
end Vy

end
section
set_option maxRecDepth 100000
set_option maxHeartbeats 2000000
/-! The end of a law whose own def makes lambdas, by a run at the caller alone. -/
namespace Vy
open PySem PySem.Spec PyProof.Rows L2 StX LamX
/-- what is told of at the law's entry: the script, the table -/
def atEntry (a Pt : Addr) (o : Obj) (ns : List Int) : Hp := fun y => if y = a then some (.frz o (.lst (ns.map V.int))) else if y = Pt then some (.tbl #[]) else none
theorem law_at {P : Program} {w : World} {K : PySem.W.Frag} {mg mb : Str → Option Value} {fa a c Pt : Addr} {z0 : Shared} {us : List Value} {ns : List Int}
    (KX : K.In z0.heap) (hG : z0.heap.Ns mainGlobals mg) (hB : z0.heap.Ns builtinsNs mb) (hBB : ∀ x : Str, x ≠ "__name__" → mb x = bootBuiltins x) (hlim : z0.heap.NoLimit) (hgen : z0.gens = #[])
    (hT : z0.heap.get? Pt = some { cls := .none, data := .fields #[] }) (nT : K.lookup Pt = none) (C : PySem.W.CodeHd z0.heap c Pt)
    (hbm : ∃ (bm : Addr) (ob : Obj), mg "__builtins__" = some (.ref bm) ∧ bm ≠ builtinsNs ∧ z0.heap.get? bm = some ob ∧ ob.cls = .type "module" ∧ ob.dict = some builtinsNs ∧ ob.data = .plain)
    (ha : z0.heap.get? a = some { cls := .type "list", data := .seq us.toArray }) (hi : IntsAre us ns) (hl : ns.length ≤ sizeLine) (nA : K.lookup a = none)
    (run : ∀ base : Heap, K.In base → base.Ns mainGlobals mg → TabB base mg c Pt → Env0 P w K mg base callerA [] z0 (atEntry a Pt { cls := .type "list", data := .seq us.toArray } ns) → a ≠ Pt →
      codeAny (model P w) callerA (.call (.ref fa) ⟨[.ref a], []⟩) (CR (L2.CX P w) [] P w (atEntry a Pt { cls := .type "list", data := .seq us.toArray } ns) z0 (fun v _ => v = .bl true) fun _ _ _ => False) z0) :
    codeAny (model P w) callerA (.call (.ref fa) ⟨[.ref a], []⟩) (fun r z => r = .ok (.ret (.bool true)) ∧ OldK z0.heap z.heap ∧ z.os = z0.os ∧ AllBare z.gens) z0 := by
  have rv := vals_ints hi
  have nPa : a ≠ Pt := fun q => by
    rw [q, hT] at ha
    have q' : Data.fields #[] = Data.seq us.toArray _ := congrArg Obj.data (Option.some.inj ha)
    cases q'
  generalize hH : atEntry a Pt { cls := .type "list", data := .seq us.toArray } ns = H at run
  have atA : H a = some (.frz { cls := .type "list", data := .seq us.toArray } (.lst (ns.map V.int))) := by rw [← hH]; exact if_pos rfl
  have atP : H Pt = some (.tbl #[]) := by rw [← hH]; exact (if_neg (Ne.symm nPa)).trans (if_pos rfl)
  have els : ∀ {y}, y ≠ a → y ≠ Pt → H y = none := fun {y} q1 q2 => by rw [← hH]; exact (if_neg q1).trans (if_neg q2)
  have hok : HOk P w H z0.heap := fun y u q => by
    by_cases q1 : y = a
    · rw [q1, atA] at q
      cases q
      rw [q1]
      exact ⟨ha, by rw [List.length_map]; exact hl, us, _, rv, ha⟩
    · by_cases q2 : y = Pt
      · rw [q2, atP] at q
        cases q
        rw [q2]
        exact hT
      · rw [els q1 q2] at q
        cases q
  have base_of : ∀ {y : Addr} {o : Obj}, z0.heap.get? y = some o → H y = none → (hidT z0.heap H).get? y = some o := fun q n => hidT_get q n
  have away : ∀ {y : Addr} {o : Obj}, z0.heap.get? y = some o → (∀ vs n, o.data ≠ .seq vs n) → o.data ≠ .fields #[] → H y = none := fun {y o} q d1 d2 => by
    refine els (fun q1 => ?_) fun q2 => ?_
    · rw [q1, ha] at q
      cases q
      exact (d1 _ _ rfl).elim
    · rw [q2, hT] at q
      cases q
      exact (d2 rfl).elim
  have awayD : ∀ {y : Addr} {o : Obj} {es : Array DictEntry} {ep : Nat}, z0.heap.get? y = some o → o.data = .dict es ep → H y = none := fun {y o es ep} q d => by
    refine away q (fun vs n q2 => ?_) fun q2 => ?_ <;> (rw [d] at q2; cases q2)
  have nsB : ∀ {y : Addr} {m : Str → Option Value}, z0.heap.Ns y m → (hidT z0.heap H).Ns y m := fun {y m} ⟨o, es, ep, q, d, r⟩ => ⟨o, es, ep, base_of q (awayD q d), d, r⟩
  have KB : K.In (hidT z0.heap H) := fun y o q => base_of (KX y o q) (els (fun q1 => by rw [q1, nA] at q; cases q) fun q2 => by rw [q2, nT] at q; cases q)
  have M0 : L2.Mod K mg (hidT z0.heap H) := ⟨KB, nsB hG, ⟨mb, nsB hB, hBB⟩, let ⟨mc, q1, q2⟩ := hlim; ⟨mc, nsB q1, q2⟩⟩
  have TB : TabB (hidT z0.heap H) mg c Pt := by
    refine ⟨?_, ?_, fun q => ?_⟩
    · obtain ⟨o, ws, file, tf, flags, tg, inF, text, tt, e1, r1, r2, r3, r4, r5, r6, r7, r8, hne⟩ := C
      refine ⟨o, ws, file, tf, flags, tg, inF, text, tt, base_of e1 (away e1 (fun vs n q => ?_) fun q => ?_), r1, r2, r3, r4, r5, r6, r7, r8, hne⟩ <;> rw [r2] at q <;> cases q
      simp at r3
    · obtain ⟨bm, ob, b1, b2, b3, b4, b5, b6⟩ := hbm
      have nG : bm ≠ mainGlobals := fun q => by
        obtain ⟨o, es, ep, e, hd, _⟩ := hG
        rw [q, e] at b3
        cases b3
        rw [hd] at b6
        cases b6
      have nP : bm ≠ Pt := fun q => by
        rw [q, hT] at b3
        cases b3
        cases b6
      refine ⟨bm, ob, b1, b2, nG, nP, base_of b3 (away b3 (fun vs n q => ?_) fun q => ?_), b4, b5, b6⟩ <;> (rw [b6] at q; cases q)
    · obtain ⟨o, es, ep, e, hd, _⟩ := hG
      rw [q, hT] at e
      cases e
      cases hd
  have e0 : Env0 P w K mg (hidT z0.heap H) callerA [] z0 H := ⟨rfl, M0, fun y o q => of_hidT q, Nat.le_of_eq (hidT_size _ _), True.intro, fun y q => absurd (show y ∈ ([] : List Addr) from q) (by simp), hok, .of_eq hgen⟩
  refine codeAny_mono (run _ KB (nsB hG) TB e0 nPa) fun r z q => ?_
  cases r with
  | error e =>
    obtain ⟨_, _, _, _, _, _, _, _, _, _, _, _, q⟩ := q
    exact q.elim
  | ok fl =>
    cases fl with
    | next => exact q.elim
    | brk => exact q.elim
    | cont => exact q.elim
    | ret u =>
      obtain ⟨v, H', os, bare, un, hok', r', qv⟩ := q
      obtain rfl : v = .bl true := qv
      obtain rfl : u = Value.bool true := r'
      have same : ∀ y o, y ≠ Pt → z0.heap.get? y = some o → z.heap.get? y = some o := fun y o nP q => by
        by_cases q1 : y = a
        · rw [q1] at q ⊢
          obtain ⟨e2, _⟩ := hok' a _ (un.frzs a _ _ atA)
          rw [ha] at q
          cases q
          exact e2
        · exact un.keep y o q (els q1 nP) (fun q => absurd (show y ∈ ([] : List Addr) from q) (by simp)) (by simp)
      obtain ⟨more, grown⟩ : ∃ more : Array Value, z.heap.get? Pt = some { cls := .none, data := .fields more } := by
        obtain ⟨more, q⟩ := un.tbls Pt #[] atP
        exact ⟨_, hok' Pt _ q⟩
      refine ⟨rfl, ⟨fun y o q => ?_, fun y o q => ?_⟩, os, bare⟩
      · by_cases hy : y = Pt
        · rw [hy, hT] at q
          cases q
          rw [hy]
          exact .inr (.inl ⟨(C.tab hT).isCodeTable, rfl, #[], more, rfl, by rw [Array.empty_append]; exact grown⟩)
        · exact .inl (same y o hy q)
      · by_cases hy : y = Pt
        · rw [hy]
          exact ⟨_, grown⟩
        · exact ⟨o, same y o hy q⟩
/-- the written part without tables, without lists -/
def lean (o : Obj) : Bool := match o.data with
  | .fields _ => (match o.cls with
    | .none => false
    | _ => true)
  | .seq _ _ => decide (o.cls ≠ .type "list")
  | _ => true
def Thin (K : PySem.W.Frag) : Prop := ∀ a o, K.lookup a = some o → lean o = true
theorem law_walk {l : PySem.W.OpenLaw} {n : Nat} {q : Program} {loose : List Str} {XP : (Str → Option Value) → Heap → Prop} {YP : World → Heap → Prop} {d : DefRec}
    (hn : l.most = some n) (hn2 : n ≤ sizeLine) (hdf : d.params.defaults = []) (hrec : ((recsOf q).any fun e => e.name == d.name) = true)
    (F : ∀ (w : World) (mg : Str → Option Value) (fa : Addr) (h : Heap), YP w h → h.Ns mainGlobals mg → mg d.name = some (.ref fa) → ∃ (K : PySem.W.Frag) (fd : FuncData), K.In h ∧ Thin K ∧ (∃ oc od osl, K.lookup fa = some ⟨oc, od, .func fd, osl⟩) ∧
      ∀ (base : Heap) (z0 : Shared) (a c Pt : Addr) (o : Obj) (ns : List Int), fd.code = .ref c → ns.length ≤ n → K.In base → base.Ns mainGlobals mg → TabB base mg c Pt → a ≠ Pt → Env0 l.prog w K mg base callerA [] z0 (atEntry a Pt o ns) →
        codeAny (model l.prog w) callerA (.call (.ref fa) ⟨[.ref a], []⟩) (CR (L2.CX l.prog w) [] l.prog w (atEntry a Pt o ns) z0 (fun v _ => v = .bl true) fun _ _ _ => False) z0) :
    PySem.W.WalkO q loose XP YP l.row.toRowW d [] (fun f vs => PySem.call f vs) := by
  refine Att.attach_callB hn hdf fun w s₀ z0 mg mb fa o pm cd doc a us ns G Y ho hd hcd hmg hobj hints hlen hbits hg => ?_
  obtain ⟨K, fd, KX, thin, ⟨oc, od, osl, lk⟩, run⟩ := F w mg fa _ Y G.T.g hmg
  obtain ⟨dL, hm, hnm⟩ := List.any_eq_true.mp hrec
  have hnm : dL.name = d.name := beq_iff_eq.mp hnm
  obtain ⟨a', o', fd', c, Pt, h1, h2, h3, h4, h5, h6⟩ := G.T.tab dL hm
  rw [hnm, hmg] at h1
  cases h1
  have g1 := KX _ _ lk
  rw [g1] at h2
  cases h2
  cases h3
  have hT : z0.heap.get? Pt = some { cls := .none, data := .fields #[] } := by
    obtain ⟨_, hP⟩ := h6
    exact hP
  refine law_at KX G.T.g G.T.b G.T.builtins G.T.nolimit hg hT ?_ (PySem.W.CodeHd.of h5 h6) G.T.bmain hobj hints (Nat.le_trans hlen hn2) ?_ fun base KB NB TB e0 nPa => run base z0 a c Pt _ ns h4 hlen KB NB TB nPa e0
  · cases k : K.lookup Pt with
    | none => rfl
    | some u =>
      have t := thin _ _ k
      have g2 := KX _ _ k
      rw [hT] at g2
      cases g2
      cases t
  · cases k : K.lookup a with
    | none => rfl
    | some u =>
      have t := thin _ _ k
      have g2 := KX _ _ k
      rw [hobj] at g2
      cases g2
      simp [lean] at t
end Vy

end
section
set_option maxRecDepth 100000
set_option maxHeartbeats 2000000
/-! Unary minus; where lambdas stand in a text; the head's facts without tables and lists. -/
namespace Vy
open PySem PySem.Spec PyProof.Rows L2 StX
section
variable {R : Fr} {X : Cx} {a : Expr} {oa : ODen} {pos : Pos}
theorem vneg (ha : PE X a (tO R oa)) : PE X (.UnaryOp .USub a pos) (tE R (dNeg oa)) := pe_weak (pe_un un_neg ha) fun σ H Q t => by
  obtain ⟨e, h, F, S, w⟩ := t
  refine ⟨e, h, F, S, wpR_mono (wpR_bind.mp w) (fun ox e1 w1 => ?_) fun _ _ _ q => q⟩
  intro x H1 h1 F1 g1 S1 rx
  cases q : ox.at e1 with
  | none => rw [q] at w1; exact w1.elim
  | some v =>
    rw [q] at w1
    have tv := S1.top rx q
    cases v with
    | int i => exact ⟨i, tv, w1 (.int (-i)) [] H1 h1 F1 g1 S1 ⟨rfl, rfl⟩ .nil⟩
    | _ => exact w1.elim
end
/-- name = [e for t in it if ..], the name a plain local -/
theorem zsetlc {R : Fr} {X : Cx} {T : Tab} {C : Vy.Callee} {elt tg iter : Expr} {ifs : List Expr} {scope : Scope} {own : List (Str × Nat)} {ownN : List Nat} {pos spos py : Pos} {y : Str} {t : Tg} {it : IDen} {os : List ODen} {d : Den} (i : Nat) (hn : R.par i = none) (hc : X.calm = true) (hN : X.N.Nodup) (hy : X.N[i]? = some y)
    (hyl : X.env.scope.names.lookup y = some .local) (hsw : swapsWith (.ListComp elt [⟨tg, iter, ifs, 0⟩] scope pos) (some (.Name y py)) spos.line X.env = pure true) (ok : BlkOk X.N X.env.scope scope own) (ho : own.map (·.2) = ownN) (hi : PI X tg iter (tI R it))
    (hg : ∀ (s : Shared) (H : Hp) (C : Addr) (cl : List (Str × Addr)) (fp : List Addr), PG (X.blk s H scope (compEnvC scope cl C X.env) fp) tg (tG R.quiet (kOwn ownN) t))
    (ht : ∀ (s : Shared) (H : Hp) (C' : Addr) (cl : List (Str × Addr)) (fp : List Addr), PTs (X.blk s H scope (compEnvC scope cl C' X.env) fp) ifs (tT R.quiet (tAll T C os)))
    (he : ∀ (s : Shared) (H : Hp) (C : Addr) (cl : List (Str × Addr)) (fp : List Addr), PE (X.blk s H scope (compEnvC scope cl C X.env) fp) elt (tE R.quiet d)) (hs : ∀ x, foldedSetIterable iter X.env x = pure x := by intro _; rfl) :
    PS X (.Assign [.Name y py] (.ListComp elt [⟨tg, iter, ifs, 0⟩] scope pos) spos) (tS R (sAsg (.n i) (dLc T C d t it os ownN))) := by
  subst ho
  refine ps_weak (ps_setLc (i := i) hc hN hy hyl hsw hi ok hg ht he hs) fun D σ H t => ?_
  obtain ⟨e, h, F, S, P, w⟩ := t
  refine tLc_of (Q := fun x H1 => gName i x σ H1 D.nx) ⟨e, h, F, S, wpR_mono (wpR_bind.mp w) (fun r e1 w1 => ?_) fun _ _ _ q => q.x P⟩
  intro x A H1 h1 F1 g1 S1 rs o
  obtain ⟨F2, S2, g2⟩ := S1.set rs o g1 i
  exact w1 _ H1 h1 F2 g2 S2 (P.set hn)
theorem cb_list5 {X : Cx} {Y : Names} (hY : Fits Y X) (hc : X.calm = true) : CallR X (.type "list") (rBl Y (bltV 5)) := by
  intro pins s σ H vs us Q I rv hh
  obtain ⟨h, ws, sv, t, up, e, g⟩ := hh
  have ls := cb_list hY pins s σ H vs us Q I rv
  obtain ⟨w, rfl⟩ := bl1 e
  cases w with
  | tup xs => cases e; exact ls ⟨h, [.tup xs], _, t, up, rfl, g⟩
  | lst xs => cases e; exact ls ⟨h, [.lst xs], _, t, up, rfl, g⟩
  | dct kvs =>
    cases e
    obtain ⟨x, rfl, tx⟩ := one_of t
    obtain ⟨a, rfl, d⟩ := Top.keysV hY I up tx
    rw [Vals.ref1 rv]
    obtain ⟨lo, z, o, es', ep, h1, h2, h3, e0⟩ := d
    have l0 : es'.size = (kvs.map (·.1)).length := by have := e0.length; rw [List.length_map, Array.length_toList] at this; exact this
    refine PySem.W.kdl_call (kdl_raw lo h2 h3) (I.ok.hd hc) h1 (by omega) fun h' tk acc' c' kp at_ its => ?_
    have hn : H s.heap.objs.size = none := I.hok.fresh (Nat.le_refl _)
    have hl : acc'.toList.length = (kvs.map (·.1)).length := by rw [Array.length_toList, its.1, l0]
    have e1 : PySem.W.EachIs (SvR Y h) acc'.toList (kvs.map (·.1)) := each_at hl fun j v k q1 q2 => by
      have q1 : acc'[j]? = some v := by rw [← Array.getElem?_toList]; exact q1
      obtain ⟨en, h4, h5⟩ := its.2 j v q1
      obtain ⟨b, h6, h7⟩ := each_get e0 j en.key (by rw [List.getElem?_map, Array.getElem?_toList, h4]; rfl)
      rw [q2] at h6
      cases h6
      rw [h5]
      exact h7
    obtain ⟨xs, rl, vl⟩ := each_svr e1
    have hz : xs.length ≤ sizeLine := by rw [rl.length]; exact z
    exact ⟨.ref s.heap.objs.size, _, I.laid (o := .lst xs) (t' := tk) kp (Nat.le_refl _) ⟨hz, acc'.toList, c', vl, by simpa using at_⟩, rfl, g.nl up rl hn⟩
  | _ => cases e
/-! ### places in a text -/
def noS : Stmt := .Pass ⟨0, 0, 0, 0⟩
def noE : Expr := .Name "" ⟨0, 0, 0, 0⟩
def sB (i : Nat) : Stmt → Stmt
  | .For _ _ b _ _ => b.getD i noS
  | .If _ b _ _ => b.getD i noS
  | .While _ b _ _ => b.getD i noS
  | .Try b _ _ _ _ => b.getD i noS
  | _ => noS
def sElse (i : Nat) : Stmt → Stmt
  | .If _ _ b _ => b.getD i noS
  | _ => noS
def sIt : Stmt → Expr
  | .For _ it _ _ _ => it
  | .Assign _ v _ => v
  | .Return (some v) _ => v
  | .Expr v _ => v
  | _ => noE
def eEl (i : Nat) : Expr → Expr
  | .Tuple es _ _ => es.getD i noE
  | .List es _ => es.getD i noE
  | .Call _ es _ _ => es.getD i noE
  | _ => noE
def lamA : Expr → Arguments
  | .Lambda a _ _ _ => a
  | _ => ⟨[], [], none, [], [], none, []⟩
def lamB : Expr → Expr
  | .Lambda _ b _ _ => b
  | _ => noE
def lamSc : Expr → Scope
  | .Lambda _ _ s _ => s
  | _ => ⟨.function, [], false, false, []⟩
/-! ### the head's facts -/
theorem frG_mem {g : Addr → Option Obj} {a : Addr} {o : Obj} : ∀ {as : List Addr}, (He.frG g as).lookup a = some o → a ∈ as ∧ g a = some o
  | [], e => nomatch (show (none : Option Obj) = some o from e)
  | b :: r, e => by
    have go : (He.frG g r).lookup a = some o → a ∈ b :: r ∧ g a = some o := fun q => ⟨List.mem_cons_of_mem _ (frG_mem q).1, (frG_mem q).2⟩
    unfold He.frG at e
    rw [List.filterMap_cons] at e
    cases hb : g b with
    | none =>
      rw [hb] at e
      exact go e
    | some ob =>
      rw [hb] at e
      have e : (match a == b with | true => some ob | false => (He.frG g r).lookup a) = some o := e
      cases q : (a == b) with
      | true =>
        rw [q] at e
        cases e
        have := beq_iff_eq.mp q
        subst this
        exact ⟨List.mem_cons_self, hb⟩
      | false =>
        rw [q] at e
        exact go e
def thinAs (g : Addr → Option Obj) (as : List Addr) : List Addr := as.filter fun a => match g a with
  | some o => lean o
  | none => false
theorem frG_thin {g : Addr → Option Obj} {as : List Addr} : Thin (He.frG g (thinAs g as)) := fun a o e => by
  obtain ⟨m, q⟩ := frG_mem e
  have := (List.mem_filter.mp m).2
  rw [q] at this
  exact this
def obsT (n : Nat) (ex : PySem.W.Frag → Bool) (fa : List He.Fa) (fn : List He.DefD) (g : Addr → Option Obj) : He.AlD :=
  let K := He.frG g (thinAs g (He.asD g n))
  ((He.obsD fa fn K).1 && ex K, (He.obsD fa fn K).2)
def hookT (n : Nat) (ex : PySem.W.Frag → Bool) (fa : List He.Fa) (fn : List He.DefD) : PySem.W.Hook where
  α := He.AlD
  obs := fun s => obsT n ex fa fn s.heap.get?
  val := fun _ => He.valD fn
  says := fun _ h => ∃ K : PySem.W.Frag, K.In h ∧ Thin K ∧ He.SaysD fa fn K ∧ ex K = true
  of := fun _ _ e => by
    have e1 := congrArg Prod.fst e
    have e2 := congrArg Prod.snd e
    obtain ⟨a, b⟩ := bAnd e1
    exact ⟨_, He.frG_in, frG_thin, Prod.ext a e2, b⟩
  keeps := fun _ _ _ ⟨K, hK, t, c, x⟩ k => ⟨K, PySem.W.Frag.In.keeps hK k, t, c, x⟩
theorem obsT_eq {n : Nat} {ex : PySem.W.Frag → Bool} {fa : List He.Fa} {fn : List He.DefD} {g : Addr → Option Obj} {s : Shared} (h : ∀ a, g a = s.heap.get? a) : obsT n ex fa fn g = (hookT n ex fa fn).obs s := by
  have e : g = s.heap.get? := funext h
  rw [e]
  rfl
/-! ### own errors -/
def oexB (K : PySem.W.Frag) (C : Addr) : Bool := (match K.lookup C with
  | some ⟨.type "type", _, .cls cd, sl⟩ => (match cd.mro, sl.toList with
    | .ref C' :: bm, [_, _, _, _, some (.builtin m), _] => C' == C && m == "ValueError.__new__" && !cd.hasDel && cd.hasDict && HandSPX.refsVE bm
    | _, _ => false)
  | _ => false) && decide (PySem.W.findIn K (.ref C) "__setattr__" = some (some (.builtin "object.__setattr__"))) && decide (PySem.W.subIn K (.ref C) (.type "BaseException") = some true) && decide (PySem.W.typeIn K (.ref C) = some (.type "type")) && PySem.W.keepIn K (.ref C)
theorem oexB_ok {K : PySem.W.Frag} {C : Addr} (h : oexB K C = true) : OexC K C := by
  obtain ⟨h, h5⟩ := bAnd h
  obtain ⟨h, h4⟩ := bAnd h
  obtain ⟨h, h3⟩ := bAnd h
  obtain ⟨h, h2⟩ := bAnd h
  refine ⟨?_, of_decide_eq_true h2, of_decide_eq_true h3, of_decide_eq_true h4, h5⟩
  split at h
  · rename_i dd cd sl ho
    split at h
    · rename_i C' bm k0 k1 k2 k3 m k5 hm hs
      obtain ⟨h, r5⟩ := bAnd h
      obtain ⟨h, r4⟩ := bAnd h
      obtain ⟨h, r3⟩ := bAnd h
      obtain ⟨r1, r2⟩ := bAnd h
      obtain rfl := beq_iff_eq.mp r1
      obtain rfl := beq_iff_eq.mp r2
      obtain ⟨nm, bs, mro, ns, qn, hd, sn, sub, ab, col, del⟩ := cd
      dsimp only at hm r3 r4
      subst hm
      obtain rfl : del = false := by cases del; rfl; cases r3
      subst r4
      obtain rfl : sl = #[k0, k1, k2, k3, some (.builtin "ValueError.__new__"), k5] := by
        obtain ⟨l⟩ := sl
        simp only at hs
        rw [hs]
      exact ⟨_, _, _, _, _, _, _, _, _, _, _, _, _, _, _, ho, r5⟩
    · cases h
  · cases h
end Vy

end
section
set_option maxRecDepth 100000
set_option maxHeartbeats 400000
/-! What the laws' own numbers do: a draw below n gives a number below n. -/
namespace Vy
open PySem PySem.Spec PyProof.Rows L2 StX
def bNum (C : Callee) : SDen := (sSeq (sAsg (.cons (.n 2) (.cons (.n 3) .nil)) (dIte [] C (oE (dCmp [] C 1 (oS 0) (oE (dLst lNil)))) (dTup (lCons (dSub (oS 0) (oE (dBin 4 (oS 1) (oE (dBlt [] C 0 (osCons (oS 0) osNil)))))) (lCons (dBin 3 (oS 1) (oE (dBlt [] C 0 (osCons (oS 0) osNil)))) lNil))) (dTup (lCons (dCon (.int 12345)) (lCons (dCon (.int 0)) lNil))))) (sSeq (sAsg (.n 4) (dIte [] C (oE (dCmp [] C 2 (oS 3) (oE (dCon (.int 60))))) (dBin 1 (oS 2) (oE (dBin 5 (oE (dCon (.int 10))) (oE (dCon (.int 18)))))) (dCon (.int 0)))) (sSeq (sFr (.n 5) (iRng1 (oE (dBin 4 (oE (dBlt [] C 15 (osCons (oS 3) osNil))) (oE (dCon (.int 60)))))) (sAsg (.n 4) (dBin 3 (oS 4) (oE (dCon (.int 1009)))))) (sSeq (sIf [] C (oE (dCmp [] C 4 (oS 4) (oE (dCon (.int 0))))) (sRet (dBin 4 (oE (dBlt [] C 15 (osCons (oS 4) osNil))) (oE (dCon (.int 1009))))) sPas) (sSeq (sAsg (.n 6) (dBin 4 (oE (dBin 0 (oE (dBin 2 (oE (dBlt [] C 15 (osCons (oE (dBin 0 (oS 2) (oE (dBin 2 (oE (dCon (.int 977))) (oS 1))))) osNil))) (oE (dCon (.int 48271))))) (oE (dBin 2 (oE (dCon (.int 31))) (oE (dBlt [] C 0 (osCons (oS 0) osNil))))))) (oE (dCon (.int 2147483647))))) (sSeq (sAsg (.n 6) (dBin 4 (oE (dBin 0 (oE (dBin 2 (oS 6) (oS 6))) (oE (dBin 2 (oE (dCon (.int 40503))) (oS 1))))) (oE (dCon (.int 2147483629))))) (sRet (dBlt [] C 15 (osCons (oE (dBin 4 (oE (dBin 0 (oE (dBin 2 (oS 6) (oE (dCon (.int 69621))))) (oE (dBin 3 (oS 6) (oE (dCon (.int 977))))))) (oE (dCon (.int 2147483587))))) osNil)))))))))
def bTake (f : Nat) (C : Callee) : SDen := (sSeq (sAugs 0 (oE (dCon (.int 1))) 0 (oE (dCon (.int 1)))) (sRet (dBin 4 (oE (dBlt [] C 15 (osCons (oE (dCall C f (aVal (dSub (oS 0) (oE (dCon (.int 0)))) (aVal (dBlt [] C 15 (osCons (oE (dSub (oS 0) (oE (dCon (.int 1))))) osNil)) aNil)))) osNil))) (oS 1))))

theorem okVoid {P : Program} {w : World} {K : PySem.W.Frag} {mg : Str → Option Value} {base : Heap} {Y : Names} {xc : Nat → Addr} {xr : XR} {F : List FD} {t k f : Nat} {fa : Addr} {fd : FuncData} {ps : List Str} : FnOk P w K mg base (L2.CX P w) k fa fd ps (spV Y xc xr (callN F t 0) f) :=
  ⟨fun _ _ _ _ ⟨_, _, _, _, w⟩ => w.elim, fun _ _ _ _ _ _ _ _ _ _ _ _ _ ⟨_, _, _, _, w⟩ => w.elim⟩
theorem all_ints : ∀ {xs : List IV}, (xs.all fun x => match x with
    | .int _ => true
    | _ => false) = true → ∃ k : List Int, xs = k.map .int
  | [], _ => ⟨[], rfl⟩
  | .int i :: xs, h => by
    obtain ⟨k, e⟩ := all_ints (xs := xs) (bAnd h).2
    exact ⟨i :: k, by rw [e]; rfl⟩
  | .non :: _, h => by cases (bAnd h).1
  | .bl _ :: _, h => by cases (bAnd h).1
  | .str _ :: _, h => by cases (bAnd h).1
  | .tup _ :: _, h => by cases (bAnd h).1
  | .lst _ :: _, h => by cases (bAnd h).1
  | .dct _ :: _, h => by cases (bAnd h).1
  | .ins _ _ :: _, h => by cases (bAnd h).1
  | .fn _ :: _, h => by cases (bAnd h).1
  | .cls _ :: _, h => by cases (bAnd h).1
  | .ty _ :: _, h => by cases (bAnd h).1
  | .lam _ :: _, h => by cases (bAnd h).1
theorem scOk_ints {s : IV} (h : scOk s = true) : ∃ xs : List Int, s = .lst (xs.map .int) ∧ xs.length < 1000 := by
  cases s with
  | lst xs =>
    obtain ⟨h1, h2⟩ := bAnd h
    obtain ⟨k, rfl⟩ := all_ints h2
    exact ⟨k, rfl, by simpa using Nat.blt_eq.mp h1⟩
  | _ => cases h
theorem dat_ints (n : Nat) : ∀ k : List Int, IV.datL (n + 1) (k.map .int) = true
  | [] => by rw [List.map_nil, IV.datL]
  | i :: k => by rw [List.map_cons, IV.datL, dat_ints n k, IV.dat]; rfl
theorem lstAt_map : ∀ {k : List Int} {n : Nat}, n < k.length → ∃ i, lstAt (k.map IV.int) n = some (.int i)
  | [], _, h => absurd h (by simp)
  | i :: k, 0, _ => ⟨i, rfl⟩
  | i :: k, n + 1, h => lstAt_map (k := k) (by simpa using h)
theorem idx_ints {k : List Int} (j : Int) (h : k ≠ []) : ∃ i, idx (k.map .int) (j % (k.length : Int)) = some (.int i) := by
  have hp : 0 < k.length := List.length_pos_iff.mpr h
  obtain ⟨m, hm⟩ := Int.eq_ofNat_of_zero_le (Int.emod_nonneg j (show (k.length : Int) ≠ 0 by omega))
  have hlt : j % (k.length : Int) < k.length := Int.emod_lt_of_pos j (by omega)
  rw [hm] at hlt ⊢
  have hlt : m < k.length := by omega
  unfold idx
  have e : ixOf (k.map IV.int).length (m : Int) = some m := by
    show (match Nat.blt m (k.map IV.int).length with
      | true => some m
      | false => none) = some m
    rw [Nat.blt_eq.mpr (by rw [List.length_map]; exact hlt)]
  rw [e]
  exact lstAt_map hlt
/-! ### evaluation -/
theorem bind_ok {α β : Type} {a : α} {e : Env} {f : α → Env → Res β} : (Res.ok a e).bind f = f a e := rfl
theorem bind_exc {α β : Type} {c : Nat} {fs : List (Nat × IV)} {e : Env} {f : α → Env → Res β} : (Res.exc c fs e).bind f = .exc c fs e := rfl
theorem getE_0 {a : SV} {l : Env} : getE (a :: l) 0 = a := rfl
theorem getE_s {a : SV} {l : Env} {n : Nat} : getE (a :: l) (n + 1) = getE l n := rfl
theorem setE_0 {a v : SV} {l : Env} : setE (a :: l) 0 v = v :: l := rfl
theorem setE_s {a v : SV} {l : Env} {n : Nat} : setE (a :: l) (n + 1) v = a :: setE l n v := rfl
theorem fits_of {n : Nat} (h : n ≤ 1000000) : fits n = true := Nat.ble_eq.mpr h
theorem retO_some {α : Type} {a : α} {e : Env} {m : Nat} : retO (some a) e m = .ok a e := rfl
theorem looked2_ev {a b : ODen} {k : IV → IV → Env → Res SV} {e e1 e2 : Env} {x y : OV} {v w : IV} (h1 : a e = .ok x e1) (h2 : b e1 = .ok y e2) (h3 : x.at e2 = some v) (h4 : y.at e2 = some w) : looked2 a b k e = k v w e2 := by
  unfold looked2
  rw [h1, bind_ok, h2, bind_ok, h3, h4]
theorem blt0_lst {xs : List IV} : bltV 0 [.lst xs] = some (.fz (.int (xs.length : Int))) := rfl
theorem blt0_tup {xs : List IV} : bltV 0 [.tup xs] = some (.fz (.int (xs.length : Int))) := rfl
theorem blt15 {i : Int} : bltV 15 [.int i] = some (.fz (.int i)) := rfl
theorem num_stmt1 {C : Callee} (xs : List Int) (j : Int) (hl : xs.length < 1000) (s2 s3 s4 s5 s6 : SV) : ∃ a b : Int,
    (sAsg (.cons (.n 2) (.cons (.n 3) .nil)) (dIte [] C (oE (dCmp [] C 1 (oS 0) (oE (dLst lNil)))) (dTup (lCons (dSub (oS 0) (oE (dBin 4 (oS 1) (oE (dBlt [] C 0 (osCons (oS 0) osNil)))))) (lCons (dBin 3 (oS 1) (oE (dBlt [] C 0 (osCons (oS 0) osNil)))) lNil))) (dTup (lCons (dCon (.int 12345)) (lCons (dCon (.int 0)) lNil))))) [.fz (.lst (xs.map .int)), .fz (.int j), s2, s3, s4, s5, s6] =
      .ok .nx [.fz (.lst (xs.map .int)), .fz (.int j), .fz (.int a), .fz (.int b), s4, s5, s6] := by
  cases xs with
  | nil =>
    refine ⟨12345, 0, rfl⟩
  | cons x xs =>
    obtain ⟨i, hi⟩ := idx_ints (k := x :: xs) j (by simp)
    refine ⟨i, j / ((x :: xs).length : Int), ?_⟩
    have hd : IV.dat 60 (.lst ((x :: xs).map .int)) = true := by rw [IV.dat, dat_ints]
    have hd0 : IV.dat 60 (.lst []) = true := by rw [IV.dat, IV.datL]
    have hp : decide (0 < ((x :: xs).length : Int)) = true := decide_eq_true (by simp)
    have hp2 : decide (((x :: xs).length : Int) < 1073741824) = true := decide_eq_true (by simp at hl ⊢; omega)
    have hn : ieq (.lst ((x :: xs).map IV.int)) (.lst []) = false := by simp [ieq, ieqs]
    rw [← List.length_map (f := IV.int)] at hi hp hp2 ⊢
    generalize hk : List.map IV.int (x :: xs) = k at *
    simp only [sAsg, dIte, tst, oE, dCmp, looked2, oS, getE_0, getE_s, bind_ok, OV.at, SV.flat, SV.frz, dLst, lNil, eqR, metG, clsS, retO_some, veq, hd, hd0, hn, fits_of, fits, List.length_nil, nl, List.map_nil, List.all_nil, SV.frzL, Bool.and_self, truthR, truth, dTup, lCons, dSub, dBin, thaw, dBlt, osCons, osNil, atAll, blt0_lst, binop, hp, hp2, subS, subV, hi, bindT, bindT.bindTs, setE_0, setE_s, List.length_cons, Bool.not_false, Nat.ble]
theorem num_stmt2 {C : Callee} (s0 s1 : SV) (c t : Int) (s4 s5 s6 : SV) : ∃ r : Int,
    (sAsg (.n 4) (dIte [] C (oE (dCmp [] C 2 (oS 3) (oE (dCon (.int 60))))) (dBin 1 (oS 2) (oE (dBin 5 (oE (dCon (.int 10))) (oE (dCon (.int 18)))))) (dCon (.int 0)))) [s0, s1, .fz (.int c), .fz (.int t), s4, s5, s6] = .ok .nx [s0, s1, .fz (.int c), .fz (.int t), .fz (.int r), s5, s6] := by
  cases h : decide (t < 60) with
  | true =>
    refine ⟨c - 10 ^ Int.toNat 18, ?_⟩
    have e : (decide (0 ≤ (18 : Int)) && decide ((18 : Int) ≤ 1000) && decide (Int.natAbs 10 < 2 ^ 64)) = true := by decide
    simp only [sAsg, dIte, tst, oE, dCmp, looked2, oS, getE_0, getE_s, bind_ok, OV.at, SV.flat, SV.frz, dLst, lNil, eqR, metG, clsS, retO_some, veq, fits, List.length_nil, nl, List.map_nil, List.all_nil, SV.frzL, Bool.and_self, truthR, truth, dTup, lCons, dSub, dBin, thaw, dBlt, osCons, osNil, atAll, blt0_lst, blt15, binop, subS, subV, bindT, bindT.bindTs, setE_0, setE_s, List.length_cons, Bool.not_false, Nat.ble, dCon, cmpop, h, e]
  | false =>
    refine ⟨0, ?_⟩
    simp only [sAsg, dIte, tst, oE, dCmp, looked2, oS, getE_0, getE_s, bind_ok, OV.at, SV.flat, SV.frz, dLst, lNil, eqR, metG, clsS, retO_some, veq, fits, List.length_nil, nl, List.map_nil, List.all_nil, SV.frzL, Bool.and_self, truthR, truth, dTup, lCons, dSub, dBin, thaw, dBlt, osCons, osNil, atAll, blt0_lst, blt15, binop, subS, subV, bindT, bindT.bindTs, setE_0, setE_s, List.length_cons, Bool.not_false, Nat.ble, dCon, cmpop, h]
theorem num_loop {C : Callee} (s0 s1 s2 s3 s6 : SV) : ∀ (n : Nat) (a : Int) (r : Int) (s5 : SV), ∃ (r' : Int) (s5' : SV),
    forL (.n 5) (sAsg (.n 4) (dBin 3 (oS 4) (oE (dCon (.int 1009))))) (rangeV n a) [s0, s1, s2, s3, .fz (.int r), s5, s6] = .ok .nx [s0, s1, s2, s3, .fz (.int r'), s5', s6]
  | 0, a, r, s5 => ⟨r, s5, rfl⟩
  | n + 1, a, r, s5 => by
    obtain ⟨r', s5', h⟩ := num_loop (C := C) s0 s1 s2 s3 s6 n (a + 1) (r / 1009) (.fz (.int a))
    refine ⟨r', s5', ?_⟩
    rw [rangeV, forL]
    have e : decide (0 < (1009 : Int)) && decide ((1009 : Int) < 1073741824) = true := by decide
    simp only [sAsg, dIte, tst, oE, dCmp, looked2, oS, getE_0, getE_s, bind_ok, OV.at, SV.flat, SV.frz, dLst, lNil, eqR, metG, clsS, retO_some, veq, fits, List.length_nil, nl, List.map_nil, List.all_nil, SV.frzL, Bool.and_self, truthR, truth, dTup, lCons, dSub, dBin, thaw, dBlt, osCons, osNil, atAll, blt0_lst, blt15, binop, subS, subV, bindT, bindT.bindTs, setE_0, setE_s, List.length_cons, Bool.not_false, Nat.ble, dCon, cmpop, e]
    exact h
theorem num_stmt3 {C : Callee} (s0 s1 s2 : SV) (t r : Int) (s5 s6 : SV) : ∃ (r' : Int) (s5' : SV),
    (sFr (.n 5) (iRng1 (oE (dBin 4 (oE (dBlt [] C 15 (osCons (oS 3) osNil))) (oE (dCon (.int 60)))))) (sAsg (.n 4) (dBin 3 (oS 4) (oE (dCon (.int 1009)))))) [s0, s1, s2, .fz (.int t), .fz (.int r), s5, s6] = .ok .nx [s0, s1, s2, .fz (.int t), .fz (.int r'), s5', s6] := by
  obtain ⟨r', s5', h⟩ := num_loop (C := C) s0 s1 s2 (.fz (.int t)) s6 (t % 60).toNat 0 r s5
  refine ⟨r', s5', ?_⟩
  have e : decide (0 < (60 : Int)) = true := by decide
  have b0 := Int.emod_nonneg t (show (60 : Int) ≠ 0 by decide)
  have b1 := Int.emod_lt_of_pos t (show (0 : Int) < 60 by decide)
  have e2 : decide (-1000000 < t % 60) = true := decide_eq_true (by omega)
  have e3 : decide (t % 60 < 1000000) = true := decide_eq_true (by omega)
  simp only [sFr, iRng1, gone, sAsg, dIte, tst, oE, dCmp, looked2, oS, getE_0, getE_s, bind_ok, OV.at, SV.flat, SV.frz, dLst, lNil, eqR, metG, clsS, retO_some, veq, fits, List.length_nil, nl, List.map_nil, List.all_nil, SV.frzL, Bool.and_self, truthR, truth, dTup, lCons, dSub, dBin, thaw, dBlt, osCons, osNil, atAll, blt0_lst, blt15, binop, subS, subV, bindT, bindT.bindTs, setE_0, setE_s, List.length_cons, Bool.not_false, Nat.ble, dCon, cmpop, e, e2, e3]
  exact h
theorem num_ret {C : Callee} (xs : List Int) (j c t r : Int) (s5 s6 : SV) (hl : xs.length < 1000) : ∃ (v : Int) (e' : Env),
    (sSeq (sIf [] C (oE (dCmp [] C 4 (oS 4) (oE (dCon (.int 0))))) (sRet (dBin 4 (oE (dBlt [] C 15 (osCons (oS 4) osNil))) (oE (dCon (.int 1009))))) sPas) (sSeq (sAsg (.n 6) (dBin 4 (oE (dBin 0 (oE (dBin 2 (oE (dBlt [] C 15 (osCons (oE (dBin 0 (oS 2) (oE (dBin 2 (oE (dCon (.int 977))) (oS 1))))) osNil))) (oE (dCon (.int 48271))))) (oE (dBin 2 (oE (dCon (.int 31))) (oE (dBlt [] C 0 (osCons (oS 0) osNil))))))) (oE (dCon (.int 2147483647))))) (sSeq (sAsg (.n 6) (dBin 4 (oE (dBin 0 (oE (dBin 2 (oS 6) (oS 6))) (oE (dBin 2 (oE (dCon (.int 40503))) (oS 1))))) (oE (dCon (.int 2147483629))))) (sRet (dBlt [] C 15 (osCons (oE (dBin 4 (oE (dBin 0 (oE (dBin 2 (oS 6) (oE (dCon (.int 69621))))) (oE (dBin 3 (oS 6) (oE (dCon (.int 977))))))) (oE (dCon (.int 2147483587))))) osNil))))))
      [.fz (.lst (xs.map .int)), .fz (.int j), .fz (.int c), .fz (.int t), .fz (.int r), s5, s6] = .ok (.ret (.fz (.int v))) (.fz (.lst (xs.map .int)) :: .fz (.int j) :: e') := by
  have m1 : ∀ x : Int, (decide (-(2 ^ 64) < (977 : Int)) && decide ((977 : Int) < 2 ^ 64) || decide (-(2 ^ 64) < x) && decide (x < 2 ^ 64)) = true := fun x => by rw [show (decide (-(2 ^ 64) < (977 : Int)) && decide ((977 : Int) < 2 ^ 64)) = true by decide +kernel]; rfl
  have m2 : ∀ x : Int, (decide (-(2 ^ 64) < x) && decide (x < 2 ^ 64) || decide (-(2 ^ 64) < (48271 : Int)) && decide ((48271 : Int) < 2 ^ 64)) = true := fun x => by rw [show (decide (-(2 ^ 64) < (48271 : Int)) && decide ((48271 : Int) < 2 ^ 64)) = true by decide +kernel, Bool.or_true]
  have m3 : ∀ x : Int, (decide (-(2 ^ 64) < (31 : Int)) && decide ((31 : Int) < 2 ^ 64) || decide (-(2 ^ 64) < x) && decide (x < 2 ^ 64)) = true := fun x => by rw [show (decide (-(2 ^ 64) < (31 : Int)) && decide ((31 : Int) < 2 ^ 64)) = true by decide +kernel]; rfl
  have m4 : ∀ x : Int, (decide (-(2 ^ 64) < (40503 : Int)) && decide ((40503 : Int) < 2 ^ 64) || decide (-(2 ^ 64) < x) && decide (x < 2 ^ 64)) = true := fun x => by rw [show (decide (-(2 ^ 64) < (40503 : Int)) && decide ((40503 : Int) < 2 ^ 64)) = true by decide +kernel]; rfl
  have m5 : ∀ x : Int, (decide (-(2 ^ 64) < x) && decide (x < 2 ^ 64) || decide (-(2 ^ 64) < (69621 : Int)) && decide ((69621 : Int) < 2 ^ 64)) = true := fun x => by rw [show (decide (-(2 ^ 64) < (69621 : Int)) && decide ((69621 : Int) < 2 ^ 64)) = true by decide +kernel, Bool.or_true]
  have m6 : ∀ x : Int, (decide (-(2 ^ 64) < x % 2147483647) && decide (x % 2147483647 < 2 ^ 64) || decide (-(2 ^ 64) < x % 2147483647) && decide (x % 2147483647 < 2 ^ 64)) = true := fun x => by
    have b0 := Int.emod_nonneg x (show (2147483647 : Int) ≠ 0 by decide)
    have b1 := Int.emod_lt_of_pos x (show (0 : Int) < 2147483647 by decide)
    rw [decide_eq_true (show -(2 ^ 64) < x % 2147483647 by omega), decide_eq_true (show x % 2147483647 < 2 ^ 64 by omega)]
    rfl
  have d1 : decide (0 < (2147483647 : Int)) = true := by decide
  have d2 : decide (0 < (2147483629 : Int)) = true := by decide
  have d3 : decide (0 < (2147483587 : Int)) = true := by decide
  have d4 : decide (0 < (1009 : Int)) = true := by decide
  have d5 : (decide (0 < (977 : Int)) && decide ((977 : Int) < 1073741824)) = true := by decide
  cases h : decide (0 < r) with
  | true =>
    simp only [sSeq, sIf, sRet, sAsg, dIte, tst, oE, dCmp, looked2, oS, getE_0, getE_s, bind_ok, OV.at, SV.flat, SV.frz, dLst, lNil, eqR, metG, clsS, retO_some, veq, fits, List.length_nil, nl, List.map_nil, List.all_nil, SV.frzL, Bool.and_self, truthR, truth, dTup, lCons, dSub, dBin, thaw, dBlt, osCons, osNil, atAll, blt0_lst, blt15, binop, subS, subV, bindT, bindT.bindTs, setE_0, setE_s, List.length_cons, Bool.not_false, Nat.ble, dCon, cmpop, h, d4]
    exact ⟨_, _, rfl⟩
  | false =>
    simp only [sSeq, sIf, sRet, sPas, sAsg, dIte, tst, oE, dCmp, looked2, oS, getE_0, getE_s, bind_ok, OV.at, SV.flat, SV.frz, dLst, lNil, eqR, metG, clsS, retO_some, veq, fits, List.length_nil, nl, List.map_nil, List.all_nil, SV.frzL, Bool.and_self, truthR, truth, dTup, lCons, dSub, dBin, thaw, dBlt, osCons, osNil, atAll, blt0_lst, blt15, binop, subS, subV, bindT, bindT.bindTs, setE_0, setE_s, List.length_cons, Bool.not_false, Nat.ble, dCon, cmpop, h, m1, m2, m3, m4, m5, m6, d1, d2, d3, d5]
    exact ⟨_, _, rfl⟩
theorem num_all {C : Callee} (xs : List Int) (j : Int) (hl : xs.length < 1000) : ∃ (v : Int) (e' : Env), bNum C [.fz (.lst (xs.map .int)), .fz (.int j), .und, .und, .und, .und, .und] = .ok (.ret (.fz (.int v))) (.fz (.lst (xs.map .int)) :: .fz (.int j) :: e') := by
  obtain ⟨c, t, h1⟩ := num_stmt1 (C := C) xs j hl .und .und .und .und .und
  obtain ⟨r, h2⟩ := num_stmt2 (C := C) (.fz (.lst (xs.map .int))) (.fz (.int j)) c t .und .und .und
  obtain ⟨r', s5, h3⟩ := num_stmt3 (C := C) (.fz (.lst (xs.map .int))) (.fz (.int j)) (.fz (.int c)) t r .und .und
  obtain ⟨v, e', h4⟩ := num_ret (C := C) xs j c t r' s5 .und hl
  refine ⟨v, e', ?_⟩
  unfold bNum
  rw [sSeq, h1, bind_ok]
  dsimp only
  rw [sSeq, h2, bind_ok]
  dsimp only
  rw [sSeq, h3, bind_ok]
  exact h4
theorem num_call {F : List FD} {t f k : Nat} (hF : F[f]? = some ⟨2, 7, [], bNum⟩) (hft : Nat.beq f t = false) (xs : List Int) (j : Int) (hl : xs.length < 1000) : ∃ v : Int, callN F t (k + 1) f [.fz (.lst (xs.map .int)), .fz (.int j)] = .ok (.fz (.int v), [.fz (.lst (xs.map .int)), .fz (.int j)]) [] := by
  obtain ⟨v, e', h⟩ := num_all (C := callN F t k) xs j hl
  refine ⟨v, ?_⟩
  unfold callN
  rw [hft, hF]
  show ended _ _ (bNum (callN F t k) [.fz (.lst (xs.map .int)), .fz (.int j), .und, .und, .und, .und, .und]) = _
  rw [h]
  rfl
theorem mod_nat (v : Int) (n : Nat) : ∃ r : Nat, v % Int.ofNat (n + 1) = Int.ofNat r ∧ r < n + 1 := by
  have b0 : 0 ≤ v % ((n + 1 : Nat) : Int) := Int.emod_nonneg v (by omega)
  have b1 : v % ((n + 1 : Nat) : Int) < ((n + 1 : Nat) : Int) := Int.emod_lt_of_pos v (by omega)
  exact ⟨(v % ((n + 1 : Nat) : Int)).toNat, (Int.toNat_of_nonneg b0).symm, by omega⟩
theorem takeN_of {ss : List SV} {Q : SV × List SV → Env → Prop} {E : Nat → List (Nat × IV) → Env → Prop} (w : wpR (takeN ss) Q E) :
    ∃ (xs : List Int) (i : Int) (n : Nat), ss = [.ol [.fz (.lst (xs.map .int)), .fz (.int i)], .fz (.int (Int.ofNat (n + 1)))] ∧ xs.length < 1000 ∧ ∀ r, r < n + 1 → Q (.fz (.int r), [.ol [.fz (.lst (xs.map .int)), .fz (.int (i + 1))], .fz (.int (Int.ofNat (n + 1)))]) [] := by
  unfold takeN at w
  split at w
  · rename_i _ s i n
    cases q : scOk s with
    | false => rw [q] at w; exact w.elim
    | true =>
      rw [q] at w
      have hs := scOk_ints q
      clear q
      obtain ⟨xs, e, hl⟩ := hs
      subst e
      exact ⟨xs, i, n, rfl, hl, w⟩
  · exact w.elim
theorem take_real1 {F : List FD} {t f k : Nat} (hF : F[f]? = some ⟨2, 7, [], bNum⟩) (hft : Nat.beq f t = false) (xs : List Int) (i : Int) (n : Nat) (hl : xs.length < 1000) : ∃ r : Nat, r < n + 1 ∧ ended ⟨2, 2, [], bTake f⟩ [.ol [.fz (.lst (xs.map .int)), .fz (.int i)], .fz (.int (Int.ofNat (n + 1)))] (bTake f (callN F t (k + 1)) [.ol [.fz (.lst (xs.map .int)), .fz (.int i)], .fz (.int (Int.ofNat (n + 1)))]) =
    .ok (.fz (.int r), [.ol [.fz (.lst (xs.map .int)), .fz (.int (i + 1))], .fz (.int (Int.ofNat (n + 1)))]) [] := by
  obtain ⟨v, hv⟩ := num_call (k := k) hF hft xs (i + 1) hl
  obtain ⟨r, hr, hlt⟩ := mod_nat v n
  refine ⟨r, hlt, ?_⟩
  have hp : decide (0 < Int.ofNat (n + 1)) = true := decide_eq_true (Int.ofNat_lt.mpr (Nat.succ_pos n))
  have i0 : ixOf 2 0 = some 0 := rfl
  have i1 : ixOf 2 1 = some 1 := rfl
  generalize Int.ofNat (n + 1) = m at *
  simp only [bTake, sSeq, sRet, sAugs, augI, setL, setV, sAsg, dIte, tst, oE, dCmp, looked2, oS, getE_0, getE_s, bind_ok, OV.at, SV.flat, SV.frz, dLst, lNil, eqR, metG, clsS, retO_some, veq, fits, List.length_nil, nl, List.map_nil, List.all_nil, SV.frzL, Bool.and_self, truthR, truth, dTup, lCons, dSub, dBin, thaw, dBlt, osCons, osNil, atAll, blt0_lst, blt15, binop, subS, subV, bindT, bindT.bindTs, setE_0, setE_s, List.length_cons, Bool.not_false, Nat.ble, dCon, cmpop, i0, i1, lstAt, dCall, aVal, aNil, called, owns, nodupN, called.go, List.map_cons, List.map_nil, AV.sv, hv, hp, List.set_cons_succ, List.set_cons_zero, back]
  rw [hr]
  rfl
theorem take_gen {F : List FD} {t f k : Nat} (hF : F[f]? = some ⟨2, 7, [], bNum⟩) (hft : Nat.beq f t = false) {ss : List SV} {Q : SV × List SV → Env → Prop} {E : Nat → List (Nat × IV) → Env → Prop} (w : wpR (callN F t (k + 1) t ss) Q E) :
    wpR (match Nat.beq ss.length 2 && plainAt [] 0 ss with
      | true => ended ⟨2, 2, [], bTake f⟩ ss (bTake f (callN F t k) (ss ++ List.replicate (2 - 2) .und))
      | false => .bad 38) Q E := by
  unfold callN at w
  rw [Nat.beq_refl] at w
  cases k with
  | zero => exact w.elim
  | succ k =>
    have hh := takeN_of (show wpR (takeN ss) Q E from w)
    clear w
    cases hh with
    | intro xs hh =>
      cases hh with
      | intro i hh =>
        cases hh with
        | intro n hh =>
          cases hh with
          | intro e hh =>
            subst e
            cases take_real1 (k := k) hF hft xs i n hh.1 with
            | intro r hr =>
              show wpR (ended _ _ (bTake f (callN F t (k + 1)) [.ol [.fz (.lst (xs.map .int)), .fz (.int i)], .fz (.int (Int.ofNat (n + 1)))])) Q E
              rw [hr.2]
              exact hh.2 r hr.1
end Vy

end
section
set_option maxRecDepth 1000000
set_option maxHeartbeats 0
namespace LW
open PySem PySem.Spec PyProof.Rows L2 StX Vy
def top (i : Nat) : Stmt := PySem.Challenge.pw_stepfree_k01_whole_needs.main.body.getD i (.Pass ⟨0, 0, 0, 0⟩)
def T : Tab := []
def xs : List (List Nat) := [[], [3]]
def b0 (C : Vy.Callee) : SDen := (sRet (dAnd (dBlt T C 1 (osCons (oS 0) (osCons (oE (dCon (.ty 0))) osNil))) (dAnd (dNot T C (oE (dBlt T C 1 (osCons (oS 0) (osCons (oE (dCon (.ty 1))) osNil))))) (dCmp T C 5 (oS 0) (oE (dCon (.int 0)))))))
def d0 : FD := ⟨1, 1, [], b0⟩
def b1 (C : Vy.Callee) : SDen := (sRet (dAnd (dCall C 0 (aOwn 0 aNil)) (dCmp T C 2 (oS 0) (oS 1))))
def d1 : FD := ⟨2, 2, [], b1⟩
def b2 (C : Vy.Callee) : SDen := (sRet (dBlt T C 1 (osCons (oS 0) (osCons (oE (dTup (lCons (dCon (.ty 4)) (lCons (dCon (.ty 3)) lNil)))) osNil))))
def d2 : FD := ⟨1, 1, [], b2⟩
def b3 (C : Vy.Callee) : SDen := (sRet (dAnd (dCall C 2 (aOwn 0 aNil)) (dAnd (dCmp T C 0 (oE (dBlt T C 0 (osCons (oS 0) osNil))) (oE (dCon (.int 4)))) (dBlt T C 2 (osCons (oE (dLc T C (dCall C 1 (aOwn 1 (aVal (dBin 0 (oE (dCon (.int 9))) (oE (dCon (.int 1)))) aNil))) (.n 1) (iOne 0 (oS 0)) [] [1])) osNil)))))
def d3 : FD := ⟨1, 2, [], b3⟩
def b4 (C : Vy.Callee) : SDen := (sIf T C (oE (dNot T C (oE (dCall C 3 (aOwn 0 aNil))))) (sRs xs 1 (lCons (dVar 0) lNil)) sPas)
def d4 : FD := ⟨1, 1, [], b4⟩
def b5 (C : Vy.Callee) : SDen := (sSeq (sIf T C (oE (dOr (dCmp T C 4 (oE (dSub (oS 0) (oE (dCon (.int 0))))) (oE (dSub (oS 1) (oE (dCon (.int 0)))))) (dCmp T C 2 (oE (dSub (oS 0) (oE (dCon (.int 1))))) (oE (dSub (oS 1) (oE (dCon (.int 1)))))))) (sRet (dCon (.bl false))) sPas) (sRet (dAnd (dCmp T C 5 (oE (dSub (oS 0) (oE (dCon (.int 2))))) (oE (dSub (oS 1) (oE (dCon (.int 2)))))) (dCmp T C 5 (oE (dSub (oS 0) (oE (dCon (.int 3))))) (oE (dSub (oS 1) (oE (dCon (.int 3)))))))))
def d5 : FD := ⟨2, 2, [], b5⟩
def b6 (C : Vy.Callee) : SDen := (sRet (dTup (lCons (dBlt T C 10 (osCons (oE (dSub (oS 0) (oE (dCon (.int 0))))) (osCons (oE (dSub (oS 1) (oE (dCon (.int 0))))) osNil))) (lCons (dBlt T C 11 (osCons (oE (dSub (oS 0) (oE (dCon (.int 1))))) (osCons (oE (dSub (oS 1) (oE (dCon (.int 1))))) osNil))) (lCons (dBlt T C 11 (osCons (oE (dSub (oS 0) (oE (dCon (.int 2))))) (osCons (oE (dSub (oS 1) (oE (dCon (.int 2))))) osNil))) (lCons (dBlt T C 11 (osCons (oE (dSub (oS 0) (oE (dCon (.int 3))))) (osCons (oE (dSub (oS 1) (oE (dCon (.int 3))))) osNil))) lNil))))))
def d6 : FD := ⟨2, 2, [], b6⟩
def b7 (C : Vy.Callee) : SDen := (sSeq (sEx (dCall C 4 (aOwn 0 aNil))) (sSeq (sEx (dCall C 4 (aOwn 1 aNil))) (sRet (dCall C 5 (aOwn 0 (aOwn 1 aNil))))))
def d7 : FD := ⟨2, 2, [], b7⟩
def b8 (C : Vy.Callee) : SDen := (sSeq (sEx (dCall C 4 (aOwn 0 aNil))) (sSeq (sEx (dCall C 4 (aOwn 1 aNil))) (sRet (dCall C 6 (aOwn 0 (aOwn 1 aNil))))))
def d8 : FD := ⟨2, 2, [], b8⟩
def b9 (C : Vy.Callee) : SDen := (sSeq (sEx (dCall C 4 (aOwn 0 aNil))) (sSeq (sEx (dCall C 4 (aOwn 1 aNil))) (sRet (dCall C 5 (aOwn 0 (aOwn 1 aNil))))))
def d9 : FD := ⟨2, 2, [], b9⟩
def b10 (C : Vy.Callee) : SDen := (sSeq (sIf T C (oE (dNot T C (oE (dCall C 2 (aOwn 0 aNil))))) (sRs xs 1 (lCons (dVar 0) lNil)) sPas) (sSeq (sFr (.n 1) (iOne 0 (oS 0)) (sEx (dCall C 4 (aOwn 1 aNil)))) (sRet (dCall C 11 (aVal (dLc T C (dBlt T C 4 (osCons (oS 1) osNil)) (.n 1) (iOne 0 (oS 0)) [] [1]) aNil)))))
def d10 : FD := ⟨1, 2, [], b10⟩
def b11 (C : Vy.Callee) : SDen := (sSeq (sAsg (.n 1) (dBlt T C 7 (osCons (oE (dDc T C (dVar 2) (dCon (.bl true)) (.n 2) (iOne 0 (oS 0)) [] [2])) osNil))) (sRet (dLc T C (dVar 2) (.n 2) (iOne 0 (oS 1)) [(oE (dNot T C (oE (dBlt T C 3 (osCons (oE (dLc T C (dAnd (dCmp T C 1 (oS 3) (oS 2)) (dCall C 5 (aOwn 2 (aOwn 3 aNil)))) (.n 3) (iOne 0 (oS 1)) [] [3])) osNil)))))] [2])))
def d11 : FD := ⟨1, 4, [], b11⟩
def b12 (C : Vy.Callee) : SDen := (sSeq (sEx (dCall C 4 (aOwn 0 aNil))) (sSeq (sIf T C (oE (dNot T C (oE (dCall C 2 (aOwn 1 aNil))))) (sRs xs 1 (lCons (dVar 1) lNil)) sPas) (sSeq (sFr (.n 2) (iOne 0 (oS 1)) (sEx (dCall C 4 (aOwn 2 aNil)))) (sRet (dBlt T C 3 (osCons (oE (dLc T C (dCall C 5 (aOwn 0 (aOwn 2 aNil))) (.n 2) (iOne 0 (oS 1)) [] [2])) osNil))))))
def d12 : FD := ⟨2, 3, [], b12⟩
def b13 (C : Vy.Callee) : SDen := (sSeq (sAsg (.cons (.n 2) (.cons (.n 3) .nil)) (dIte T C (oE (dCmp T C 1 (oS 0) (oE (dLst lNil)))) (dTup (lCons (dSub (oS 0) (oE (dBin 4 (oS 1) (oE (dBlt T C 0 (osCons (oS 0) osNil)))))) (lCons (dBin 3 (oS 1) (oE (dBlt T C 0 (osCons (oS 0) osNil)))) lNil))) (dTup (lCons (dCon (.int 12345)) (lCons (dCon (.int 0)) lNil))))) (sSeq (sAsg (.n 4) (dIte T C (oE (dCmp T C 2 (oS 3) (oE (dCon (.int 60))))) (dBin 1 (oS 2) (oE (dBin 5 (oE (dCon (.int 10))) (oE (dCon (.int 18)))))) (dCon (.int 0)))) (sSeq (sFr (.n 5) (iRng1 (oE (dBin 4 (oE (dBlt T C 15 (osCons (oS 3) osNil))) (oE (dCon (.int 60)))))) (sAsg (.n 4) (dBin 3 (oS 4) (oE (dCon (.int 1009)))))) (sSeq (sIf T C (oE (dCmp T C 4 (oS 4) (oE (dCon (.int 0))))) (sRet (dBin 4 (oE (dBlt T C 15 (osCons (oS 4) osNil))) (oE (dCon (.int 1009))))) sPas) (sSeq (sAsg (.n 6) (dBin 4 (oE (dBin 0 (oE (dBin 2 (oE (dBlt T C 15 (osCons (oE (dBin 0 (oS 2) (oE (dBin 2 (oE (dCon (.int 977))) (oS 1))))) osNil))) (oE (dCon (.int 48271))))) (oE (dBin 2 (oE (dCon (.int 31))) (oE (dBlt T C 0 (osCons (oS 0) osNil))))))) (oE (dCon (.int 2147483647))))) (sSeq (sAsg (.n 6) (dBin 4 (oE (dBin 0 (oE (dBin 2 (oS 6) (oS 6))) (oE (dBin 2 (oE (dCon (.int 40503))) (oS 1))))) (oE (dCon (.int 2147483629))))) (sRet (dBlt T C 15 (osCons (oE (dBin 4 (oE (dBin 0 (oE (dBin 2 (oS 6) (oE (dCon (.int 69621))))) (oE (dBin 3 (oS 6) (oE (dCon (.int 977))))))) (oE (dCon (.int 2147483587))))) osNil)))))))))
def d13 : FD := ⟨2, 7, [], b13⟩
def b14 (C : Vy.Callee) : SDen := (sSeq (sAugs 0 (oE (dCon (.int 1))) 0 (oE (dCon (.int 1)))) (sRet (dBin 4 (oE (dBlt T C 15 (osCons (oE (dCall C 13 (aVal (dSub (oS 0) (oE (dCon (.int 0)))) (aVal (dBlt T C 15 (osCons (oE (dSub (oS 0) (oE (dCon (.int 1))))) osNil)) aNil)))) osNil))) (oS 1))))
def d14 : FD := ⟨2, 2, [], b14⟩
def b15 (C : Vy.Callee) : SDen := (sRet (dSub (oS 1) (oE (dCall C 14 (aOwn 0 (aVal (dBlt T C 0 (osCons (oS 1) osNil)) aNil))))))
def d15 : FD := ⟨2, 2, [], b15⟩
def b16 (C : Vy.Callee) : SDen := (sRet (dAnd (dCmp T C 3 (oE (dSub (oS 0) (oE (dCon (.int 0))))) (oE (dSub (oS 1) (oE (dCon (.int 0)))))) (dAnd (dCmp T C 5 (oE (dSub (oS 0) (oE (dCon (.int 1))))) (oE (dSub (oS 1) (oE (dCon (.int 1)))))) (dAnd (dCmp T C 5 (oE (dSub (oS 0) (oE (dCon (.int 2))))) (oE (dSub (oS 1) (oE (dCon (.int 2)))))) (dCmp T C 5 (oE (dSub (oS 0) (oE (dCon (.int 3))))) (oE (dSub (oS 1) (oE (dCon (.int 3))))))))))
def d16 : FD := ⟨2, 2, [], b16⟩
def b17 (C : Vy.Callee) : SDen := (sRet (dBlt T C 4 (osCons (oE (dLc T C (dCall C 15 (aOwn 0 (aVal (dLst (lCons (dCon (.int 0)) (lCons (dCon (.int 1)) (lCons (dCon (.int 2)) (lCons (dCon (.int 9)) (lCons (dCon (.int 5)) lNil)))))) aNil))) (.n 1) (iRng1 (oE (dCon (.int 4)))) [] [1])) osNil)))
def d17 : FD := ⟨1, 2, [], b17⟩
def b18 (C : Vy.Callee) : SDen := (sRet (dAnd (dCmp T C 5 (oE (dSub (oS 1) (oE (dCon (.int 0))))) (oE (dSub (oS 0) (oE (dCon (.int 0)))))) (dAnd (dCmp T C 3 (oE (dSub (oS 1) (oE (dCon (.int 1))))) (oE (dSub (oS 0) (oE (dCon (.int 1)))))) (dAnd (dCmp T C 3 (oE (dSub (oS 1) (oE (dCon (.int 2))))) (oE (dSub (oS 0) (oE (dCon (.int 2)))))) (dCmp T C 3 (oE (dSub (oS 1) (oE (dCon (.int 3))))) (oE (dSub (oS 0) (oE (dCon (.int 3))))))))))
def d18 : FD := ⟨2, 2, [], b18⟩
def lms (C : Vy.Callee) : List Den := [(dCall C 12 (aVal (dTup (lCons (dCon (.int 1)) (lCons (dCon (.int 1)) (lCons (dCon (.int 1)) (lCons (dCon (.int 1)) lNil))))) (aVal (dLst (lCons (dVar 10) lNil)) aNil))),
  (dCall C 10 (aVal (dLst (lCons (dTup (lCons (dCon (.int 9)) (lCons (dCon (.int 0)) (lCons (dCon (.int 0)) (lCons (dCon (.int 0)) lNil))))) (lCons (dVar 10) lNil))) aNil)),
  (dCall C 9 (aOwn 10 (aVal (dTup (lCons (dCon (.int 9)) (lCons (dCon (.int 0)) (lCons (dCon (.int 0)) (lCons (dCon (.int 0)) lNil))))) aNil))),
  (dCall C 8 (aVal (dTup (lCons (dCon (.int 9)) (lCons (dCon (.int 0)) (lCons (dCon (.int 0)) (lCons (dCon (.int 0)) lNil))))) (aOwn 10 aNil))),
  (dCall C 7 (aVal (dTup (lCons (dCon (.int 0)) (lCons (dCon (.int 0)) (lCons (dCon (.int 0)) (lCons (dCon (.int 0)) lNil))))) (aOwn 10 aNil))),
  (dCall C 7 (aOwn 10 (aVal (dTup (lCons (dCon (.int 9)) (lCons (dCon (.int 0)) (lCons (dCon (.int 0)) (lCons (dCon (.int 0)) lNil))))) aNil))),
  (dCall C 12 (aVal (dTup (lCons (dCon (.int 0)) (lCons (dCon (.int 0)) (lCons (dCon (.int 0)) (lCons (dCon (.int 0)) lNil))))) (aOwn 10 aNil))),
  (dCall C 10 (aOwn 10 aNil))]
def b19 (C : Vy.Callee) : SDen := (sSeq (sAsg (.n 1) (dLst (lCons (dVar 0) (lCons (dCon (.int 0)) lNil)))) (sSeq (sAsg (.n 2) (dLc T C (dCall C 17 (aOwn 1 aNil)) (.n 3) (iRng1 (oE (dBin 0 (oE (dCon (.int 1))) (oE (dCall C 14 (aOwn 1 (aVal (dCon (.int 7)) aNil))))))) [] [3])) (sSeq (sFr (.n 4) (iOne 0 (oS 2)) (sFr (.n 5) (iOne 0 (oS 2)) (sSeq (sIf T C (oE (dOr (dCmp T C 1 (oE (dCall C 7 (aOwn 4 (aOwn 5 aNil)))) (oE (dCall C 16 (aOwn 4 (aOwn 5 aNil))))) (dCmp T C 1 (oE (dCall C 7 (aVal (dBlt T C 5 (osCons (oS 4) osNil)) (aVal (dBlt T C 5 (osCons (oS 5) osNil)) aNil)))) (oE (dCall C 16 (aOwn 4 (aOwn 5 aNil))))))) (sRet (dCon (.bl false))) sPas) (sSeq (sAsg (.n 6) (dTup (lCons (dBlt T C 10 (osCons (oE (dSub (oS 4) (oE (dCon (.int 0))))) (osCons (oE (dSub (oS 5) (oE (dCon (.int 0))))) osNil))) (lCons (dBlt T C 11 (osCons (oE (dSub (oS 4) (oE (dCon (.int 1))))) (osCons (oE (dSub (oS 5) (oE (dCon (.int 1))))) osNil))) (lCons (dBlt T C 11 (osCons (oE (dSub (oS 4) (oE (dCon (.int 2))))) (osCons (oE (dSub (oS 5) (oE (dCon (.int 2))))) osNil))) (lCons (dBlt T C 11 (osCons (oE (dSub (oS 4) (oE (dCon (.int 3))))) (osCons (oE (dSub (oS 5) (oE (dCon (.int 3))))) osNil))) lNil)))))) (sSeq (sIf T C (oE (dOr (dCmp T C 1 (oE (dBlt T C 4 (osCons (oE (dCall C 8 (aOwn 4 (aOwn 5 aNil)))) osNil))) (oS 6)) (dCmp T C 1 (oE (dCall C 9 (aOwn 4 (aOwn 5 aNil)))) (oE (dCall C 18 (aOwn 4 (aOwn 5 aNil))))))) (sRet (dCon (.bl false))) sPas) (sSeq (sAsg (.n 7) (dCall C 17 (aOwn 1 aNil))) (sSeq (sIf T C (oE (dCmp T C 1 (oE (dCall C 7 (aOwn 7 (aOwn 6 aNil)))) (oE (dAnd (dCall C 7 (aOwn 7 (aOwn 4 aNil))) (dCall C 7 (aOwn 7 (aOwn 5 aNil))))))) (sRet (dCon (.bl false))) sPas) (sIf T C (oE (dOr (dAnd (dCall C 9 (aOwn 4 (aOwn 5 aNil))) (dAnd (dCall C 7 (aOwn 7 (aOwn 4 aNil))) (dNot T C (oE (dCall C 7 (aOwn 7 (aOwn 5 aNil))))))) (dCmp T C 1 (oE (dCall C 7 (aOwn 4 (aOwn 5 aNil)))) (oE (dCall C 9 (aOwn 4 (aOwn 5 aNil))))))) (sRet (dCon (.bl false))) sPas)))))))) (sSeq (sAsg (.n 8) (dLc T C (dVar 4) (.n 4) (iOne 0 (oE (dSSet (oS 2)))) [(oE (dNot T C (oE (dBlt T C 3 (osCons (oE (dLc T C (dAnd (dCmp T C 1 (oS 5) (oS 4)) (dCall C 18 (aOwn 4 (aOwn 5 aNil)))) (.n 5) (iOne 0 (oS 2)) [] [5])) osNil)))))] [4])) (sSeq (sIf T C (oE (dOr (dCmp T C 1 (oE (dBlt T C 5 (osCons (oE (dCall C 10 (aOwn 2 aNil))) osNil))) (oS 8)) (dOr (dCmp T C 1 (oE (dBlt T C 5 (osCons (oE (dCall C 10 (aVal (dLst lNil) aNil))) osNil))) (oE (dLst lNil))) (dCmp T C 1 (oE (dBlt T C 5 (osCons (oE (dCall C 10 (aVal (dBin 0 (oS 8) (oS 8)) aNil))) osNil))) (oS 8))))) (sRet (dCon (.bl false))) sPas) (sSeq (sFr (.n 3) (iRng1 (oE (dCon (.int 4)))) (sSeq (sAsg (.n 7) (dCall C 17 (aOwn 1 aNil))) (sIf T C (oE (dOr (dCmp T C 1 (oE (dCall C 12 (aOwn 7 (aOwn 2 aNil)))) (oE (dBlt T C 3 (osCons (oE (dLc T C (dCall C 16 (aOwn 7 (aOwn 9 aNil))) (.n 9) (iOne 0 (oS 2)) [] [9])) osNil)))) (dOr (dCmp T C 1 (oE (dCall C 12 (aOwn 7 (aOwn 8 aNil)))) (oE (dCall C 12 (aOwn 7 (aOwn 2 aNil))))) (dCall C 12 (aOwn 7 (aVal (dLst lNil) aNil)))))) (sRet (dCon (.bl false))) sPas))) (sSeq (sFr (.n 10) (iOne 0 (oE (dTup (lCons (dCon .non) (lCons (dCon (.int 5)) (lCons (dCon (.str [97, 98, 99, 100])) (lCons (dTup (lCons (dCon (.int 1)) (lCons (dCon (.int 2)) (lCons (dCon (.int 3)) lNil)))) (lCons (dTup (lCons (dCon (.int 1)) (lCons (dCon (.int 2)) (lCons (dCon (.int 3)) (lCons (dCon (.int 4)) (lCons (dCon (.int 5)) lNil)))))) (lCons (dTup (lCons (dCon (.int 1)) (lCons (dCon (.int 2)) (lCons (dCon (.int 3)) (lCons (dCon (.int 10)) lNil))))) (lCons (dTup (lCons (dCon (.int 1)) (lCons (dCon (.int 2)) (lCons (dNeg (oE (dCon (.int 3)))) (lCons (dCon (.int 4)) lNil))))) (lCons (dTup (lCons (dCon (.bl true)) (lCons (dCon (.int 0)) (lCons (dCon (.int 0)) (lCons (dCon (.int 0)) lNil))))) (lCons (dTup (lCons (dCon (.int 1)) (lCons (dCon (.str [50])) (lCons (dCon (.int 3)) (lCons (dCon (.int 4)) lNil))))) lNil)))))))))))) (sFr (.n 11) (iOne 0 (oE (dTup (lCons (dLam 13 5) (lCons (dLam 13 4) (lCons (dLam 13 3) (lCons (dLam 13 2) (lCons (dLam 13 1) (lCons (dLam 13 0) lNil))))))))) (sTry 1 12 (sSeq (sEx (dCallL (lms C) 11)) (sRet (dCon (.bl false)))) (fun fs => sIfB (tst T C (oE (dCmp T C 1 (oE (dStr true (oE (dXf fs 3)))) (oE (dStr true (oS 10)))))) (sRet (dCon (.bl false))) sPas)))) (sSeq (sFr (.n 10) (iOne 0 (oE (dTup (lCons (dCon .non) (lCons (dCon (.int 5)) (lCons (dCon (.str [97, 98])) lNil)))))) (sFr (.n 11) (iOne 0 (oE (dTup (lCons (dLam 13 7) (lCons (dLam 13 6) lNil))))) (sTry 1 12 (sSeq (sEx (dCallL (lms C) 11)) (sRet (dCon (.bl false)))) (fun fs => sIfB (tst T C (oE (dCmp T C 1 (oE (dXf fs 3)) (oS 10)))) (sRet (dCon (.bl false))) sPas)))) (sRet (dCon (.bl true)))))))))))
def d19 : FD := ⟨1, 14, [], b19⟩
theorem hb0 : ∀ c, metG T (some c) 1 = none := fun c => by unfold metG T; rfl
theorem he0 : ∀ c, metG T (some c) 0 = none := fun c => by unfold metG T; rfl
def lawS : Stmt := (top 26)
def sT (i : Nat) : Stmt := (defBody lawS).getD i noS
def lamE : Nat → Expr
  | 0 => (eEl 5 (sIt (sB 0 (sT 6))))
  | 1 => (eEl 4 (sIt (sB 0 (sT 6))))
  | 2 => (eEl 3 (sIt (sB 0 (sT 6))))
  | 3 => (eEl 2 (sIt (sB 0 (sT 6))))
  | 4 => (eEl 1 (sIt (sB 0 (sT 6))))
  | 5 => (eEl 0 (sIt (sB 0 (sT 6))))
  | 6 => (eEl 1 (sIt (sB 0 (sT 7))))
  | 7 => (eEl 0 (sIt (sB 0 (sT 7))))
  | _ => noE
def lawN : List Str := ["script", "draw", "rows", "turn", "one", "other", "both", "means", "least", "need", "bad", "deed", "fault", "?"]
abbrev XL (P : Program) (w : World) (K : PySem.W.Frag) (mg : Str → Option Value) (base : Heap) (fa c : Addr) (s : Shared) (H : Hp) : Cx := cxOf (L2.CX P w) P w K mg base lawN "law" (defScope lawS) fa (.ref c) callerA [] s H fun _ _ _ => False
section
variable {P : Program} {w : World} {K : PySem.W.Frag} {mg : Str → Option Value} {base : Heap} {Y : Names} {xc : Nat → Addr} {C : Vy.Callee} {k : Nat}
theorem sc0 : FnScope ["thing"] ["thing"] (defScope (top 4)) := ⟨rfl, rfl, rfl, by decide +kernel, rfl, by decide +kernel, by decide +kernel⟩
theorem ok0 (k2 : 2 ≤ k) (yK : Y.K = K) (yP : Y.P = P) (yw : Y.w = w) (inj : ∀ i j, Y.at_ i = Y.at_ j → i = j) (z_bool : mg "bool" = none) (z_int : mg "int" = none) (z_isinstance : mg "isinstance" = none) (hI : ∀ {X : Cx}, X.K = K → InsOk X Y) {fa : Addr} {fd : FuncData} {Cn : Vy.Callee} (F : FunD K "is_number" "is_number" (defArgs (top 4)) (defBody (top 4)) (defScope (top 4)) [] [] fa fd)
    (hC : ∀ ss, Cn 0 ss = match Nat.beq ss.length d0.np && plainAt d0.rp 0 ss with
      | true => ended d0 ss (d0.body C (ss ++ List.replicate (d0.ns - d0.np) .und))
      | false => .bad 38) : FnOk P w K mg base (L2.CX P w) (k + 1) fa fd ["thing"] (spV Y xc (xrV Y) Cn 0) := by
  refine fnV F sc0 rfl rfl (by decide) hC fun cdv A outer s H vs E hr => ?_
  exact (zone (zret (vand (show Fits _ _ from ⟨yK, yP, yw, inj⟩) (vblt (cb_isi (show Fits _ _ from ⟨yK, yP, yw, inj⟩) (hI rfl)) rfl z_isinstance boot_isinstance (vocons (vs_ 0 (pv 0)) (vocons (ve_ (vc_ (pe_bltn (v := V.ty "int") rfl z_int Boot.int rfl))) vonil))) (vand (show Fits _ _ from ⟨yK, yP, yw, inj⟩) (vnot (trR_plain (show Fits _ _ from ⟨yK, yP, yw, inj⟩) hb0) (ve_ (vblt (cb_isi (show Fits _ _ from ⟨yK, yP, yw, inj⟩) (hI rfl)) rfl z_isinstance boot_isinstance (vocons (vs_ 0 (pv 0)) (vocons (ve_ (vc_ (pe_bltn (v := V.ty "bool") rfl z_bool Boot.bool rfl))) vonil))))) (vone (vcmp (o := 3) ops_ge (vs_ 0 (pv 0)) (ve_ (vc_ pe_int)) (nomark _)))))))
theorem sc1 : FnScope ["thing", "bound"] ["thing", "bound"] (defScope (top 5)) := ⟨rfl, rfl, rfl, by decide +kernel, rfl, by decide +kernel, by decide +kernel⟩
theorem ok1 (k2 : 2 ≤ k) (yK : Y.K = K) (yP : Y.P = P) (yw : Y.w = w) (inj : ∀ i j, Y.at_ i = Y.at_ j → i = j) {f0 : Addr} {u0 : FuncData} (G0 : Cal P w K mg base Y xc (xrV Y) C k 0 "is_number" f0 u0 ["thing"]) {fa : Addr} {fd : FuncData} {Cn : Vy.Callee} (F : FunD K "is_below" "is_below" (defArgs (top 5)) (defBody (top 5)) (defScope (top 5)) [] [] fa fd)
    (hC : ∀ ss, Cn 1 ss = match Nat.beq ss.length d1.np && plainAt d1.rp 0 ss with
      | true => ended d1 ss (d1.body C (ss ++ List.replicate (d1.ns - d1.np) .und))
      | false => .bad 38) : FnOk P w K mg base (L2.CX P w) (k + 1) fa fd ["thing", "bound"] (spV Y xc (xrV Y) Cn 1) := by
  refine fnV F sc1 rfl rfl (by decide) hC fun cdv A outer s H vs E hr => ?_
  exact (zone (zret (vand (show Fits _ _ from ⟨yK, yP, yw, inj⟩) (vcall G0.ok hr rfl G0.mg G0.kp G0.bd (takes_of rfl rfl rfl rfl) (waown 0 (pv 0) wanil)) (vone (vcmp (o := 0) ops_lt (vs_ 0 (pv 0)) (vs_ 1 (pv 1)) (nomark _))))))
theorem sc2 : FnScope ["thing"] ["thing"] (defScope (top 6)) := ⟨rfl, rfl, rfl, by decide +kernel, rfl, by decide +kernel, by decide +kernel⟩
theorem ok2 (k2 : 2 ≤ k) (yK : Y.K = K) (yP : Y.P = P) (yw : Y.w = w) (inj : ∀ i j, Y.at_ i = Y.at_ j → i = j) (z_isinstance : mg "isinstance" = none) (z_list : mg "list" = none) (z_tuple : mg "tuple" = none) (hI : ∀ {X : Cx}, X.K = K → InsOk X Y) {fa : Addr} {fd : FuncData} {Cn : Vy.Callee} (F : FunD K "is_row" "is_row" (defArgs (top 6)) (defBody (top 6)) (defScope (top 6)) [] [] fa fd)
    (hC : ∀ ss, Cn 2 ss = match Nat.beq ss.length d2.np && plainAt d2.rp 0 ss with
      | true => ended d2 ss (d2.body C (ss ++ List.replicate (d2.ns - d2.np) .und))
      | false => .bad 38) : FnOk P w K mg base (L2.CX P w) (k + 1) fa fd ["thing"] (spV Y xc (xrV Y) Cn 2) := by
  refine fnV F sc2 rfl rfl (by decide) hC fun cdv A outer s H vs E hr => ?_
  exact (zone (zret (vblt (cb_isi (show Fits _ _ from ⟨yK, yP, yw, inj⟩) (hI rfl)) rfl z_isinstance boot_isinstance (vocons (vs_ 0 (pv 0)) (vocons (ve_ (vtup (vacons (vc_ (pe_bltn (v := V.ty "list") rfl z_list Boot.list rfl)) (vacons (vc_ (pe_bltn (v := V.ty "tuple") rfl z_tuple Boot.tuple rfl)) vanil)))) vonil)))))
theorem sc3 : FnScope ["thing", "one"] ["thing"] (defScope (top 9)) := ⟨rfl, rfl, rfl, by decide +kernel, rfl, by decide +kernel, by decide +kernel⟩
theorem ok3 (k2 : 2 ≤ k) (yK : Y.K = K) (yP : Y.P = P) (yw : Y.w = w) (inj : ∀ i j, Y.at_ i = Y.at_ j → i = j) {f1 : Addr} {u1 : FuncData} (G1 : Cal P w K mg base Y xc (xrV Y) C k 1 "is_below" f1 u1 ["thing", "bound"]) {f2 : Addr} {u2 : FuncData} (G2 : Cal P w K mg base Y xc (xrV Y) C k 2 "is_row" f2 u2 ["thing"]) (z_all : mg "all" = none) (z_len : mg "len" = none) {wMOST : Value} (i_MOST : mg "MOST" = some wMOST ∧ RelV (.int 9) wMOST) {fa : Addr} {fd : FuncData} {Cn : Vy.Callee} (F : FunD K "is_four" "is_four" (defArgs (top 9)) (defBody (top 9)) (defScope (top 9)) [] [] fa fd)
    (hC : ∀ ss, Cn 3 ss = match Nat.beq ss.length d3.np && plainAt d3.rp 0 ss with
      | true => ended d3 ss (d3.body C (ss ++ List.replicate (d3.ns - d3.np) .und))
      | false => .bad 38) : FnOk P w K mg base (L2.CX P w) (k + 1) fa fd ["thing"] (spV Y xc (xrV Y) Cn 3) := by
  refine fnV F sc3 rfl rfl (by decide) hC fun cdv A outer s H vs E hr => ?_
  exact (zone (zret (vand (show Fits _ _ from ⟨yK, yP, yw, inj⟩) (vcall G2.ok hr rfl G2.mg G2.kp G2.bd (takes_of rfl rfl rfl rfl) (waown 0 (pv 0) wanil)) (vand (show Fits _ _ from ⟨yK, yP, yw, inj⟩) (veqE (eqOk_plain (show Fits _ _ from ⟨yK, yP, yw, inj⟩) (hu64 hr) he0) (ve_ (vblt (cb_len (show Fits _ _ from ⟨yK, yP, yw, inj⟩)) rfl z_len boot_len (vocons (vs_ 0 (pv 0)) vonil))) (ve_ (vc_ pe_int))) (vone (vblt (cb_all rfl) rfl z_all boot_all (vocons (ve_ (vlc rfl sc3.nd (own := [("one", 1)]) (blkOk_by (by with_unfolding_all rfl)) rfl (iseq (show Fits _ _ from ⟨yK, yP, yw, inj⟩) (vs_ 0 (pv 0))) (fun _ _ _ _ _ => (gname 1 (kOwn_set (by decide)) (pg_name sc3.nd rfl (by first | exact .inl rfl | exact .inr rfl)))) (fun _ _ _ _ _ => vifs0) (fun _ _ _ _ _ => (vcall G1.ok hr rfl G1.mg G1.kp G1.bd takes0 (waown 1 (pv 1) (waval (vbin (ops_add (show Fits _ _ from ⟨yK, yP, yw, inj⟩).1) (ve_ (vc_ (pe_glob rfl i_MOST.1 i_MOST.2))) (ve_ (vc_ pe_int))) wanil)))))) vonil)))))))
theorem sc4 : FnScope ["thing"] ["thing"] (defScope (top 10)) := ⟨rfl, rfl, rfl, by decide +kernel, rfl, by decide +kernel, by decide +kernel⟩
theorem ok4 (k2 : 2 ≤ k) (yK : Y.K = K) (yP : Y.P = P) (yw : Y.w = w) (inj : ∀ i j, Y.at_ i = Y.at_ j → i = j) {f3 : Addr} {u3 : FuncData} (G3 : Cal P w K mg base Y xc (xrV Y) C k 3 "is_four" f3 u3 ["thing"]) {jBadName : Addr} {vBadName : FuncData} (xBadName : ExcF P w K mg base Y 1 [3] "BadName" (xc 1) jBadName vBadName ["self", "name"]) {fa : Addr} {fd : FuncData} {Cn : Vy.Callee} (F : FunD K "check_four" "check_four" (defArgs (top 10)) (defBody (top 10)) (defScope (top 10)) [] [] fa fd)
    (hC : ∀ ss, Cn 4 ss = match Nat.beq ss.length d4.np && plainAt d4.rp 0 ss with
      | true => ended d4 ss (d4.body C (ss ++ List.replicate (d4.ns - d4.np) .und))
      | false => .bad 38) : FnOk P w K mg base (L2.CX P w) (k + 1) fa fd ["thing"] (spV Y xc (xrV Y) Cn 4) := by
  refine fnV F sc4 rfl rfl (by decide) hC fun cdv A outer s H vs E hr => ?_
  exact (zone (zif (vnotT (d := fun e => .ok true e) (pt_tst (trR_plain (show Fits _ _ from ⟨yK, yP, yw, inj⟩) hb0) (ve_ (vcall G3.ok hr rfl G3.mg G3.kp G3.bd (takes_of rfl rfl rfl rfl) (waown 0 (pv 0) wanil))))) (zone (zraise (show Fits _ _ from ⟨yK, yP, yw, inj⟩) rfl (takes_of rfl rfl rfl rfl) rfl (by decide) (by decide) rfl rfl xBadName.T xBadName.iC xBadName.tI xBadName.ok (hr.mono k2) xBadName.bd rfl xBadName.mg (vacons (vv_ 0 (pv 0)) vanil))) znil))
theorem sc5 : FnScope ["means", "need"] ["means", "need"] (defScope (top 11)) := ⟨rfl, rfl, rfl, by decide +kernel, rfl, by decide +kernel, by decide +kernel⟩
theorem ok5 (k2 : 2 ≤ k) (yK : Y.K = K) (yP : Y.P = P) (yw : Y.w = w) (inj : ∀ i j, Y.at_ i = Y.at_ j → i = j) {fa : Addr} {fd : FuncData} {Cn : Vy.Callee} (F : FunD K "meets" "meets" (defArgs (top 11)) (defBody (top 11)) (defScope (top 11)) [] [] fa fd)
    (hC : ∀ ss, Cn 5 ss = match Nat.beq ss.length d5.np && plainAt d5.rp 0 ss with
      | true => ended d5 ss (d5.body C (ss ++ List.replicate (d5.ns - d5.np) .und))
      | false => .bad 38) : FnOk P w K mg base (L2.CX P w) (k + 1) fa fd ["means", "need"] (spV Y xc (xrV Y) Cn 5) := by
  refine fnV F sc5 rfl rfl (by decide) hC fun cdv A outer s H vs E hr => ?_
  exact (zseq (zif (PW.pt (vorT (vcmpT (o := 2) ops_gt (ve_ (vsub (show Fits _ _ from ⟨yK, yP, yw, inj⟩) (hu9 hr) (vs_ 0 (pv 0)) (ve_ (vc_ pe_int)))) (ve_ (vsub (show Fits _ _ from ⟨yK, yP, yw, inj⟩) (hu9 hr) (vs_ 1 (pv 1)) (ve_ (vc_ pe_int)))) (nomark _)) (vorW (vcmpT (o := 0) ops_lt (ve_ (vsub (show Fits _ _ from ⟨yK, yP, yw, inj⟩) (hu9 hr) (vs_ 0 (pv 0)) (ve_ (vc_ pe_int)))) (ve_ (vsub (show Fits _ _ from ⟨yK, yP, yw, inj⟩) (hu9 hr) (vs_ 1 (pv 1)) (ve_ (vc_ pe_int)))) (nomark _))))) (zone (zret (vc_ pe_bl))) znil) (zone (zret (vand (show Fits _ _ from ⟨yK, yP, yw, inj⟩) (vcmp (o := 3) ops_ge (ve_ (vsub (show Fits _ _ from ⟨yK, yP, yw, inj⟩) (hu9 hr) (vs_ 0 (pv 0)) (ve_ (vc_ pe_int)))) (ve_ (vsub (show Fits _ _ from ⟨yK, yP, yw, inj⟩) (hu9 hr) (vs_ 1 (pv 1)) (ve_ (vc_ pe_int)))) (nomark _)) (vone (vcmp (o := 3) ops_ge (ve_ (vsub (show Fits _ _ from ⟨yK, yP, yw, inj⟩) (hu9 hr) (vs_ 0 (pv 0)) (ve_ (vc_ pe_int)))) (ve_ (vsub (show Fits _ _ from ⟨yK, yP, yw, inj⟩) (hu9 hr) (vs_ 1 (pv 1)) (ve_ (vc_ pe_int)))) (nomark _)))))))
theorem sc6 : FnScope ["one", "other"] ["one", "other"] (defScope (top 12)) := ⟨rfl, rfl, rfl, by decide +kernel, rfl, by decide +kernel, by decide +kernel⟩
theorem ok6 (k2 : 2 ≤ k) (yK : Y.K = K) (yP : Y.P = P) (yw : Y.w = w) (inj : ∀ i j, Y.at_ i = Y.at_ j → i = j) (z_max : mg "max" = none) (z_min : mg "min" = none) {fa : Addr} {fd : FuncData} {Cn : Vy.Callee} (F : FunD K "both_of" "both_of" (defArgs (top 12)) (defBody (top 12)) (defScope (top 12)) [] [] fa fd)
    (hC : ∀ ss, Cn 6 ss = match Nat.beq ss.length d6.np && plainAt d6.rp 0 ss with
      | true => ended d6 ss (d6.body C (ss ++ List.replicate (d6.ns - d6.np) .und))
      | false => .bad 38) : FnOk P w K mg base (L2.CX P w) (k + 1) fa fd ["one", "other"] (spV Y xc (xrV Y) Cn 6) := by
  refine fnV F sc6 rfl rfl (by decide) hC fun cdv A outer s H vs E hr => ?_
  exact (zone (zret (vtup (vacons (vblt (cb_min rfl) rfl z_min boot_min (vocons (ve_ (vsub (show Fits _ _ from ⟨yK, yP, yw, inj⟩) (hu9 hr) (vs_ 0 (pv 0)) (ve_ (vc_ pe_int)))) (vocons (ve_ (vsub (show Fits _ _ from ⟨yK, yP, yw, inj⟩) (hu9 hr) (vs_ 1 (pv 1)) (ve_ (vc_ pe_int)))) vonil))) (vacons (vblt (cb_max rfl) rfl z_max boot_max (vocons (ve_ (vsub (show Fits _ _ from ⟨yK, yP, yw, inj⟩) (hu9 hr) (vs_ 0 (pv 0)) (ve_ (vc_ pe_int)))) (vocons (ve_ (vsub (show Fits _ _ from ⟨yK, yP, yw, inj⟩) (hu9 hr) (vs_ 1 (pv 1)) (ve_ (vc_ pe_int)))) vonil))) (vacons (vblt (cb_max rfl) rfl z_max boot_max (vocons (ve_ (vsub (show Fits _ _ from ⟨yK, yP, yw, inj⟩) (hu9 hr) (vs_ 0 (pv 0)) (ve_ (vc_ pe_int)))) (vocons (ve_ (vsub (show Fits _ _ from ⟨yK, yP, yw, inj⟩) (hu9 hr) (vs_ 1 (pv 1)) (ve_ (vc_ pe_int)))) vonil))) (vacons (vblt (cb_max rfl) rfl z_max boot_max (vocons (ve_ (vsub (show Fits _ _ from ⟨yK, yP, yw, inj⟩) (hu9 hr) (vs_ 0 (pv 0)) (ve_ (vc_ pe_int)))) (vocons (ve_ (vsub (show Fits _ _ from ⟨yK, yP, yw, inj⟩) (hu9 hr) (vs_ 1 (pv 1)) (ve_ (vc_ pe_int)))) vonil))) vanil)))))))
theorem sc7 : FnScope ["means", "need"] ["means", "need"] (defScope (top 13)) := ⟨rfl, rfl, rfl, by decide +kernel, rfl, by decide +kernel, by decide +kernel⟩
theorem ok7 (k2 : 2 ≤ k) (yK : Y.K = K) (yP : Y.P = P) (yw : Y.w = w) (inj : ∀ i j, Y.at_ i = Y.at_ j → i = j) {f4 : Addr} {u4 : FuncData} (G4 : Cal P w K mg base Y xc (xrV Y) C k 4 "check_four" f4 u4 ["thing"]) {f5 : Addr} {u5 : FuncData} (G5 : Cal P w K mg base Y xc (xrV Y) C k 5 "meets" f5 u5 ["means", "need"]) {fa : Addr} {fd : FuncData} {Cn : Vy.Callee} (F : FunD K "fulfils" "fulfils" (defArgs (top 13)) (defBody (top 13)) (defScope (top 13)) [] [] fa fd)
    (hC : ∀ ss, Cn 7 ss = match Nat.beq ss.length d7.np && plainAt d7.rp 0 ss with
      | true => ended d7 ss (d7.body C (ss ++ List.replicate (d7.ns - d7.np) .und))
      | false => .bad 38) : FnOk P w K mg base (L2.CX P w) (k + 1) fa fd ["means", "need"] (spV Y xc (xrV Y) Cn 7) := by
  refine fnV F sc7 rfl rfl (by decide) hC fun cdv A outer s H vs E hr => ?_
  exact (zseq (zexpr (vcall G4.ok hr rfl G4.mg G4.kp G4.bd (takes_of rfl rfl rfl rfl) (waown 0 (pv 0) wanil))) (zseq (zexpr (vcall G4.ok hr rfl G4.mg G4.kp G4.bd (takes_of rfl rfl rfl rfl) (waown 1 (pv 1) wanil))) (zone (zret (vcall G5.ok hr rfl G5.mg G5.kp G5.bd (takes_of rfl rfl rfl rfl) (waown 0 (pv 0) (waown 1 (pv 1) wanil)))))))
theorem sc8 : FnScope ["one", "other"] ["one", "other"] (defScope (top 14)) := ⟨rfl, rfl, rfl, by decide +kernel, rfl, by decide +kernel, by decide +kernel⟩
theorem ok8 (k2 : 2 ≤ k) (yK : Y.K = K) (yP : Y.P = P) (yw : Y.w = w) (inj : ∀ i j, Y.at_ i = Y.at_ j → i = j) {f4 : Addr} {u4 : FuncData} (G4 : Cal P w K mg base Y xc (xrV Y) C k 4 "check_four" f4 u4 ["thing"]) {f6 : Addr} {u6 : FuncData} (G6 : Cal P w K mg base Y xc (xrV Y) C k 6 "both_of" f6 u6 ["one", "other"]) {fa : Addr} {fd : FuncData} {Cn : Vy.Callee} (F : FunD K "joined" "joined" (defArgs (top 14)) (defBody (top 14)) (defScope (top 14)) [] [] fa fd)
    (hC : ∀ ss, Cn 8 ss = match Nat.beq ss.length d8.np && plainAt d8.rp 0 ss with
      | true => ended d8 ss (d8.body C (ss ++ List.replicate (d8.ns - d8.np) .und))
      | false => .bad 38) : FnOk P w K mg base (L2.CX P w) (k + 1) fa fd ["one", "other"] (spV Y xc (xrV Y) Cn 8) := by
  refine fnV F sc8 rfl rfl (by decide) hC fun cdv A outer s H vs E hr => ?_
  exact (zseq (zexpr (vcall G4.ok hr rfl G4.mg G4.kp G4.bd (takes_of rfl rfl rfl rfl) (waown 0 (pv 0) wanil))) (zseq (zexpr (vcall G4.ok hr rfl G4.mg G4.kp G4.bd (takes_of rfl rfl rfl rfl) (waown 1 (pv 1) wanil))) (zone (zret (vcall G6.ok hr rfl G6.mg G6.kp G6.bd (takes_of rfl rfl rfl rfl) (waown 0 (pv 0) (waown 1 (pv 1) wanil)))))))
theorem sc9 : FnScope ["one", "other"] ["one", "other"] (defScope (top 15)) := ⟨rfl, rfl, rfl, by decide +kernel, rfl, by decide +kernel, by decide +kernel⟩
theorem ok9 (k2 : 2 ≤ k) (yK : Y.K = K) (yP : Y.P = P) (yw : Y.w = w) (inj : ∀ i j, Y.at_ i = Y.at_ j → i = j) {f4 : Addr} {u4 : FuncData} (G4 : Cal P w K mg base Y xc (xrV Y) C k 4 "check_four" f4 u4 ["thing"]) {f5 : Addr} {u5 : FuncData} (G5 : Cal P w K mg base Y xc (xrV Y) C k 5 "meets" f5 u5 ["means", "need"]) {fa : Addr} {fd : FuncData} {Cn : Vy.Callee} (F : FunD K "is_easier" "is_easier" (defArgs (top 15)) (defBody (top 15)) (defScope (top 15)) [] [] fa fd)
    (hC : ∀ ss, Cn 9 ss = match Nat.beq ss.length d9.np && plainAt d9.rp 0 ss with
      | true => ended d9 ss (d9.body C (ss ++ List.replicate (d9.ns - d9.np) .und))
      | false => .bad 38) : FnOk P w K mg base (L2.CX P w) (k + 1) fa fd ["one", "other"] (spV Y xc (xrV Y) Cn 9) := by
  refine fnV F sc9 rfl rfl (by decide) hC fun cdv A outer s H vs E hr => ?_
  exact (zseq (zexpr (vcall G4.ok hr rfl G4.mg G4.kp G4.bd (takes_of rfl rfl rfl rfl) (waown 0 (pv 0) wanil))) (zseq (zexpr (vcall G4.ok hr rfl G4.mg G4.kp G4.bd (takes_of rfl rfl rfl rfl) (waown 1 (pv 1) wanil))) (zone (zret (vcall G5.ok hr rfl G5.mg G5.kp G5.bd (takes_of rfl rfl rfl rfl) (waown 0 (pv 0) (waown 1 (pv 1) wanil)))))))
theorem sc10 : FnScope ["rows", "need"] ["rows"] (defScope (top 16)) := ⟨rfl, rfl, rfl, by decide +kernel, rfl, by decide +kernel, by decide +kernel⟩
theorem ok10 (k2 : 2 ≤ k) (yK : Y.K = K) (yP : Y.P = P) (yw : Y.w = w) (inj : ∀ i j, Y.at_ i = Y.at_ j → i = j) {f2 : Addr} {u2 : FuncData} (G2 : Cal P w K mg base Y xc (xrV Y) C k 2 "is_row" f2 u2 ["thing"]) {f4 : Addr} {u4 : FuncData} (G4 : Cal P w K mg base Y xc (xrV Y) C k 4 "check_four" f4 u4 ["thing"]) {f11 : Addr} {u11 : FuncData} (G11 : Cal P w K mg base Y xc (xrV Y) C k 11 "least_among" f11 u11 ["rows"]) (z_tuple : mg "tuple" = none) {jBadName : Addr} {vBadName : FuncData} (xBadName : ExcF P w K mg base Y 1 [3] "BadName" (xc 1) jBadName vBadName ["self", "name"]) {fa : Addr} {fd : FuncData} {Cn : Vy.Callee} (F : FunD K "least_of" "least_of" (defArgs (top 16)) (defBody (top 16)) (defScope (top 16)) [] [] fa fd)
    (hC : ∀ ss, Cn 10 ss = match Nat.beq ss.length d10.np && plainAt d10.rp 0 ss with
      | true => ended d10 ss (d10.body C (ss ++ List.replicate (d10.ns - d10.np) .und))
      | false => .bad 38) : FnOk P w K mg base (L2.CX P w) (k + 1) fa fd ["rows"] (spV Y xc (xrV Y) Cn 10) := by
  refine fnV F sc10 rfl rfl (by decide) hC fun cdv A outer s H vs E hr => ?_
  exact (zseq (zif (vnotT (d := fun e => .ok true e) (pt_tst (trR_plain (show Fits _ _ from ⟨yK, yP, yw, inj⟩) hb0) (ve_ (vcall G2.ok hr rfl G2.mg G2.kp G2.bd (takes_of rfl rfl rfl rfl) (waown 0 (pv 0) wanil))))) (zone (zraise (show Fits _ _ from ⟨yK, yP, yw, inj⟩) rfl (takes_of rfl rfl rfl rfl) rfl (by decide) (by decide) rfl rfl xBadName.T xBadName.iC xBadName.tI xBadName.ok (hr.mono k2) xBadName.bd rfl xBadName.mg (vacons (vv_ 0 (pv 0)) vanil))) znil) (zseq (zfor (passes_of rfl) rfl (iseq (show Fits _ _ from ⟨yK, yP, yw, inj⟩) (vs_ 0 (pv 0))) (gname 1 (kPar_set rfl) (pg_name sc10.nd rfl (by first | exact .inl rfl | exact .inr rfl))) (zone (zexpr (vcall G4.ok hr rfl G4.mg G4.kp G4.bd (takes_of rfl rfl rfl rfl) (waown 1 (pv 1) wanil))))) (zone (zret (vcall G11.ok hr rfl G11.mg G11.kp G11.bd (takes_of rfl rfl rfl rfl) (waval (vlc rfl sc10.nd (own := [("need", 1)]) (blkOk_by (by with_unfolding_all rfl)) rfl (iseq (show Fits _ _ from ⟨yK, yP, yw, inj⟩) (vs_ 0 (pv 0))) (fun _ _ _ _ _ => (gname 1 (kOwn_set (by decide)) (pg_name sc10.nd rfl (by first | exact .inl rfl | exact .inr rfl)))) (fun _ _ _ _ _ => vifs0) (fun _ _ _ _ _ => (vbty (cb_tuple (show Fits _ _ from ⟨yK, yP, yw, inj⟩)) rfl z_tuple boot_tuple (vocons (vs_ 1 (pv 1)) vonil)))) wanil))))))
theorem sc11 : FnScope ["rows", "some", "need", "one"] ["rows"] (defScope (top 17)) := ⟨rfl, rfl, rfl, by decide +kernel, rfl, by decide +kernel, by decide +kernel⟩
theorem ok11 (k2 : 2 ≤ k) (yK : Y.K = K) (yP : Y.P = P) (yw : Y.w = w) (inj : ∀ i j, Y.at_ i = Y.at_ j → i = j) {f5 : Addr} {u5 : FuncData} (G5 : Cal P w K mg base Y xc (xrV Y) C k 5 "meets" f5 u5 ["means", "need"]) (z_any : mg "any" = none) (z_sorted : mg "sorted" = none) {fa : Addr} {fd : FuncData} {Cn : Vy.Callee} (F : FunD K "least_among" "least_among" (defArgs (top 17)) (defBody (top 17)) (defScope (top 17)) [] [] fa fd)
    (hC : ∀ ss, Cn 11 ss = match Nat.beq ss.length d11.np && plainAt d11.rp 0 ss with
      | true => ended d11 ss (d11.body C (ss ++ List.replicate (d11.ns - d11.np) .und))
      | false => .bad 38) : FnOk P w K mg base (L2.CX P w) (k + 1) fa fd ["rows"] (spV Y xc (xrV Y) Cn 11) := by
  refine fnV F sc11 rfl rfl (by decide) hC fun cdv A outer s H vs E hr => ?_
  exact (zseq (zset 1 rfl (fun h => ps_set sc11.nd rfl (by first | exact .inl rfl | exact .inr rfl) h) (vblt (cb_sorted (show Fits _ _ from ⟨yK, yP, yw, inj⟩) rfl (hu64 hr)) rfl z_sorted boot_sorted (vocons (ve_ (vdc (show Fits _ _ from ⟨yK, yP, yw, inj⟩) (hu9 hr) rfl sc11.nd (own := [("need", 2)]) (blkOk_by (by with_unfolding_all rfl)) rfl (iseq (show Fits _ _ from ⟨yK, yP, yw, inj⟩) (vs_ 0 (pv 0))) (fun _ _ _ _ _ => (gname 2 (kOwn_set (by decide)) (pg_name sc11.nd rfl (by first | exact .inl rfl | exact .inr rfl)))) (fun _ _ _ _ _ => vifs0) (fun _ _ _ _ _ => (vv_ 2 (pv 2))) (fun _ _ _ _ _ => (vc_ pe_bl)))) vonil))) (zone (zret (vlc rfl sc11.nd (own := [("need", 2)]) (blkOk_by (by with_unfolding_all rfl)) rfl (iseq (show Fits _ _ from ⟨yK, yP, yw, inj⟩) (vs_ 1 (pv 1))) (fun _ _ _ _ _ => (gname 2 (kOwn_set (by decide)) (pg_name sc11.nd rfl (by first | exact .inl rfl | exact .inr rfl)))) (fun _ _ _ _ _ => (vifs1 (vnotT (d := fun e => .ok true e) (pt_tst (trR_plain (show Fits _ _ from ⟨yK, yP, yw, inj⟩) hb0) (ve_ (vblt (cb_any rfl) rfl z_any boot_any (vocons (ve_ (vlc rfl sc11.nd (own := [("one", 3)]) (blkOk_by (by with_unfolding_all rfl)) rfl (iseq (show Fits _ _ from ⟨yK, yP, yw, inj⟩) (vs_ 1 (pv 1))) (fun _ _ _ _ _ => (gname 3 (kOwn_set (by decide)) (pg_name sc11.nd rfl (by first | exact .inl rfl | exact .inr rfl)))) (fun _ _ _ _ _ => vifs0) (fun _ _ _ _ _ => (vand (show Fits _ _ from ⟨yK, yP, yw, inj⟩) (vneE (eqOk_plain (show Fits _ _ from ⟨yK, yP, yw, inj⟩) (hu64 hr) he0) (vs_ 3 (pv 3)) (vs_ 2 (pv 2))) (vone (vcall G5.ok hr rfl G5.mg G5.kp G5.bd takes0 (waown 2 (pv 2) (waown 3 (pv 3) wanil)))))))) vonil))))))) (fun _ _ _ _ _ => (vv_ 2 (pv 2)))))))
theorem sc12 : FnScope ["means", "rows", "need"] ["means", "rows"] (defScope (top 18)) := ⟨rfl, rfl, rfl, by decide +kernel, rfl, by decide +kernel, by decide +kernel⟩
theorem ok12 (k2 : 2 ≤ k) (yK : Y.K = K) (yP : Y.P = P) (yw : Y.w = w) (inj : ∀ i j, Y.at_ i = Y.at_ j → i = j) {f2 : Addr} {u2 : FuncData} (G2 : Cal P w K mg base Y xc (xrV Y) C k 2 "is_row" f2 u2 ["thing"]) {f4 : Addr} {u4 : FuncData} (G4 : Cal P w K mg base Y xc (xrV Y) C k 4 "check_four" f4 u4 ["thing"]) {f5 : Addr} {u5 : FuncData} (G5 : Cal P w K mg base Y xc (xrV Y) C k 5 "meets" f5 u5 ["means", "need"]) (z_any : mg "any" = none) {jBadName : Addr} {vBadName : FuncData} (xBadName : ExcF P w K mg base Y 1 [3] "BadName" (xc 1) jBadName vBadName ["self", "name"]) {fa : Addr} {fd : FuncData} {Cn : Vy.Callee} (F : FunD K "any_fulfils" "any_fulfils" (defArgs (top 18)) (defBody (top 18)) (defScope (top 18)) [] [] fa fd)
    (hC : ∀ ss, Cn 12 ss = match Nat.beq ss.length d12.np && plainAt d12.rp 0 ss with
      | true => ended d12 ss (d12.body C (ss ++ List.replicate (d12.ns - d12.np) .und))
      | false => .bad 38) : FnOk P w K mg base (L2.CX P w) (k + 1) fa fd ["means", "rows"] (spV Y xc (xrV Y) Cn 12) := by
  refine fnV F sc12 rfl rfl (by decide) hC fun cdv A outer s H vs E hr => ?_
  exact (zseq (zexpr (vcall G4.ok hr rfl G4.mg G4.kp G4.bd (takes_of rfl rfl rfl rfl) (waown 0 (pv 0) wanil))) (zseq (zif (vnotT (d := fun e => .ok true e) (pt_tst (trR_plain (show Fits _ _ from ⟨yK, yP, yw, inj⟩) hb0) (ve_ (vcall G2.ok hr rfl G2.mg G2.kp G2.bd (takes_of rfl rfl rfl rfl) (waown 1 (pv 1) wanil))))) (zone (zraise (show Fits _ _ from ⟨yK, yP, yw, inj⟩) rfl (takes_of rfl rfl rfl rfl) rfl (by decide) (by decide) rfl rfl xBadName.T xBadName.iC xBadName.tI xBadName.ok (hr.mono k2) xBadName.bd rfl xBadName.mg (vacons (vv_ 1 (pv 1)) vanil))) znil) (zseq (zfor (passes_of rfl) rfl (iseq (show Fits _ _ from ⟨yK, yP, yw, inj⟩) (vs_ 1 (pv 1))) (gname 2 (kPar_set rfl) (pg_name sc12.nd rfl (by first | exact .inl rfl | exact .inr rfl))) (zone (zexpr (vcall G4.ok hr rfl G4.mg G4.kp G4.bd (takes_of rfl rfl rfl rfl) (waown 2 (pv 2) wanil))))) (zone (zret (vblt (cb_any rfl) rfl z_any boot_any (vocons (ve_ (vlc rfl sc12.nd (own := [("need", 2)]) (blkOk_by (by with_unfolding_all rfl)) rfl (iseq (show Fits _ _ from ⟨yK, yP, yw, inj⟩) (vs_ 1 (pv 1))) (fun _ _ _ _ _ => (gname 2 (kOwn_set (by decide)) (pg_name sc12.nd rfl (by first | exact .inl rfl | exact .inr rfl)))) (fun _ _ _ _ _ => vifs0) (fun _ _ _ _ _ => (vcall G5.ok hr rfl G5.mg G5.kp G5.bd takes0 (waown 0 (pv 0) (waown 2 (pv 2) wanil)))))) vonil)))))))
theorem sc13 : FnScope ["script", "index", "cell", "turn", "rest", "step", "blend"] ["script", "index"] (defScope (top 20)) := ⟨rfl, rfl, rfl, by decide +kernel, rfl, by decide +kernel, by decide +kernel⟩
theorem ok13 (k2 : 2 ≤ k) (yK : Y.K = K) (yP : Y.P = P) (yw : Y.w = w) (inj : ∀ i j, Y.at_ i = Y.at_ j → i = j) (z_int : mg "int" = none) (z_len : mg "len" = none) (z_range : mg "range" = none) {fa : Addr} {fd : FuncData} {Cn : Vy.Callee} (F : FunD K "_law_number" "_law_number" (defArgs (top 20)) (defBody (top 20)) (defScope (top 20)) [] [] fa fd)
    (hC : ∀ ss, Cn 13 ss = match Nat.beq ss.length d13.np && plainAt d13.rp 0 ss with
      | true => ended d13 ss (d13.body C (ss ++ List.replicate (d13.ns - d13.np) .und))
      | false => .bad 38) : FnOk P w K mg base (L2.CX P w) (k + 1) fa fd ["script", "index"] (spV Y xc (xrV Y) Cn 13) := by
  refine fnV F sc13 rfl rfl (by decide) hC fun cdv A outer s H vs E hr => ?_
  exact (zseq (zasg (by intro i z; cases z) (fun h g => ps_asg h g) (vite (vneT (eqOk_plain (show Fits _ _ from ⟨yK, yP, yw, inj⟩) (hu64 hr) he0) (vs_ 0 (pv 0)) (ve_ (vlst vanil))) (vtup (vacons (vsub (show Fits _ _ from ⟨yK, yP, yw, inj⟩) (hu9 hr) (vs_ 0 (pv 0)) (ve_ (vbin (ops_mod) (vs_ 1 (pv 1)) (ve_ (vblt (cb_len (show Fits _ _ from ⟨yK, yP, yw, inj⟩)) rfl z_len boot_len (vocons (vs_ 0 (pv 0)) vonil)))))) (vacons (vbin (ops_fdiv) (vs_ 1 (pv 1)) (ve_ (vblt (cb_len (show Fits _ _ from ⟨yK, yP, yw, inj⟩)) rfl z_len boot_len (vocons (vs_ 0 (pv 0)) vonil)))) vanil))) (vtup (vacons (vc_ pe_int) (vacons (vc_ pe_int) vanil)))) (gtup (show Fits _ _ from ⟨yK, yP, yw, inj⟩) rfl (gcons kPar_ok (fun a b => pgs_cons a b) (gname 2 (kPar_set rfl) (pg_name sc13.nd rfl (by first | exact .inl rfl | exact .inr rfl))) (gcons kPar_ok (fun a b => pgs_cons a b) (gname 3 (kPar_set rfl) (pg_name sc13.nd rfl (by first | exact .inl rfl | exact .inr rfl))) (gnil kPar_ok))) rfl)) (zseq (zset 4 rfl (fun h => ps_set sc13.nd rfl (by first | exact .inl rfl | exact .inr rfl) h) (vite (vcmpT (o := 0) ops_lt (vs_ 3 (pv 3)) (ve_ (vc_ pe_int)) (nomark _)) (vbin (ops_sub) (vs_ 2 (pv 2)) (ve_ (vbin (ops_pow) (ve_ (vc_ pe_int)) (ve_ (vc_ pe_int))))) (vc_ pe_int))) (zseq (zfor (passes_of rfl) rfl (irng1 rfl z_range (ve_ (vbin (ops_mod) (ve_ (vbty cb_int rfl z_int boot_int (vocons (vs_ 3 (pv 3)) vonil))) (ve_ (vc_ pe_int))))) (gname 5 (kPar_set rfl) (pg_name sc13.nd rfl (by first | exact .inl rfl | exact .inr rfl))) (zone (zset 4 rfl (fun h => ps_set sc13.nd rfl (by first | exact .inl rfl | exact .inr rfl) h) (vbin (ops_fdiv) (vs_ 4 (pv 4)) (ve_ (vc_ pe_int)))))) (zseq (zif (vcmpT (o := 2) ops_gt (vs_ 4 (pv 4)) (ve_ (vc_ pe_int)) (nomark _)) (zone (zret (vbin (ops_mod) (ve_ (vbty cb_int rfl z_int boot_int (vocons (vs_ 4 (pv 4)) vonil))) (ve_ (vc_ pe_int))))) znil) (zseq (zset 6 rfl (fun h => ps_set sc13.nd rfl (by first | exact .inl rfl | exact .inr rfl) h) (vbin (ops_mod) (ve_ (vbin (ops_add (show Fits _ _ from ⟨yK, yP, yw, inj⟩).1) (ve_ (vbin (ops_mul) (ve_ (vbty cb_int rfl z_int boot_int (vocons (ve_ (vbin (ops_add (show Fits _ _ from ⟨yK, yP, yw, inj⟩).1) (vs_ 2 (pv 2)) (ve_ (vbin (ops_mul) (ve_ (vc_ pe_int)) (vs_ 1 (pv 1)))))) vonil))) (ve_ (vc_ pe_int)))) (ve_ (vbin (ops_mul) (ve_ (vc_ pe_int)) (ve_ (vblt (cb_len (show Fits _ _ from ⟨yK, yP, yw, inj⟩)) rfl z_len boot_len (vocons (vs_ 0 (pv 0)) vonil))))))) (ve_ (vc_ pe_int)))) (zseq (zset 6 rfl (fun h => ps_set sc13.nd rfl (by first | exact .inl rfl | exact .inr rfl) h) (vbin (ops_mod) (ve_ (vbin (ops_add (show Fits _ _ from ⟨yK, yP, yw, inj⟩).1) (ve_ (vbin (ops_mul) (vs_ 6 (pv 6)) (vs_ 6 (pv 6)))) (ve_ (vbin (ops_mul) (ve_ (vc_ pe_int)) (vs_ 1 (pv 1)))))) (ve_ (vc_ pe_int)))) (zone (zret (vbty cb_int rfl z_int boot_int (vocons (ve_ (vbin (ops_mod) (ve_ (vbin (ops_add (show Fits _ _ from ⟨yK, yP, yw, inj⟩).1) (ve_ (vbin (ops_mul) (vs_ 6 (pv 6)) (ve_ (vc_ pe_int)))) (ve_ (vbin (ops_fdiv) (vs_ 6 (pv 6)) (ve_ (vc_ pe_int)))))) (ve_ (vc_ pe_int)))) vonil))))))))))
theorem sc14 : FnScope ["draw", "many"] ["draw", "many"] (defScope (top 21)) := ⟨rfl, rfl, rfl, by decide +kernel, rfl, by decide +kernel, by decide +kernel⟩
theorem ok14 (k2 : 2 ≤ k) (yK : Y.K = K) (yP : Y.P = P) (yw : Y.w = w) (inj : ∀ i j, Y.at_ i = Y.at_ j → i = j) {f13 : Addr} {u13 : FuncData} (G13 : Cal P w K mg base Y xc (xrV Y) C k 13 "_law_number" f13 u13 ["script", "index"]) (z_int : mg "int" = none) {fa : Addr} {fd : FuncData} {Cn : Vy.Callee} (F : FunD K "_law_take" "_law_take" (defArgs (top 21)) (defBody (top 21)) (defScope (top 21)) [] [] fa fd)
    (hC : ∀ ss, Cn 14 ss = match Nat.beq ss.length d14.np && plainAt d14.rp 0 ss with
      | true => ended d14 ss (d14.body C (ss ++ List.replicate (d14.ns - d14.np) .und))
      | false => .bad 38) : FnOk P w K mg base (L2.CX P w) (k + 1) fa fd ["draw", "many"] (spV Y xc (xrV Y) Cn 14) := by
  refine fnV F sc14 rfl rfl (by decide) hC fun cdv A outer s H vs E hr => ?_
  exact (zseq (zaugs (show Fits _ _ from ⟨yK, yP, yw, inj⟩) (hu9 hr) ip_add aug_add  (pv 0) (ve_ (vc_ pe_int)) (ve_ (vc_ pe_int))) (zone (zret (vbin (ops_mod) (ve_ (vbty cb_int rfl z_int boot_int (vocons (ve_ (vcall G13.ok hr rfl G13.mg G13.kp G13.bd (takes_of rfl rfl rfl rfl) (waval (vsub (show Fits _ _ from ⟨yK, yP, yw, inj⟩) (hu9 hr) (vs_ 0 (pv 0)) (ve_ (vc_ pe_int))) (waval (vbty cb_int rfl z_int boot_int (vocons (ve_ (vsub (show Fits _ _ from ⟨yK, yP, yw, inj⟩) (hu9 hr) (vs_ 0 (pv 0)) (ve_ (vc_ pe_int)))) vonil)) wanil)))) vonil))) (vs_ 1 (pv 1))))))
theorem sc15 : FnScope ["draw", "things"] ["draw", "things"] (defScope (top 22)) := ⟨rfl, rfl, rfl, by decide +kernel, rfl, by decide +kernel, by decide +kernel⟩
theorem ok15 (k2 : 2 ≤ k) (yK : Y.K = K) (yP : Y.P = P) (yw : Y.w = w) (inj : ∀ i j, Y.at_ i = Y.at_ j → i = j) {f14 : Addr} {u14 : FuncData} (G14 : Cal P w K mg base Y xc (xrV Y) C k 14 "_law_take" f14 u14 ["draw", "many"]) (z_len : mg "len" = none) {fa : Addr} {fd : FuncData} {Cn : Vy.Callee} (F : FunD K "_law_pick" "_law_pick" (defArgs (top 22)) (defBody (top 22)) (defScope (top 22)) [] [] fa fd)
    (hC : ∀ ss, Cn 15 ss = match Nat.beq ss.length d15.np && plainAt d15.rp 0 ss with
      | true => ended d15 ss (d15.body C (ss ++ List.replicate (d15.ns - d15.np) .und))
      | false => .bad 38) : FnOk P w K mg base (L2.CX P w) (k + 1) fa fd ["draw", "things"] (spV Y xc (xrV Y) Cn 15) := by
  refine fnV F sc15 rfl rfl (by decide) hC fun cdv A outer s H vs E hr => ?_
  exact (zone (zret (vsub (show Fits _ _ from ⟨yK, yP, yw, inj⟩) (hu9 hr) (vs_ 1 (pv 1)) (ve_ (vcall G14.ok hr rfl G14.mg G14.kp G14.bd (takes_of rfl rfl rfl rfl) (waown 0 (pv 0) (waval (vblt (cb_len (show Fits _ _ from ⟨yK, yP, yw, inj⟩)) rfl z_len boot_len (vocons (vs_ 1 (pv 1)) vonil)) wanil)))))))
theorem sc16 : FnScope ["means", "need"] ["means", "need"] (defScope (top 23)) := ⟨rfl, rfl, rfl, by decide +kernel, rfl, by decide +kernel, by decide +kernel⟩
theorem ok16 (k2 : 2 ≤ k) (yK : Y.K = K) (yP : Y.P = P) (yw : Y.w = w) (inj : ∀ i j, Y.at_ i = Y.at_ j → i = j) {fa : Addr} {fd : FuncData} {Cn : Vy.Callee} (F : FunD K "_law_fits" "_law_fits" (defArgs (top 23)) (defBody (top 23)) (defScope (top 23)) [] [] fa fd)
    (hC : ∀ ss, Cn 16 ss = match Nat.beq ss.length d16.np && plainAt d16.rp 0 ss with
      | true => ended d16 ss (d16.body C (ss ++ List.replicate (d16.ns - d16.np) .und))
      | false => .bad 38) : FnOk P w K mg base (L2.CX P w) (k + 1) fa fd ["means", "need"] (spV Y xc (xrV Y) Cn 16) := by
  refine fnV F sc16 rfl rfl (by decide) hC fun cdv A outer s H vs E hr => ?_
  exact (zone (zret (vand (show Fits _ _ from ⟨yK, yP, yw, inj⟩) (vcmp (o := 1) ops_le (ve_ (vsub (show Fits _ _ from ⟨yK, yP, yw, inj⟩) (hu9 hr) (vs_ 0 (pv 0)) (ve_ (vc_ pe_int)))) (ve_ (vsub (show Fits _ _ from ⟨yK, yP, yw, inj⟩) (hu9 hr) (vs_ 1 (pv 1)) (ve_ (vc_ pe_int)))) (nomark _)) (vand (show Fits _ _ from ⟨yK, yP, yw, inj⟩) (vcmp (o := 3) ops_ge (ve_ (vsub (show Fits _ _ from ⟨yK, yP, yw, inj⟩) (hu9 hr) (vs_ 0 (pv 0)) (ve_ (vc_ pe_int)))) (ve_ (vsub (show Fits _ _ from ⟨yK, yP, yw, inj⟩) (hu9 hr) (vs_ 1 (pv 1)) (ve_ (vc_ pe_int)))) (nomark _)) (vand (show Fits _ _ from ⟨yK, yP, yw, inj⟩) (vcmp (o := 3) ops_ge (ve_ (vsub (show Fits _ _ from ⟨yK, yP, yw, inj⟩) (hu9 hr) (vs_ 0 (pv 0)) (ve_ (vc_ pe_int)))) (ve_ (vsub (show Fits _ _ from ⟨yK, yP, yw, inj⟩) (hu9 hr) (vs_ 1 (pv 1)) (ve_ (vc_ pe_int)))) (nomark _)) (vone (vcmp (o := 3) ops_ge (ve_ (vsub (show Fits _ _ from ⟨yK, yP, yw, inj⟩) (hu9 hr) (vs_ 0 (pv 0)) (ve_ (vc_ pe_int)))) (ve_ (vsub (show Fits _ _ from ⟨yK, yP, yw, inj⟩) (hu9 hr) (vs_ 1 (pv 1)) (ve_ (vc_ pe_int)))) (nomark _))))))))
theorem sc17 : FnScope ["draw", "turn"] ["draw"] (defScope (top 24)) := ⟨rfl, rfl, rfl, by decide +kernel, rfl, by decide +kernel, by decide +kernel⟩
theorem ok17 (k2 : 2 ≤ k) (yK : Y.K = K) (yP : Y.P = P) (yw : Y.w = w) (inj : ∀ i j, Y.at_ i = Y.at_ j → i = j) {f15 : Addr} {u15 : FuncData} (G15 : Cal P w K mg base Y xc (xrV Y) C k 15 "_law_pick" f15 u15 ["draw", "things"]) (z_range : mg "range" = none) (z_tuple : mg "tuple" = none) {fa : Addr} {fd : FuncData} {Cn : Vy.Callee} (F : FunD K "_law_four" "_law_four" (defArgs (top 24)) (defBody (top 24)) (defScope (top 24)) [] [] fa fd)
    (hC : ∀ ss, Cn 17 ss = match Nat.beq ss.length d17.np && plainAt d17.rp 0 ss with
      | true => ended d17 ss (d17.body C (ss ++ List.replicate (d17.ns - d17.np) .und))
      | false => .bad 38) : FnOk P w K mg base (L2.CX P w) (k + 1) fa fd ["draw"] (spV Y xc (xrV Y) Cn 17) := by
  refine fnV F sc17 rfl rfl (by decide) hC fun cdv A outer s H vs E hr => ?_
  exact (zone (zret (vbty (cb_tuple (show Fits _ _ from ⟨yK, yP, yw, inj⟩)) rfl z_tuple boot_tuple (vocons (ve_ (vlc rfl sc17.nd (own := [("turn", 1)]) (blkOk_by (by with_unfolding_all rfl)) rfl (irng1 rfl z_range (ve_ (vc_ pe_int))) (fun _ _ _ _ _ => (gname 1 (kOwn_set (by decide)) (pg_name sc17.nd rfl (by first | exact .inl rfl | exact .inr rfl)))) (fun _ _ _ _ _ => vifs0) (fun _ _ _ _ _ => (vcall G15.ok hr rfl G15.mg G15.kp G15.bd takes0 (waown 0 (pv 0) (waval (vlst (vacons (vc_ pe_int) (vacons (vc_ pe_int) (vacons (vc_ pe_int) (vacons (vc_ pe_int) (vacons (vc_ pe_int) vanil)))))) wanil)))))) vonil))))
theorem sc18 : FnScope ["one", "other"] ["one", "other"] (defScope (top 25)) := ⟨rfl, rfl, rfl, by decide +kernel, rfl, by decide +kernel, by decide +kernel⟩
theorem ok18 (k2 : 2 ≤ k) (yK : Y.K = K) (yP : Y.P = P) (yw : Y.w = w) (inj : ∀ i j, Y.at_ i = Y.at_ j → i = j) {fa : Addr} {fd : FuncData} {Cn : Vy.Callee} (F : FunD K "_law_easier" "_law_easier" (defArgs (top 25)) (defBody (top 25)) (defScope (top 25)) [] [] fa fd)
    (hC : ∀ ss, Cn 18 ss = match Nat.beq ss.length d18.np && plainAt d18.rp 0 ss with
      | true => ended d18 ss (d18.body C (ss ++ List.replicate (d18.ns - d18.np) .und))
      | false => .bad 38) : FnOk P w K mg base (L2.CX P w) (k + 1) fa fd ["one", "other"] (spV Y xc (xrV Y) Cn 18) := by
  refine fnV F sc18 rfl rfl (by decide) hC fun cdv A outer s H vs E hr => ?_
  exact (zone (zret (vand (show Fits _ _ from ⟨yK, yP, yw, inj⟩) (vcmp (o := 3) ops_ge (ve_ (vsub (show Fits _ _ from ⟨yK, yP, yw, inj⟩) (hu9 hr) (vs_ 1 (pv 1)) (ve_ (vc_ pe_int)))) (ve_ (vsub (show Fits _ _ from ⟨yK, yP, yw, inj⟩) (hu9 hr) (vs_ 0 (pv 0)) (ve_ (vc_ pe_int)))) (nomark _)) (vand (show Fits _ _ from ⟨yK, yP, yw, inj⟩) (vcmp (o := 1) ops_le (ve_ (vsub (show Fits _ _ from ⟨yK, yP, yw, inj⟩) (hu9 hr) (vs_ 1 (pv 1)) (ve_ (vc_ pe_int)))) (ve_ (vsub (show Fits _ _ from ⟨yK, yP, yw, inj⟩) (hu9 hr) (vs_ 0 (pv 0)) (ve_ (vc_ pe_int)))) (nomark _)) (vand (show Fits _ _ from ⟨yK, yP, yw, inj⟩) (vcmp (o := 1) ops_le (ve_ (vsub (show Fits _ _ from ⟨yK, yP, yw, inj⟩) (hu9 hr) (vs_ 1 (pv 1)) (ve_ (vc_ pe_int)))) (ve_ (vsub (show Fits _ _ from ⟨yK, yP, yw, inj⟩) (hu9 hr) (vs_ 0 (pv 0)) (ve_ (vc_ pe_int)))) (nomark _)) (vone (vcmp (o := 1) ops_le (ve_ (vsub (show Fits _ _ from ⟨yK, yP, yw, inj⟩) (hu9 hr) (vs_ 1 (pv 1)) (ve_ (vc_ pe_int)))) (ve_ (vsub (show Fits _ _ from ⟨yK, yP, yw, inj⟩) (hu9 hr) (vs_ 0 (pv 0)) (ve_ (vc_ pe_int)))) (nomark _))))))))
theorem lam0 (k2 : 2 ≤ k) (yK : Y.K = K) (yP : Y.P = P) (yw : Y.w = w) (inj : ∀ i j, Y.at_ i = Y.at_ j → i = j) {f12 : Addr} {u12 : FuncData} (G12 : Cal P w K mg base Y xc (xrV Y) C k 12 "any_fulfils" f12 u12 ["means", "rows"]) {fa c a : Addr} {s : Shared} {H : Hp} (hlm : ∀ n, Y.lm n = lamOf (XL P w K mg base fa c s H) (lamA (lamE n)) (lamB (lamE n)) (lamSc (lamE n))) : LamOk ⟨Y, fun _ _ _ _ => False, xc, xrV Y, parOf 1 [] [.ref a], 14⟩ (XL P w K mg base fa c s H) k 0 (dCall C 12 (aVal (dTup (lCons (dCon (.int 1)) (lCons (dCon (.int 1)) (lCons (dCon (.int 1)) (lCons (dCon (.int 1)) lNil))))) (aVal (dLst (lCons (dVar 10) lNil)) aNil))) :=
  ⟨_, _, _, hlm 0, LamX.lamS_by rfl, fun _ _ _ _ _ => rfl, fun A outer s' H' E f' c' hr => (vcall G12.ok hr rfl G12.mg G12.kp G12.bd (takes_of rfl rfl rfl rfl) (waval (vtup (vacons (vc_ pe_int) (vacons (vc_ pe_int) (vacons (vc_ pe_int) (vacons (vc_ pe_int) vanil))))) (waval (vlst (vacons (vv_ 10 (pv 10)) vanil)) wanil)))⟩
theorem lam1 (k2 : 2 ≤ k) (yK : Y.K = K) (yP : Y.P = P) (yw : Y.w = w) (inj : ∀ i j, Y.at_ i = Y.at_ j → i = j) {f10 : Addr} {u10 : FuncData} (G10 : Cal P w K mg base Y xc (xrV Y) C k 10 "least_of" f10 u10 ["rows"]) {fa c a : Addr} {s : Shared} {H : Hp} (hlm : ∀ n, Y.lm n = lamOf (XL P w K mg base fa c s H) (lamA (lamE n)) (lamB (lamE n)) (lamSc (lamE n))) : LamOk ⟨Y, fun _ _ _ _ => False, xc, xrV Y, parOf 1 [] [.ref a], 14⟩ (XL P w K mg base fa c s H) k 1 (dCall C 10 (aVal (dLst (lCons (dTup (lCons (dCon (.int 9)) (lCons (dCon (.int 0)) (lCons (dCon (.int 0)) (lCons (dCon (.int 0)) lNil))))) (lCons (dVar 10) lNil))) aNil)) :=
  ⟨_, _, _, hlm 1, LamX.lamS_by rfl, fun _ _ _ _ _ => rfl, fun A outer s' H' E f' c' hr => (vcall G10.ok hr rfl G10.mg G10.kp G10.bd (takes_of rfl rfl rfl rfl) (waval (vlst (vacons (vtup (vacons (vc_ pe_int) (vacons (vc_ pe_int) (vacons (vc_ pe_int) (vacons (vc_ pe_int) vanil))))) (vacons (vv_ 10 (pv 10)) vanil))) wanil))⟩
theorem lam2 (k2 : 2 ≤ k) (yK : Y.K = K) (yP : Y.P = P) (yw : Y.w = w) (inj : ∀ i j, Y.at_ i = Y.at_ j → i = j) {f9 : Addr} {u9 : FuncData} (G9 : Cal P w K mg base Y xc (xrV Y) C k 9 "is_easier" f9 u9 ["one", "other"]) {fa c a : Addr} {s : Shared} {H : Hp} (hlm : ∀ n, Y.lm n = lamOf (XL P w K mg base fa c s H) (lamA (lamE n)) (lamB (lamE n)) (lamSc (lamE n))) : LamOk ⟨Y, fun _ _ _ _ => False, xc, xrV Y, parOf 1 [] [.ref a], 14⟩ (XL P w K mg base fa c s H) k 2 (dCall C 9 (aOwn 10 (aVal (dTup (lCons (dCon (.int 9)) (lCons (dCon (.int 0)) (lCons (dCon (.int 0)) (lCons (dCon (.int 0)) lNil))))) aNil))) :=
  ⟨_, _, _, hlm 2, LamX.lamS_by rfl, fun _ _ _ _ _ => rfl, fun A outer s' H' E f' c' hr => (vcall G9.ok hr rfl G9.mg G9.kp G9.bd (takes_of rfl rfl rfl rfl) (waown 10 (pv 10) (waval (vtup (vacons (vc_ pe_int) (vacons (vc_ pe_int) (vacons (vc_ pe_int) (vacons (vc_ pe_int) vanil))))) wanil)))⟩
theorem lam3 (k2 : 2 ≤ k) (yK : Y.K = K) (yP : Y.P = P) (yw : Y.w = w) (inj : ∀ i j, Y.at_ i = Y.at_ j → i = j) {f8 : Addr} {u8 : FuncData} (G8 : Cal P w K mg base Y xc (xrV Y) C k 8 "joined" f8 u8 ["one", "other"]) {fa c a : Addr} {s : Shared} {H : Hp} (hlm : ∀ n, Y.lm n = lamOf (XL P w K mg base fa c s H) (lamA (lamE n)) (lamB (lamE n)) (lamSc (lamE n))) : LamOk ⟨Y, fun _ _ _ _ => False, xc, xrV Y, parOf 1 [] [.ref a], 14⟩ (XL P w K mg base fa c s H) k 3 (dCall C 8 (aVal (dTup (lCons (dCon (.int 9)) (lCons (dCon (.int 0)) (lCons (dCon (.int 0)) (lCons (dCon (.int 0)) lNil))))) (aOwn 10 aNil))) :=
  ⟨_, _, _, hlm 3, LamX.lamS_by rfl, fun _ _ _ _ _ => rfl, fun A outer s' H' E f' c' hr => (vcall G8.ok hr rfl G8.mg G8.kp G8.bd (takes_of rfl rfl rfl rfl) (waval (vtup (vacons (vc_ pe_int) (vacons (vc_ pe_int) (vacons (vc_ pe_int) (vacons (vc_ pe_int) vanil))))) (waown 10 (pv 10) wanil)))⟩
theorem lam4 (k2 : 2 ≤ k) (yK : Y.K = K) (yP : Y.P = P) (yw : Y.w = w) (inj : ∀ i j, Y.at_ i = Y.at_ j → i = j) {f7 : Addr} {u7 : FuncData} (G7 : Cal P w K mg base Y xc (xrV Y) C k 7 "fulfils" f7 u7 ["means", "need"]) {fa c a : Addr} {s : Shared} {H : Hp} (hlm : ∀ n, Y.lm n = lamOf (XL P w K mg base fa c s H) (lamA (lamE n)) (lamB (lamE n)) (lamSc (lamE n))) : LamOk ⟨Y, fun _ _ _ _ => False, xc, xrV Y, parOf 1 [] [.ref a], 14⟩ (XL P w K mg base fa c s H) k 4 (dCall C 7 (aVal (dTup (lCons (dCon (.int 0)) (lCons (dCon (.int 0)) (lCons (dCon (.int 0)) (lCons (dCon (.int 0)) lNil))))) (aOwn 10 aNil))) :=
  ⟨_, _, _, hlm 4, LamX.lamS_by rfl, fun _ _ _ _ _ => rfl, fun A outer s' H' E f' c' hr => (vcall G7.ok hr rfl G7.mg G7.kp G7.bd (takes_of rfl rfl rfl rfl) (waval (vtup (vacons (vc_ pe_int) (vacons (vc_ pe_int) (vacons (vc_ pe_int) (vacons (vc_ pe_int) vanil))))) (waown 10 (pv 10) wanil)))⟩
theorem lam5 (k2 : 2 ≤ k) (yK : Y.K = K) (yP : Y.P = P) (yw : Y.w = w) (inj : ∀ i j, Y.at_ i = Y.at_ j → i = j) {f7 : Addr} {u7 : FuncData} (G7 : Cal P w K mg base Y xc (xrV Y) C k 7 "fulfils" f7 u7 ["means", "need"]) {fa c a : Addr} {s : Shared} {H : Hp} (hlm : ∀ n, Y.lm n = lamOf (XL P w K mg base fa c s H) (lamA (lamE n)) (lamB (lamE n)) (lamSc (lamE n))) : LamOk ⟨Y, fun _ _ _ _ => False, xc, xrV Y, parOf 1 [] [.ref a], 14⟩ (XL P w K mg base fa c s H) k 5 (dCall C 7 (aOwn 10 (aVal (dTup (lCons (dCon (.int 9)) (lCons (dCon (.int 0)) (lCons (dCon (.int 0)) (lCons (dCon (.int 0)) lNil))))) aNil))) :=
  ⟨_, _, _, hlm 5, LamX.lamS_by rfl, fun _ _ _ _ _ => rfl, fun A outer s' H' E f' c' hr => (vcall G7.ok hr rfl G7.mg G7.kp G7.bd (takes_of rfl rfl rfl rfl) (waown 10 (pv 10) (waval (vtup (vacons (vc_ pe_int) (vacons (vc_ pe_int) (vacons (vc_ pe_int) (vacons (vc_ pe_int) vanil))))) wanil)))⟩
theorem lam6 (k2 : 2 ≤ k) (yK : Y.K = K) (yP : Y.P = P) (yw : Y.w = w) (inj : ∀ i j, Y.at_ i = Y.at_ j → i = j) {f12 : Addr} {u12 : FuncData} (G12 : Cal P w K mg base Y xc (xrV Y) C k 12 "any_fulfils" f12 u12 ["means", "rows"]) {fa c a : Addr} {s : Shared} {H : Hp} (hlm : ∀ n, Y.lm n = lamOf (XL P w K mg base fa c s H) (lamA (lamE n)) (lamB (lamE n)) (lamSc (lamE n))) : LamOk ⟨Y, fun _ _ _ _ => False, xc, xrV Y, parOf 1 [] [.ref a], 14⟩ (XL P w K mg base fa c s H) k 6 (dCall C 12 (aVal (dTup (lCons (dCon (.int 0)) (lCons (dCon (.int 0)) (lCons (dCon (.int 0)) (lCons (dCon (.int 0)) lNil))))) (aOwn 10 aNil))) :=
  ⟨_, _, _, hlm 6, LamX.lamS_by rfl, fun _ _ _ _ _ => rfl, fun A outer s' H' E f' c' hr => (vcall G12.ok hr rfl G12.mg G12.kp G12.bd (takes_of rfl rfl rfl rfl) (waval (vtup (vacons (vc_ pe_int) (vacons (vc_ pe_int) (vacons (vc_ pe_int) (vacons (vc_ pe_int) vanil))))) (waown 10 (pv 10) wanil)))⟩
theorem lam7 (k2 : 2 ≤ k) (yK : Y.K = K) (yP : Y.P = P) (yw : Y.w = w) (inj : ∀ i j, Y.at_ i = Y.at_ j → i = j) {f10 : Addr} {u10 : FuncData} (G10 : Cal P w K mg base Y xc (xrV Y) C k 10 "least_of" f10 u10 ["rows"]) {fa c a : Addr} {s : Shared} {H : Hp} (hlm : ∀ n, Y.lm n = lamOf (XL P w K mg base fa c s H) (lamA (lamE n)) (lamB (lamE n)) (lamSc (lamE n))) : LamOk ⟨Y, fun _ _ _ _ => False, xc, xrV Y, parOf 1 [] [.ref a], 14⟩ (XL P w K mg base fa c s H) k 7 (dCall C 10 (aOwn 10 aNil)) :=
  ⟨_, _, _, hlm 7, LamX.lamS_by rfl, fun _ _ _ _ _ => rfl, fun A outer s' H' E f' c' hr => (vcall G10.ok hr rfl G10.mg G10.kp G10.bd (takes_of rfl rfl rfl rfl) (waown 10 (pv 10) wanil))⟩
theorem scL : FnScope lawN ["script"] (defScope lawS) := ⟨rfl, rfl, rfl, by decide +kernel, rfl, by decide +kernel, by decide +kernel⟩
theorem okLaw (k2 : 2 ≤ k) (yK : Y.K = K) (yP : Y.P = P) (yw : Y.w = w) (inj : ∀ i j, Y.at_ i = Y.at_ j → i = j) {f12 : Addr} {u12 : FuncData} (G12 : Cal P w K mg base Y xc (xrV Y) C k 12 "any_fulfils" f12 u12 ["means", "rows"]) {f10 : Addr} {u10 : FuncData} (G10 : Cal P w K mg base Y xc (xrV Y) C k 10 "least_of" f10 u10 ["rows"]) {f9 : Addr} {u9 : FuncData} (G9 : Cal P w K mg base Y xc (xrV Y) C k 9 "is_easier" f9 u9 ["one", "other"]) {f8 : Addr} {u8 : FuncData} (G8 : Cal P w K mg base Y xc (xrV Y) C k 8 "joined" f8 u8 ["one", "other"]) {f7 : Addr} {u7 : FuncData} (G7 : Cal P w K mg base Y xc (xrV Y) C k 7 "fulfils" f7 u7 ["means", "need"]) {f14 : Addr} {u14 : FuncData} (G14 : Cal P w K mg base Y xc (xrV Y) C k 14 "_law_take" f14 u14 ["draw", "many"]) {f16 : Addr} {u16 : FuncData} (G16 : Cal P w K mg base Y xc (xrV Y) C k 16 "_law_fits" f16 u16 ["means", "need"]) {f17 : Addr} {u17 : FuncData} (G17 : Cal P w K mg base Y xc (xrV Y) C k 17 "_law_four" f17 u17 ["draw"]) {f18 : Addr} {u18 : FuncData} (G18 : Cal P w K mg base Y xc (xrV Y) C k 18 "_law_easier" f18 u18 ["one", "other"]) (z_any : mg "any" = none) (z_list : mg "list" = none) (z_max : mg "max" = none) (z_min : mg "min" = none) (z_range : mg "range" = none) (z_set : mg "set" = none) (z_sorted : mg "sorted" = none) (z_str : mg "str" = none) (z_tuple : mg "tuple" = none) {jBadName : Addr} {vBadName : FuncData} (xBadName : ExcF P w K mg base Y 1 [3] "BadName" (xc 1) jBadName vBadName ["self", "name"]) (eBadName : PySem.W.exmOne K (.ref (xc 1)) (.ref (xc 1)) = some true) (tfBadName : XfC K (xc 1)) (nfBadName_name : PySem.W.findIn K (.ref (xc 1)) "name" = some none) (at_name : Y.at_ 3 = "name") {fa c a Pt : Addr} {s : Shared} {H : Hp} {fd : FuncData} {ns : List Int} {ob : Obj} (F : FunD K "law" "law" (defArgs lawS) (defBody lawS) (defScope lawS) [] [] fa fd) (hcode : fd.code = .ref c) (TB : LamX.TabB base mg c Pt) (hYP : Y.tP = Pt)
    (htq : Y.tq = (XL P w K mg base fa c s H).env.qual ++ "<lambda>") (hlm : ∀ n, Y.lm n = lamOf (XL P w K mg base fa c s H) (lamA (lamE n)) (lamB (lamE n)) (lamSc (lamE n))) (e0 : Env0 P w K mg base callerA [] s H) (hr0 : Room (k + 2) callerA) (hbi : BindsTo s fd ⟨[.ref a], []⟩ [("script", .ref a)])
    (hP : H Pt = some (.tbl #[])) (ha : H a = some (.frz ob (.lst (ns.map V.int)))) (hw : wpR (b19 C (.fz (.lst (ns.map .int)) :: (List.replicate 12 .und ++ [.tb]))) (fun f _ => f = .ret (.fz (.bl true))) fun _ _ _ => False) :
    codeAny (model P w) callerA (.call (.ref fa) ⟨[.ref a], []⟩) (CR (L2.CX P w) [] P w H s (fun v _ => v = .bl true) fun _ _ _ => False) s := by
  refine lawV (k := k + 1) (g := 12) (xr := xrV Y) (xc := xc) F hcode scL rfl (fun x e => by cases e; intro z; rcases z with z | z | z <;> exact absurd z (by decide)) e0 hr0 hbi hYP hP ha hw fun hrL => ?_
  have hr := hrL.mono (Nat.le_succ k)
  have hu64_ := hu64 hr
  have hu9_ := hu9 hr
  have hu65_ := hu65 hr
  subst hYP
  have ML : MkL Y (XL P w K mg base fa c s H) := ⟨⟨c, rfl, TB⟩, htq⟩
  have LMS : ∀ n d, (lms C)[n]? = some d → LamOk ⟨Y, fun _ _ _ _ => False, xc, xrV Y, parOf 1 [] [.ref a], 14⟩ (XL P w K mg base fa c s H) k n d := fun n d h => by
    match n, h with
    | 0, h => cases h; exact lam0 k2 yK yP yw inj G12 hlm
    | 1, h => cases h; exact lam1 k2 yK yP yw inj G10 hlm
    | 2, h => cases h; exact lam2 k2 yK yP yw inj G9 hlm
    | 3, h => cases h; exact lam3 k2 yK yP yw inj G8 hlm
    | 4, h => cases h; exact lam4 k2 yK yP yw inj G7 hlm
    | 5, h => cases h; exact lam5 k2 yK yP yw inj G7 hlm
    | 6, h => cases h; exact lam6 k2 yK yP yw inj G12 hlm
    | 7, h => cases h; exact lam7 k2 yK yP yw inj G10 hlm
    | n + 8, h => simp [lms] at h
  exact (zseq (zset 1 rfl (fun h => ps_set scL.nd rfl (by first | exact .inl rfl | exact .inr rfl) h) (vlst (vacons (vv_ 0 (pv 0)) (vacons (vc_ pe_int) vanil)))) (zseq (zset 2 rfl (fun h => ps_set scL.nd rfl (by first | exact .inl rfl | exact .inr rfl) h) (vlc rfl scL.nd (own := [("turn", 3)]) (blkOk_by (by with_unfolding_all rfl)) rfl (irng1 rfl z_range (ve_ (vbin (ops_add (show Fits _ _ from ⟨yK, yP, yw, inj⟩).1) (ve_ (vc_ pe_int)) (ve_ (vcall G14.ok hr rfl G14.mg G14.kp G14.bd (takes_of rfl rfl rfl rfl) (waown 1 (pv 1) (waval (vc_ pe_int) wanil))))))) (fun _ _ _ _ _ => (gname 3 (kOwn_set (by decide)) (pg_name scL.nd rfl (by first | exact .inl rfl | exact .inr rfl)))) (fun _ _ _ _ _ => vifs0) (fun _ _ _ _ _ => (vcall G17.ok hr rfl G17.mg G17.kp G17.bd takes0 (waown 1 (pv 1) wanil))))) (zseq (zfor (passes_of rfl) rfl (iseq (show Fits _ _ from ⟨yK, yP, yw, inj⟩) (vs_ 2 (pv 2))) (gname 4 (kPar_set rfl) (pg_name scL.nd rfl (by first | exact .inl rfl | exact .inr rfl))) (zone (zfor (passes_of rfl) rfl (iseq (show Fits _ _ from ⟨yK, yP, yw, inj⟩) (vs_ 2 (pv 2))) (gname 5 (kPar_set rfl) (pg_name scL.nd rfl (by first | exact .inl rfl | exact .inr rfl))) (zseq (zif (PW.pt (vorT (vneT (eqOk_plain (show Fits _ _ from ⟨yK, yP, yw, inj⟩) (hu64 hr) he0) (ve_ (vcall G7.ok hr rfl G7.mg G7.kp G7.bd (takes_of rfl rfl rfl rfl) (waown 4 (pv 4) (waown 5 (pv 5) wanil)))) (ve_ (vcall G16.ok hr rfl G16.mg G16.kp G16.bd (takes_of rfl rfl rfl rfl) (waown 4 (pv 4) (waown 5 (pv 5) wanil))))) (vorW (vneT (eqOk_plain (show Fits _ _ from ⟨yK, yP, yw, inj⟩) (hu64 hr) he0) (ve_ (vcall G7.ok hr rfl G7.mg G7.kp G7.bd (takes_of rfl rfl rfl rfl) (waval (vbty (cb_list5 (show Fits _ _ from ⟨yK, yP, yw, inj⟩) rfl) rfl z_list boot_list (vocons (vs_ 4 (pv 4)) vonil)) (waval (vbty (cb_list5 (show Fits _ _ from ⟨yK, yP, yw, inj⟩) rfl) rfl z_list boot_list (vocons (vs_ 5 (pv 5)) vonil)) wanil)))) (ve_ (vcall G16.ok hr rfl G16.mg G16.kp G16.bd (takes_of rfl rfl rfl rfl) (waown 4 (pv 4) (waown 5 (pv 5) wanil)))))))) (zone (zret (vc_ pe_bl))) znil) (zseq (zset 6 rfl (fun h => ps_set scL.nd rfl (by first | exact .inl rfl | exact .inr rfl) h) (vtup (vacons (vblt (cb_min rfl) rfl z_min boot_min (vocons (ve_ (vsub (show Fits _ _ from ⟨yK, yP, yw, inj⟩) (hu9 hr) (vs_ 4 (pv 4)) (ve_ (vc_ pe_int)))) (vocons (ve_ (vsub (show Fits _ _ from ⟨yK, yP, yw, inj⟩) (hu9 hr) (vs_ 5 (pv 5)) (ve_ (vc_ pe_int)))) vonil))) (vacons (vblt (cb_max rfl) rfl z_max boot_max (vocons (ve_ (vsub (show Fits _ _ from ⟨yK, yP, yw, inj⟩) (hu9 hr) (vs_ 4 (pv 4)) (ve_ (vc_ pe_int)))) (vocons (ve_ (vsub (show Fits _ _ from ⟨yK, yP, yw, inj⟩) (hu9 hr) (vs_ 5 (pv 5)) (ve_ (vc_ pe_int)))) vonil))) (vacons (vblt (cb_max rfl) rfl z_max boot_max (vocons (ve_ (vsub (show Fits _ _ from ⟨yK, yP, yw, inj⟩) (hu9 hr) (vs_ 4 (pv 4)) (ve_ (vc_ pe_int)))) (vocons (ve_ (vsub (show Fits _ _ from ⟨yK, yP, yw, inj⟩) (hu9 hr) (vs_ 5 (pv 5)) (ve_ (vc_ pe_int)))) vonil))) (vacons (vblt (cb_max rfl) rfl z_max boot_max (vocons (ve_ (vsub (show Fits _ _ from ⟨yK, yP, yw, inj⟩) (hu9 hr) (vs_ 4 (pv 4)) (ve_ (vc_ pe_int)))) (vocons (ve_ (vsub (show Fits _ _ from ⟨yK, yP, yw, inj⟩) (hu9 hr) (vs_ 5 (pv 5)) (ve_ (vc_ pe_int)))) vonil))) vanil)))))) (zseq (zif (PW.pt (vorT (vneT (eqOk_plain (show Fits _ _ from ⟨yK, yP, yw, inj⟩) (hu64 hr) he0) (ve_ (vbty (cb_tuple (show Fits _ _ from ⟨yK, yP, yw, inj⟩)) rfl z_tuple boot_tuple (vocons (ve_ (vcall G8.ok hr rfl G8.mg G8.kp G8.bd (takes_of rfl rfl rfl rfl) (waown 4 (pv 4) (waown 5 (pv 5) wanil)))) vonil))) (vs_ 6 (pv 6))) (vorW (vneT (eqOk_plain (show Fits _ _ from ⟨yK, yP, yw, inj⟩) (hu64 hr) he0) (ve_ (vcall G9.ok hr rfl G9.mg G9.kp G9.bd (takes_of rfl rfl rfl rfl) (waown 4 (pv 4) (waown 5 (pv 5) wanil)))) (ve_ (vcall G18.ok hr rfl G18.mg G18.kp G18.bd (takes_of rfl rfl rfl rfl) (waown 4 (pv 4) (waown 5 (pv 5) wanil)))))))) (zone (zret (vc_ pe_bl))) znil) (zseq (zset 7 rfl (fun h => ps_set scL.nd rfl (by first | exact .inl rfl | exact .inr rfl) h) (vcall G17.ok hr rfl G17.mg G17.kp G17.bd (takes_of rfl rfl rfl rfl) (waown 1 (pv 1) wanil))) (zseq (zif (vneT (eqOk_plain (show Fits _ _ from ⟨yK, yP, yw, inj⟩) (hu64 hr) he0) (ve_ (vcall G7.ok hr rfl G7.mg G7.kp G7.bd (takes_of rfl rfl rfl rfl) (waown 7 (pv 7) (waown 6 (pv 6) wanil)))) (ve_ (vand (show Fits _ _ from ⟨yK, yP, yw, inj⟩) (vcall G7.ok hr rfl G7.mg G7.kp G7.bd (takes_of rfl rfl rfl rfl) (waown 7 (pv 7) (waown 4 (pv 4) wanil))) (vone (vcall G7.ok hr rfl G7.mg G7.kp G7.bd (takes_of rfl rfl rfl rfl) (waown 7 (pv 7) (waown 5 (pv 5) wanil))))))) (zone (zret (vc_ pe_bl))) znil) (zone (zif (PW.pt (vorT (PW.pt (vandT (pt_tst (trR_plain (show Fits _ _ from ⟨yK, yP, yw, inj⟩) hb0) (ve_ (vcall G9.ok hr rfl G9.mg G9.kp G9.bd (takes_of rfl rfl rfl rfl) (waown 4 (pv 4) (waown 5 (pv 5) wanil))))) (vandT (pt_tst (trR_plain (show Fits _ _ from ⟨yK, yP, yw, inj⟩) hb0) (ve_ (vcall G7.ok hr rfl G7.mg G7.kp G7.bd (takes_of rfl rfl rfl rfl) (waown 7 (pv 7) (waown 4 (pv 4) wanil))))) (vandW (vnotT (d := fun e => .ok true e) (pt_tst (trR_plain (show Fits _ _ from ⟨yK, yP, yw, inj⟩) hb0) (ve_ (vcall G7.ok hr rfl G7.mg G7.kp G7.bd (takes_of rfl rfl rfl rfl) (waown 7 (pv 7) (waown 5 (pv 5) wanil)))))))))) (vorW (vneT (eqOk_plain (show Fits _ _ from ⟨yK, yP, yw, inj⟩) (hu64 hr) he0) (ve_ (vcall G7.ok hr rfl G7.mg G7.kp G7.bd (takes_of rfl rfl rfl rfl) (waown 4 (pv 4) (waown 5 (pv 5) wanil)))) (ve_ (vcall G9.ok hr rfl G9.mg G9.kp G9.bd (takes_of rfl rfl rfl rfl) (waown 4 (pv 4) (waown 5 (pv 5) wanil)))))))) (zone (zret (vc_ pe_bl))) znil)))))))))) (zseq (zsetlc 8 rfl rfl scL.nd rfl rfl (sw_true rfl rfl rfl rfl) (own := [("one", 4)]) (blkOk_by (by with_unfolding_all rfl)) rfl (iseq (show Fits _ _ from ⟨yK, yP, yw, inj⟩) (ve_ (vsset (show Fits _ _ from ⟨yK, yP, yw, inj⟩) rfl (hu64 hr) rfl z_sorted rfl z_set (vs_ 2 (pv 2))))) (fun _ _ _ _ _ => (gname 4 (kOwn_set (by decide)) (pg_name scL.nd rfl (by first | exact .inl rfl | exact .inr rfl)))) (fun _ _ _ _ _ => (vifs1 (vnotT (d := fun e => .ok true e) (pt_tst (trR_plain (show Fits _ _ from ⟨yK, yP, yw, inj⟩) hb0) (ve_ (vblt (cb_any rfl) rfl z_any boot_any (vocons (ve_ (vlc rfl scL.nd (own := [("other", 5)]) (blkOk_by (by with_unfolding_all rfl)) rfl (iseq (show Fits _ _ from ⟨yK, yP, yw, inj⟩) (vs_ 2 (pv 2))) (fun _ _ _ _ _ => (gname 5 (kOwn_set (by decide)) (pg_name scL.nd rfl (by first | exact .inl rfl | exact .inr rfl)))) (fun _ _ _ _ _ => vifs0) (fun _ _ _ _ _ => (vand (show Fits _ _ from ⟨yK, yP, yw, inj⟩) (vneE (eqOk_plain (show Fits _ _ from ⟨yK, yP, yw, inj⟩) (hu64 hr) he0) (vs_ 5 (pv 5)) (vs_ 4 (pv 4))) (vone (vcall G18.ok hr rfl G18.mg G18.kp G18.bd takes0 (waown 4 (pv 4) (waown 5 (pv 5) wanil)))))))) vonil))))))) (fun _ _ _ _ _ => (vv_ 4 (pv 4)))) (zseq (zif (PW.pt (vorT (vneT (eqOk_plain (show Fits _ _ from ⟨yK, yP, yw, inj⟩) (hu64 hr) he0) (ve_ (vbty (cb_list5 (show Fits _ _ from ⟨yK, yP, yw, inj⟩) rfl) rfl z_list boot_list (vocons (ve_ (vcall G10.ok hr rfl G10.mg G10.kp G10.bd (takes_of rfl rfl rfl rfl) (waown 2 (pv 2) wanil))) vonil))) (vs_ 8 (pv 8))) (vorT (vneT (eqOk_plain (show Fits _ _ from ⟨yK, yP, yw, inj⟩) (hu64 hr) he0) (ve_ (vbty (cb_list5 (show Fits _ _ from ⟨yK, yP, yw, inj⟩) rfl) rfl z_list boot_list (vocons (ve_ (vcall G10.ok hr rfl G10.mg G10.kp G10.bd (takes_of rfl rfl rfl rfl) (waval (vlst vanil) wanil))) vonil))) (ve_ (vlst vanil))) (vorW (vneT (eqOk_plain (show Fits _ _ from ⟨yK, yP, yw, inj⟩) (hu64 hr) he0) (ve_ (vbty (cb_list5 (show Fits _ _ from ⟨yK, yP, yw, inj⟩) rfl) rfl z_list boot_list (vocons (ve_ (vcall G10.ok hr rfl G10.mg G10.kp G10.bd (takes_of rfl rfl rfl rfl) (waval (vbin (ops_add (show Fits _ _ from ⟨yK, yP, yw, inj⟩).1) (vs_ 8 (pv 8)) (vs_ 8 (pv 8))) wanil))) vonil))) (vs_ 8 (pv 8))))))) (zone (zret (vc_ pe_bl))) znil) (zseq (zfor (passes_of rfl) rfl (irng1 rfl z_range (ve_ (vc_ pe_int))) (gname 3 (kPar_set rfl) (pg_name scL.nd rfl (by first | exact .inl rfl | exact .inr rfl))) (zseq (zset 7 rfl (fun h => ps_set scL.nd rfl (by first | exact .inl rfl | exact .inr rfl) h) (vcall G17.ok hr rfl G17.mg G17.kp G17.bd (takes_of rfl rfl rfl rfl) (waown 1 (pv 1) wanil))) (zone (zif (PW.pt (vorT (vneT (eqOk_plain (show Fits _ _ from ⟨yK, yP, yw, inj⟩) (hu64 hr) he0) (ve_ (vcall G12.ok hr rfl G12.mg G12.kp G12.bd (takes_of rfl rfl rfl rfl) (waown 7 (pv 7) (waown 2 (pv 2) wanil)))) (ve_ (vblt (cb_any rfl) rfl z_any boot_any (vocons (ve_ (vlc rfl scL.nd (own := [("need", 9)]) (blkOk_by (by with_unfolding_all rfl)) rfl (iseq (show Fits _ _ from ⟨yK, yP, yw, inj⟩) (vs_ 2 (pv 2))) (fun _ _ _ _ _ => (gname 9 (kOwn_set (by decide)) (pg_name scL.nd rfl (by first | exact .inl rfl | exact .inr rfl)))) (fun _ _ _ _ _ => vifs0) (fun _ _ _ _ _ => (vcall G16.ok hr rfl G16.mg G16.kp G16.bd takes0 (waown 7 (pv 7) (waown 9 (pv 9) wanil)))))) vonil)))) (vorT (vneT (eqOk_plain (show Fits _ _ from ⟨yK, yP, yw, inj⟩) (hu64 hr) he0) (ve_ (vcall G12.ok hr rfl G12.mg G12.kp G12.bd (takes_of rfl rfl rfl rfl) (waown 7 (pv 7) (waown 8 (pv 8) wanil)))) (ve_ (vcall G12.ok hr rfl G12.mg G12.kp G12.bd (takes_of rfl rfl rfl rfl) (waown 7 (pv 7) (waown 2 (pv 2) wanil))))) (vorW (pt_tst (trR_plain (show Fits _ _ from ⟨yK, yP, yw, inj⟩) hb0) (ve_ (vcall G12.ok hr rfl G12.mg G12.kp G12.bd (takes_of rfl rfl rfl rfl) (waown 7 (pv 7) (waval (vlst vanil) wanil))))))))) (zone (zret (vc_ pe_bl))) znil)))) (zseq (zfor (passes_of rfl) rfl (iseq (show Fits _ _ from ⟨yK, yP, yw, inj⟩) (ve_ (vtup (vacons (vc_ pe_non) (vacons (vc_ pe_int) (vacons (vc_ pe_str) (vacons (vtup (vacons (vc_ pe_int) (vacons (vc_ pe_int) (vacons (vc_ pe_int) vanil)))) (vacons (vtup (vacons (vc_ pe_int) (vacons (vc_ pe_int) (vacons (vc_ pe_int) (vacons (vc_ pe_int) (vacons (vc_ pe_int) vanil)))))) (vacons (vtup (vacons (vc_ pe_int) (vacons (vc_ pe_int) (vacons (vc_ pe_int) (vacons (vc_ pe_int) vanil))))) (vacons (vtup (vacons (vc_ pe_int) (vacons (vc_ pe_int) (vacons (vneg (ve_ (vc_ pe_int))) (vacons (vc_ pe_int) vanil))))) (vacons (vtup (vacons (vc_ pe_bl) (vacons (vc_ pe_int) (vacons (vc_ pe_int) (vacons (vc_ pe_int) vanil))))) (vacons (vtup (vacons (vc_ pe_int) (vacons (vc_ pe_str) (vacons (vc_ pe_int) (vacons (vc_ pe_int) vanil))))) vanil)))))))))))) (gname 10 (kPar_set rfl) (pg_name scL.nd rfl (by first | exact .inl rfl | exact .inr rfl))) (zone (zfor (passes_of rfl) rfl (iseq (show Fits _ _ from ⟨yK, yP, yw, inj⟩) (ve_ (vtup (vacons (vlam 13 5 ML (hlm 5) rfl (LamX.lamS_by rfl)) (vacons (vlam 13 4 ML (hlm 4) rfl (LamX.lamS_by rfl)) (vacons (vlam 13 3 ML (hlm 3) rfl (LamX.lamS_by rfl)) (vacons (vlam 13 2 ML (hlm 2) rfl (LamX.lamS_by rfl)) (vacons (vlam 13 1 ML (hlm 1) rfl (LamX.lamS_by rfl)) (vacons (vlam 13 0 ML (hlm 0) rfl (LamX.lamS_by rfl)) vanil))))))))) (gname 11 (kPar_set rfl) (pg_name scL.nd rfl (by first | exact .inl rfl | exact .inr rfl))) (zone (ztry 1 12 rfl rfl scL.nd rfl rfl ⟨rfl, by decide, .inl xBadName.mg⟩ eBadName rfl (show 12 < 14 from by decide) (fun W pn xe tkW psW => (zseq (zexpr (vlamcall 11 LMS tkW hrL rfl (by first | exact Or.inl rfl | exact Or.inr (Or.inl rfl)))) (zone (zret (vc_ pe_bl))))) (fun a oe cls d pn fs hz hv => zxif (vxneT (eqOk_plain (show Fits _ _ from ⟨yK, yP, yw, inj⟩) hu64_ he0) (vstrX (show Fits _ _ from ⟨yK, yP, yw, inj⟩) hu64_ (fun _ => rfl) rfl z_str (vxf 3 rfl tfBadName nfBadName_name hz hv at_name (pv 12))) (ve_ (vstr (show Fits _ _ from ⟨yK, yP, yw, inj⟩) hu64_ (fun _ => rfl) rfl z_str (vs_ 10 (pv 10))))) (zone (zret (vc_ pe_bl))))))))) (zseq (zfor (passes_of rfl) rfl (iseq (show Fits _ _ from ⟨yK, yP, yw, inj⟩) (ve_ (vtup (vacons (vc_ pe_non) (vacons (vc_ pe_int) (vacons (vc_ pe_str) vanil)))))) (gname 10 (kPar_set rfl) (pg_name scL.nd rfl (by first | exact .inl rfl | exact .inr rfl))) (zone (zfor (passes_of rfl) rfl (iseq (show Fits _ _ from ⟨yK, yP, yw, inj⟩) (ve_ (vtup (vacons (vlam 13 7 ML (hlm 7) rfl (LamX.lamS_by rfl)) (vacons (vlam 13 6 ML (hlm 6) rfl (LamX.lamS_by rfl)) vanil))))) (gname 11 (kPar_set rfl) (pg_name scL.nd rfl (by first | exact .inl rfl | exact .inr rfl))) (zone (ztry 1 12 rfl rfl scL.nd rfl rfl ⟨rfl, by decide, .inl xBadName.mg⟩ eBadName rfl (show 12 < 14 from by decide) (fun W pn xe tkW psW => (zseq (zexpr (vlamcall 11 LMS tkW hrL rfl (by first | exact Or.inl rfl | exact Or.inr (Or.inl rfl)))) (zone (zret (vc_ pe_bl))))) (fun a oe cls d pn fs hz hv => zxif (vxneT (eqOk_plain (show Fits _ _ from ⟨yK, yP, yw, inj⟩) hu64_ he0) (vxf 3 rfl tfBadName nfBadName_name hz hv at_name (pv 12)) (vs_ 10 (pv 10))) (zone (zret (vc_ pe_bl))))))))) (zone (zret (vc_ pe_bl)))))))))))
end
end LW

end
section
set_option maxRecDepth 1000000
set_option maxHeartbeats 0
namespace LW
open PySem PySem.Spec PyProof.Rows L2 StX Vy
def fn : List He.DefD := [⟨("is_number", none), "is_number", "is_number", defArgs (top 4), defBody (top 4), defScope (top 4), [], []⟩,
  ⟨("is_below", none), "is_below", "is_below", defArgs (top 5), defBody (top 5), defScope (top 5), [], []⟩,
  ⟨("is_row", none), "is_row", "is_row", defArgs (top 6), defBody (top 6), defScope (top 6), [], []⟩,
  ⟨("is_four", none), "is_four", "is_four", defArgs (top 9), defBody (top 9), defScope (top 9), [], []⟩,
  ⟨("check_four", none), "check_four", "check_four", defArgs (top 10), defBody (top 10), defScope (top 10), [], []⟩,
  ⟨("meets", none), "meets", "meets", defArgs (top 11), defBody (top 11), defScope (top 11), [], []⟩,
  ⟨("both_of", none), "both_of", "both_of", defArgs (top 12), defBody (top 12), defScope (top 12), [], []⟩,
  ⟨("fulfils", none), "fulfils", "fulfils", defArgs (top 13), defBody (top 13), defScope (top 13), [], []⟩,
  ⟨("joined", none), "joined", "joined", defArgs (top 14), defBody (top 14), defScope (top 14), [], []⟩,
  ⟨("is_easier", none), "is_easier", "is_easier", defArgs (top 15), defBody (top 15), defScope (top 15), [], []⟩,
  ⟨("least_of", none), "least_of", "least_of", defArgs (top 16), defBody (top 16), defScope (top 16), [], []⟩,
  ⟨("least_among", none), "least_among", "least_among", defArgs (top 17), defBody (top 17), defScope (top 17), [], []⟩,
  ⟨("any_fulfils", none), "any_fulfils", "any_fulfils", defArgs (top 18), defBody (top 18), defScope (top 18), [], []⟩,
  ⟨("_law_number", none), "_law_number", "_law_number", defArgs (top 20), defBody (top 20), defScope (top 20), [], []⟩,
  ⟨("_law_take", none), "_law_take", "_law_take", defArgs (top 21), defBody (top 21), defScope (top 21), [], []⟩,
  ⟨("_law_pick", none), "_law_pick", "_law_pick", defArgs (top 22), defBody (top 22), defScope (top 22), [], []⟩,
  ⟨("_law_fits", none), "_law_fits", "_law_fits", defArgs (top 23), defBody (top 23), defScope (top 23), [], []⟩,
  ⟨("_law_four", none), "_law_four", "_law_four", defArgs (top 24), defBody (top 24), defScope (top 24), [], []⟩,
  ⟨("_law_easier", none), "_law_easier", "_law_easier", defArgs (top 25), defBody (top 25), defScope (top 25), [], []⟩,
  ⟨("law", none), "law", "law", defArgs (top 26), defBody (top 26), defScope (top 26), [], []⟩,
  ⟨("BadName", some "__init__"), "__init__", "BadName.__init__", defArgs (inClass (top 2) 0), defBody (inClass (top 2) 0), defScope (inClass (top 2) 0), [], []⟩]
def fa : List He.Fa := [.glo "is_number",
  .glo "is_below",
  .glo "is_row",
  .glo "is_four",
  .glo "check_four",
  .glo "meets",
  .glo "both_of",
  .glo "fulfils",
  .glo "joined",
  .glo "is_easier",
  .glo "least_of",
  .glo "least_among",
  .glo "any_fulfils",
  .glo "_law_number",
  .glo "_law_take",
  .glo "_law_pick",
  .glo "_law_fits",
  .glo "_law_four",
  .glo "_law_easier",
  .glo "law",
  .free "ValueError",
  .free "all",
  .free "any",
  .free "bool",
  .free "int",
  .free "isinstance",
  .free "len",
  .free "list",
  .free "max",
  .free "min",
  .free "range",
  .free "set",
  .free "sorted",
  .free "str",
  .free "tuple",
  .int "MOST" 9,
  .glo "BadName",
  .meth "BadName" "__init__",
  .exm "BadName" "BadName" true,
  .noat "BadName" "name"]
def ex (K : PySem.W.Frag) : Bool := oexB K (He.ga K "BadName") && xfB K (He.ga K "BadName")
def lo : List PySem.Str := ["HouseError", "BadName", "is_number", "is_below", "is_row", "MOST", "is_four", "check_four", "meets", "both_of", "fulfils", "joined", "is_easier", "least_of", "least_among", "any_fulfils", "_law_number", "_law_take", "_law_pick", "_law_fits", "_law_four", "_law_easier"]
abbrev R : PySem.W.OpenRow := PySem.W.OpenLaw.row PySem.Challenge.rw_stepfree_k01_whole_needs
abbrev hk : PySem.W.Hook := hookT 5 ex fa fn
def ob (s : PySem.W.SharedT) : He.AlD := obsT 5 ex fa fn (HandSHeadRun.getT s)
theorem ob_eq (s : PySem.W.SharedT) : ob s = hk.obs s.abs := obsT_eq (HandSHeadRun.getT_eq s)
theorem run (w : World) : HandSHeadRun.RunEq R (PySem.W.view R.prog [26]) hk ob 2000 lo w := by
  intro os
  kernel_rfl
def ats : List Str := ["__eq__", "__bool__", "__init__", "name"]
theorem ats_inj : ∀ i j, atOf ats i = atOf ats j → i = j := atOf_inj (by decide +kernel)
def Fs : List FD := [d0, d1, d2, d3, d4, d5, d6, d7, d8, d9, d10, d11, d12, d13, d14, d15, d16, d17, d18, d19]
theorem take_real {k : Nat} {ss : List SV} {Q : SV × List SV → Vy.Env → Prop} {E : Nat → List (Nat × IV) → Vy.Env → Prop} (w0 : wpR (callN Fs 14 (k + 1) 14 ss) Q E) :
    wpR (match Nat.beq ss.length d14.np && plainAt d14.rp 0 ss with
      | true => ended d14 ss (d14.body (callN Fs 14 k) (ss ++ List.replicate (d14.ns - d14.np) .und))
      | false => .bad 38) Q E := take_gen (F := Fs) (t := 14) (f := 13) rfl rfl w0
def xcs (K : PySem.W.Frag) : Nat → Addr
  | 1 => He.ga K "BadName"
  | _ => 0
theorem init_1 {P : Program} {w : World} {K : PySem.W.Frag} {mg : Str → Option Value} {base : Heap} {fa C : Addr} {fd : FuncData} (F : FunD K "__init__" "BadName.__init__" (defArgs (inClass (top 2) 0)) (defBody (inClass (top 2) 0)) (defScope (inClass (top 2) 0)) [] [] fa fd) (T : OexC K C) (hno : PySem.W.findIn K (.ref C) "name" = some none) :
    FnOk P w K mg base (L2.CX P w) 1 fa fd ["self", "name"] (spI C ["name"]) :=
  init1 (x0 := "self") (x1 := "name") F ⟨rfl, rfl, rfl, by decide +kernel, rfl, by decide +kernel, by decide +kernel⟩ T hno rfl (fun {X} h1 h2 => pe_var (i := 0) (by rw [h2]; rfl) (by rw [h1]; exact .inl rfl) (by decide) (by decide)) fun {X} h1 h2 => pe_var (i := 1) (by rw [h2]; rfl) (by rw [h1]; exact .inl rfl) (by decide) (by decide)
section
variable {P : Program} {w : World} {K : PySem.W.Frag} {mg : Str → Option Value} {base : Heap} {Y : Names} {xc : Nat → Addr}
structure Base (P : Program) (w : World) (K : PySem.W.Frag) (mg : Str → Option Value) (base : Heap) (Y : Names) (xc : Nat → Addr) : Prop where
  yK : Y.K = K
  yP : Y.P = P
  yw : Y.w = w
  inj : ∀ i j, Y.at_ i = Y.at_ j → i = j
  z_all : mg "all" = none
  z_any : mg "any" = none
  z_bool : mg "bool" = none
  z_int : mg "int" = none
  z_isinstance : mg "isinstance" = none
  z_len : mg "len" = none
  z_list : mg "list" = none
  z_max : mg "max" = none
  z_min : mg "min" = none
  z_range : mg "range" = none
  z_set : mg "set" = none
  z_sorted : mg "sorted" = none
  z_str : mg "str" = none
  z_tuple : mg "tuple" = none
  hI : ∀ {X : Cx}, X.K = K → InsOk X Y
  i_MOST : ∃ wv, mg "MOST" = some wv ∧ RelV (.int 9) wv
  xBadName : ∃ j v, ExcF P w K mg base Y 1 [3] "BadName" (xc 1) j v ["self", "name"]
  F0 : ∃ f u, FunD K "is_number" "is_number" (defArgs (top 4)) (defBody (top 4)) (defScope (top 4)) [] [] f u ∧ mg "is_number" = some (.ref f)
  F1 : ∃ f u, FunD K "is_below" "is_below" (defArgs (top 5)) (defBody (top 5)) (defScope (top 5)) [] [] f u ∧ mg "is_below" = some (.ref f)
  F2 : ∃ f u, FunD K "is_row" "is_row" (defArgs (top 6)) (defBody (top 6)) (defScope (top 6)) [] [] f u ∧ mg "is_row" = some (.ref f)
  F3 : ∃ f u, FunD K "is_four" "is_four" (defArgs (top 9)) (defBody (top 9)) (defScope (top 9)) [] [] f u ∧ mg "is_four" = some (.ref f)
  F4 : ∃ f u, FunD K "check_four" "check_four" (defArgs (top 10)) (defBody (top 10)) (defScope (top 10)) [] [] f u ∧ mg "check_four" = some (.ref f)
  F5 : ∃ f u, FunD K "meets" "meets" (defArgs (top 11)) (defBody (top 11)) (defScope (top 11)) [] [] f u ∧ mg "meets" = some (.ref f)
  F6 : ∃ f u, FunD K "both_of" "both_of" (defArgs (top 12)) (defBody (top 12)) (defScope (top 12)) [] [] f u ∧ mg "both_of" = some (.ref f)
  F7 : ∃ f u, FunD K "fulfils" "fulfils" (defArgs (top 13)) (defBody (top 13)) (defScope (top 13)) [] [] f u ∧ mg "fulfils" = some (.ref f)
  F8 : ∃ f u, FunD K "joined" "joined" (defArgs (top 14)) (defBody (top 14)) (defScope (top 14)) [] [] f u ∧ mg "joined" = some (.ref f)
  F9 : ∃ f u, FunD K "is_easier" "is_easier" (defArgs (top 15)) (defBody (top 15)) (defScope (top 15)) [] [] f u ∧ mg "is_easier" = some (.ref f)
  F10 : ∃ f u, FunD K "least_of" "least_of" (defArgs (top 16)) (defBody (top 16)) (defScope (top 16)) [] [] f u ∧ mg "least_of" = some (.ref f)
  F11 : ∃ f u, FunD K "least_among" "least_among" (defArgs (top 17)) (defBody (top 17)) (defScope (top 17)) [] [] f u ∧ mg "least_among" = some (.ref f)
  F12 : ∃ f u, FunD K "any_fulfils" "any_fulfils" (defArgs (top 18)) (defBody (top 18)) (defScope (top 18)) [] [] f u ∧ mg "any_fulfils" = some (.ref f)
  F13 : ∃ f u, FunD K "_law_number" "_law_number" (defArgs (top 20)) (defBody (top 20)) (defScope (top 20)) [] [] f u ∧ mg "_law_number" = some (.ref f)
  F14 : ∃ f u, FunD K "_law_take" "_law_take" (defArgs (top 21)) (defBody (top 21)) (defScope (top 21)) [] [] f u ∧ mg "_law_take" = some (.ref f)
  F15 : ∃ f u, FunD K "_law_pick" "_law_pick" (defArgs (top 22)) (defBody (top 22)) (defScope (top 22)) [] [] f u ∧ mg "_law_pick" = some (.ref f)
  F16 : ∃ f u, FunD K "_law_fits" "_law_fits" (defArgs (top 23)) (defBody (top 23)) (defScope (top 23)) [] [] f u ∧ mg "_law_fits" = some (.ref f)
  F17 : ∃ f u, FunD K "_law_four" "_law_four" (defArgs (top 24)) (defBody (top 24)) (defScope (top 24)) [] [] f u ∧ mg "_law_four" = some (.ref f)
  F18 : ∃ f u, FunD K "_law_easier" "_law_easier" (defArgs (top 25)) (defBody (top 25)) (defScope (top 25)) [] [] f u ∧ mg "_law_easier" = some (.ref f)
structure Cals (P : Program) (w : World) (K : PySem.W.Frag) (mg : Str → Option Value) (base : Heap) (Y : Names) (xc : Nat → Addr) (k : Nat) : Prop where
  G0 : ∃ f u, Cal P w K mg base Y xc (xrV Y) (callN Fs 14 k) (k + 2) 0 "is_number" f u ["thing"]
  G1 : ∃ f u, Cal P w K mg base Y xc (xrV Y) (callN Fs 14 k) (k + 2) 1 "is_below" f u ["thing", "bound"]
  G2 : ∃ f u, Cal P w K mg base Y xc (xrV Y) (callN Fs 14 k) (k + 2) 2 "is_row" f u ["thing"]
  G3 : ∃ f u, Cal P w K mg base Y xc (xrV Y) (callN Fs 14 k) (k + 2) 3 "is_four" f u ["thing"]
  G4 : ∃ f u, Cal P w K mg base Y xc (xrV Y) (callN Fs 14 k) (k + 2) 4 "check_four" f u ["thing"]
  G5 : ∃ f u, Cal P w K mg base Y xc (xrV Y) (callN Fs 14 k) (k + 2) 5 "meets" f u ["means", "need"]
  G6 : ∃ f u, Cal P w K mg base Y xc (xrV Y) (callN Fs 14 k) (k + 2) 6 "both_of" f u ["one", "other"]
  G7 : ∃ f u, Cal P w K mg base Y xc (xrV Y) (callN Fs 14 k) (k + 2) 7 "fulfils" f u ["means", "need"]
  G8 : ∃ f u, Cal P w K mg base Y xc (xrV Y) (callN Fs 14 k) (k + 2) 8 "joined" f u ["one", "other"]
  G9 : ∃ f u, Cal P w K mg base Y xc (xrV Y) (callN Fs 14 k) (k + 2) 9 "is_easier" f u ["one", "other"]
  G10 : ∃ f u, Cal P w K mg base Y xc (xrV Y) (callN Fs 14 k) (k + 2) 10 "least_of" f u ["rows"]
  G11 : ∃ f u, Cal P w K mg base Y xc (xrV Y) (callN Fs 14 k) (k + 2) 11 "least_among" f u ["rows"]
  G12 : ∃ f u, Cal P w K mg base Y xc (xrV Y) (callN Fs 14 k) (k + 2) 12 "any_fulfils" f u ["means", "rows"]
  G13 : ∃ f u, Cal P w K mg base Y xc (xrV Y) (callN Fs 14 k) (k + 2) 13 "_law_number" f u ["script", "index"]
  G14 : ∃ f u, Cal P w K mg base Y xc (xrV Y) (callN Fs 14 k) (k + 2) 14 "_law_take" f u ["draw", "many"]
  G15 : ∃ f u, Cal P w K mg base Y xc (xrV Y) (callN Fs 14 k) (k + 2) 15 "_law_pick" f u ["draw", "things"]
  G16 : ∃ f u, Cal P w K mg base Y xc (xrV Y) (callN Fs 14 k) (k + 2) 16 "_law_fits" f u ["means", "need"]
  G17 : ∃ f u, Cal P w K mg base Y xc (xrV Y) (callN Fs 14 k) (k + 2) 17 "_law_four" f u ["draw"]
  G18 : ∃ f u, Cal P w K mg base Y xc (xrV Y) (callN Fs 14 k) (k + 2) 18 "_law_easier" f u ["one", "other"]
theorem cals0 (B : Base P w K mg base Y xc) : Cals P w K mg base Y xc 0 where
  G0 := by
    obtain ⟨f, u, F, m⟩ := B.F0
    exact ⟨f, u, okVoid, m, F.kp, FunD.bindsN (ps := ["thing"]) F fun _ _ _ _ _ _ us hl => match us, hl with | [_], _ => rfl⟩
  G1 := by
    obtain ⟨f, u, F, m⟩ := B.F1
    exact ⟨f, u, okVoid, m, F.kp, FunD.bindsN (ps := ["thing", "bound"]) F fun _ _ _ _ _ _ us hl => match us, hl with | [_, _], _ => rfl⟩
  G2 := by
    obtain ⟨f, u, F, m⟩ := B.F2
    exact ⟨f, u, okVoid, m, F.kp, FunD.bindsN (ps := ["thing"]) F fun _ _ _ _ _ _ us hl => match us, hl with | [_], _ => rfl⟩
  G3 := by
    obtain ⟨f, u, F, m⟩ := B.F3
    exact ⟨f, u, okVoid, m, F.kp, FunD.bindsN (ps := ["thing"]) F fun _ _ _ _ _ _ us hl => match us, hl with | [_], _ => rfl⟩
  G4 := by
    obtain ⟨f, u, F, m⟩ := B.F4
    exact ⟨f, u, okVoid, m, F.kp, FunD.bindsN (ps := ["thing"]) F fun _ _ _ _ _ _ us hl => match us, hl with | [_], _ => rfl⟩
  G5 := by
    obtain ⟨f, u, F, m⟩ := B.F5
    exact ⟨f, u, okVoid, m, F.kp, FunD.bindsN (ps := ["means", "need"]) F fun _ _ _ _ _ _ us hl => match us, hl with | [_, _], _ => rfl⟩
  G6 := by
    obtain ⟨f, u, F, m⟩ := B.F6
    exact ⟨f, u, okVoid, m, F.kp, FunD.bindsN (ps := ["one", "other"]) F fun _ _ _ _ _ _ us hl => match us, hl with | [_, _], _ => rfl⟩
  G7 := by
    obtain ⟨f, u, F, m⟩ := B.F7
    exact ⟨f, u, okVoid, m, F.kp, FunD.bindsN (ps := ["means", "need"]) F fun _ _ _ _ _ _ us hl => match us, hl with | [_, _], _ => rfl⟩
  G8 := by
    obtain ⟨f, u, F, m⟩ := B.F8
    exact ⟨f, u, okVoid, m, F.kp, FunD.bindsN (ps := ["one", "other"]) F fun _ _ _ _ _ _ us hl => match us, hl with | [_, _], _ => rfl⟩
  G9 := by
    obtain ⟨f, u, F, m⟩ := B.F9
    exact ⟨f, u, okVoid, m, F.kp, FunD.bindsN (ps := ["one", "other"]) F fun _ _ _ _ _ _ us hl => match us, hl with | [_, _], _ => rfl⟩
  G10 := by
    obtain ⟨f, u, F, m⟩ := B.F10
    exact ⟨f, u, okVoid, m, F.kp, FunD.bindsN (ps := ["rows"]) F fun _ _ _ _ _ _ us hl => match us, hl with | [_], _ => rfl⟩
  G11 := by
    obtain ⟨f, u, F, m⟩ := B.F11
    exact ⟨f, u, okVoid, m, F.kp, FunD.bindsN (ps := ["rows"]) F fun _ _ _ _ _ _ us hl => match us, hl with | [_], _ => rfl⟩
  G12 := by
    obtain ⟨f, u, F, m⟩ := B.F12
    exact ⟨f, u, okVoid, m, F.kp, FunD.bindsN (ps := ["means", "rows"]) F fun _ _ _ _ _ _ us hl => match us, hl with | [_, _], _ => rfl⟩
  G13 := by
    obtain ⟨f, u, F, m⟩ := B.F13
    exact ⟨f, u, okVoid, m, F.kp, FunD.bindsN (ps := ["script", "index"]) F fun _ _ _ _ _ _ us hl => match us, hl with | [_, _], _ => rfl⟩
  G14 := by
    obtain ⟨f, u, F, m⟩ := B.F14
    exact ⟨f, u, okVoid, m, F.kp, FunD.bindsN (ps := ["draw", "many"]) F fun _ _ _ _ _ _ us hl => match us, hl with | [_, _], _ => rfl⟩
  G15 := by
    obtain ⟨f, u, F, m⟩ := B.F15
    exact ⟨f, u, okVoid, m, F.kp, FunD.bindsN (ps := ["draw", "things"]) F fun _ _ _ _ _ _ us hl => match us, hl with | [_, _], _ => rfl⟩
  G16 := by
    obtain ⟨f, u, F, m⟩ := B.F16
    exact ⟨f, u, okVoid, m, F.kp, FunD.bindsN (ps := ["means", "need"]) F fun _ _ _ _ _ _ us hl => match us, hl with | [_, _], _ => rfl⟩
  G17 := by
    obtain ⟨f, u, F, m⟩ := B.F17
    exact ⟨f, u, okVoid, m, F.kp, FunD.bindsN (ps := ["draw"]) F fun _ _ _ _ _ _ us hl => match us, hl with | [_], _ => rfl⟩
  G18 := by
    obtain ⟨f, u, F, m⟩ := B.F18
    exact ⟨f, u, okVoid, m, F.kp, FunD.bindsN (ps := ["one", "other"]) F fun _ _ _ _ _ _ us hl => match us, hl with | [_, _], _ => rfl⟩
theorem calsS {k : Nat} (B : Base P w K mg base Y xc) (G : Cals P w K mg base Y xc k) : Cals P w K mg base Y xc (k + 1) where
  G0 := by
    obtain ⟨f, u, F, m⟩ := B.F0
    exact ⟨f, u, ok0 (C := callN Fs 14 k) (Cn := callN Fs 14 (k + 1)) (k := k + 2) (by omega) B.yK B.yP B.yw B.inj B.z_bool B.z_int B.z_isinstance B.hI F fun ss => rfl, m, F.kp, FunD.bindsN (ps := ["thing"]) F fun _ _ _ _ _ _ us hl => match us, hl with | [_], _ => rfl⟩
  G1 := by
    obtain ⟨f, u, F, m⟩ := B.F1
    obtain ⟨_, _, G0⟩ := G.G0
    exact ⟨f, u, ok1 (C := callN Fs 14 k) (Cn := callN Fs 14 (k + 1)) (k := k + 2) (by omega) B.yK B.yP B.yw B.inj G0 F fun ss => rfl, m, F.kp, FunD.bindsN (ps := ["thing", "bound"]) F fun _ _ _ _ _ _ us hl => match us, hl with | [_, _], _ => rfl⟩
  G2 := by
    obtain ⟨f, u, F, m⟩ := B.F2
    exact ⟨f, u, ok2 (C := callN Fs 14 k) (Cn := callN Fs 14 (k + 1)) (k := k + 2) (by omega) B.yK B.yP B.yw B.inj B.z_isinstance B.z_list B.z_tuple B.hI F fun ss => rfl, m, F.kp, FunD.bindsN (ps := ["thing"]) F fun _ _ _ _ _ _ us hl => match us, hl with | [_], _ => rfl⟩
  G3 := by
    obtain ⟨f, u, F, m⟩ := B.F3
    obtain ⟨_, _, G1⟩ := G.G1
    obtain ⟨_, _, G2⟩ := G.G2
    obtain ⟨_, i_MOST⟩ := B.i_MOST
    exact ⟨f, u, ok3 (C := callN Fs 14 k) (Cn := callN Fs 14 (k + 1)) (k := k + 2) (by omega) B.yK B.yP B.yw B.inj G1 G2 B.z_all B.z_len i_MOST F fun ss => rfl, m, F.kp, FunD.bindsN (ps := ["thing"]) F fun _ _ _ _ _ _ us hl => match us, hl with | [_], _ => rfl⟩
  G4 := by
    obtain ⟨f, u, F, m⟩ := B.F4
    obtain ⟨_, _, G3⟩ := G.G3
    obtain ⟨_, _, xBadName⟩ := B.xBadName
    exact ⟨f, u, ok4 (C := callN Fs 14 k) (Cn := callN Fs 14 (k + 1)) (k := k + 2) (by omega) B.yK B.yP B.yw B.inj G3 xBadName F fun ss => rfl, m, F.kp, FunD.bindsN (ps := ["thing"]) F fun _ _ _ _ _ _ us hl => match us, hl with | [_], _ => rfl⟩
  G5 := by
    obtain ⟨f, u, F, m⟩ := B.F5
    exact ⟨f, u, ok5 (C := callN Fs 14 k) (Cn := callN Fs 14 (k + 1)) (k := k + 2) (by omega) B.yK B.yP B.yw B.inj F fun ss => rfl, m, F.kp, FunD.bindsN (ps := ["means", "need"]) F fun _ _ _ _ _ _ us hl => match us, hl with | [_, _], _ => rfl⟩
  G6 := by
    obtain ⟨f, u, F, m⟩ := B.F6
    exact ⟨f, u, ok6 (C := callN Fs 14 k) (Cn := callN Fs 14 (k + 1)) (k := k + 2) (by omega) B.yK B.yP B.yw B.inj B.z_max B.z_min F fun ss => rfl, m, F.kp, FunD.bindsN (ps := ["one", "other"]) F fun _ _ _ _ _ _ us hl => match us, hl with | [_, _], _ => rfl⟩
  G7 := by
    obtain ⟨f, u, F, m⟩ := B.F7
    obtain ⟨_, _, G4⟩ := G.G4
    obtain ⟨_, _, G5⟩ := G.G5
    exact ⟨f, u, ok7 (C := callN Fs 14 k) (Cn := callN Fs 14 (k + 1)) (k := k + 2) (by omega) B.yK B.yP B.yw B.inj G4 G5 F fun ss => rfl, m, F.kp, FunD.bindsN (ps := ["means", "need"]) F fun _ _ _ _ _ _ us hl => match us, hl with | [_, _], _ => rfl⟩
  G8 := by
    obtain ⟨f, u, F, m⟩ := B.F8
    obtain ⟨_, _, G4⟩ := G.G4
    obtain ⟨_, _, G6⟩ := G.G6
    exact ⟨f, u, ok8 (C := callN Fs 14 k) (Cn := callN Fs 14 (k + 1)) (k := k + 2) (by omega) B.yK B.yP B.yw B.inj G4 G6 F fun ss => rfl, m, F.kp, FunD.bindsN (ps := ["one", "other"]) F fun _ _ _ _ _ _ us hl => match us, hl with | [_, _], _ => rfl⟩
  G9 := by
    obtain ⟨f, u, F, m⟩ := B.F9
    obtain ⟨_, _, G4⟩ := G.G4
    obtain ⟨_, _, G5⟩ := G.G5
    exact ⟨f, u, ok9 (C := callN Fs 14 k) (Cn := callN Fs 14 (k + 1)) (k := k + 2) (by omega) B.yK B.yP B.yw B.inj G4 G5 F fun ss => rfl, m, F.kp, FunD.bindsN (ps := ["one", "other"]) F fun _ _ _ _ _ _ us hl => match us, hl with | [_, _], _ => rfl⟩
  G10 := by
    obtain ⟨f, u, F, m⟩ := B.F10
    obtain ⟨_, _, G2⟩ := G.G2
    obtain ⟨_, _, G4⟩ := G.G4
    obtain ⟨_, _, G11⟩ := G.G11
    obtain ⟨_, _, xBadName⟩ := B.xBadName
    exact ⟨f, u, ok10 (C := callN Fs 14 k) (Cn := callN Fs 14 (k + 1)) (k := k + 2) (by omega) B.yK B.yP B.yw B.inj G2 G4 G11 B.z_tuple xBadName F fun ss => rfl, m, F.kp, FunD.bindsN (ps := ["rows"]) F fun _ _ _ _ _ _ us hl => match us, hl with | [_], _ => rfl⟩
  G11 := by
    obtain ⟨f, u, F, m⟩ := B.F11
    obtain ⟨_, _, G5⟩ := G.G5
    exact ⟨f, u, ok11 (C := callN Fs 14 k) (Cn := callN Fs 14 (k + 1)) (k := k + 2) (by omega) B.yK B.yP B.yw B.inj G5 B.z_any B.z_sorted F fun ss => rfl, m, F.kp, FunD.bindsN (ps := ["rows"]) F fun _ _ _ _ _ _ us hl => match us, hl with | [_], _ => rfl⟩
  G12 := by
    obtain ⟨f, u, F, m⟩ := B.F12
    obtain ⟨_, _, G2⟩ := G.G2
    obtain ⟨_, _, G4⟩ := G.G4
    obtain ⟨_, _, G5⟩ := G.G5
    obtain ⟨_, _, xBadName⟩ := B.xBadName
    exact ⟨f, u, ok12 (C := callN Fs 14 k) (Cn := callN Fs 14 (k + 1)) (k := k + 2) (by omega) B.yK B.yP B.yw B.inj G2 G4 G5 B.z_any xBadName F fun ss => rfl, m, F.kp, FunD.bindsN (ps := ["means", "rows"]) F fun _ _ _ _ _ _ us hl => match us, hl with | [_, _], _ => rfl⟩
  G13 := by
    obtain ⟨f, u, F, m⟩ := B.F13
    exact ⟨f, u, ok13 (C := callN Fs 14 k) (Cn := callN Fs 14 (k + 1)) (k := k + 2) (by omega) B.yK B.yP B.yw B.inj B.z_int B.z_len B.z_range F fun ss => rfl, m, F.kp, FunD.bindsN (ps := ["script", "index"]) F fun _ _ _ _ _ _ us hl => match us, hl with | [_, _], _ => rfl⟩
  G14 := by
    obtain ⟨f, u, F, m⟩ := B.F14
    obtain ⟨_, _, G13⟩ := G.G13
    have h := ok14 (C := callN Fs 14 k) (Cn := (fun _ ss => match Nat.beq ss.length d14.np && plainAt d14.rp 0 ss with
      | true => ended d14 ss (d14.body (callN Fs 14 k) (ss ++ List.replicate (d14.ns - d14.np) .und))
      | false => .bad 38)) (k := k + 2) (by omega) B.yK B.yP B.yw B.inj G13 B.z_int F fun ss => rfl
    exact ⟨f, u, h.imp fun vs H Q E ⟨ss, h0, F0, S0, w0⟩ => ⟨ss, h0, F0, S0, take_real w0⟩, m, F.kp, FunD.bindsN (ps := ["draw", "many"]) F fun _ _ _ _ _ _ us hl => match us, hl with | [_, _], _ => rfl⟩
  G15 := by
    obtain ⟨f, u, F, m⟩ := B.F15
    obtain ⟨_, _, G14⟩ := G.G14
    exact ⟨f, u, ok15 (C := callN Fs 14 k) (Cn := callN Fs 14 (k + 1)) (k := k + 2) (by omega) B.yK B.yP B.yw B.inj G14 B.z_len F fun ss => rfl, m, F.kp, FunD.bindsN (ps := ["draw", "things"]) F fun _ _ _ _ _ _ us hl => match us, hl with | [_, _], _ => rfl⟩
  G16 := by
    obtain ⟨f, u, F, m⟩ := B.F16
    exact ⟨f, u, ok16 (C := callN Fs 14 k) (Cn := callN Fs 14 (k + 1)) (k := k + 2) (by omega) B.yK B.yP B.yw B.inj F fun ss => rfl, m, F.kp, FunD.bindsN (ps := ["means", "need"]) F fun _ _ _ _ _ _ us hl => match us, hl with | [_, _], _ => rfl⟩
  G17 := by
    obtain ⟨f, u, F, m⟩ := B.F17
    obtain ⟨_, _, G15⟩ := G.G15
    exact ⟨f, u, ok17 (C := callN Fs 14 k) (Cn := callN Fs 14 (k + 1)) (k := k + 2) (by omega) B.yK B.yP B.yw B.inj G15 B.z_range B.z_tuple F fun ss => rfl, m, F.kp, FunD.bindsN (ps := ["draw"]) F fun _ _ _ _ _ _ us hl => match us, hl with | [_], _ => rfl⟩
  G18 := by
    obtain ⟨f, u, F, m⟩ := B.F18
    exact ⟨f, u, ok18 (C := callN Fs 14 k) (Cn := callN Fs 14 (k + 1)) (k := k + 2) (by omega) B.yK B.yP B.yw B.inj F fun ss => rfl, m, F.kp, FunD.bindsN (ps := ["one", "other"]) F fun _ _ _ _ _ _ us hl => match us, hl with | [_, _], _ => rfl⟩
theorem cals (B : Base P w K mg base Y xc) : ∀ k, Cals P w K mg base Y xc k
  | 0 => cals0 B
  | k + 1 => calsS B (cals B k)
end
theorem baseOf {P : Program} {w : World} {K : PySem.W.Frag} {h : Heap} {mg : Str → Option Value} {base : Heap} {Y : Names} (X : K.In h) (G : h.Ns mainGlobals mg) (c : He.SaysD fa fn K) (e : ex K = true) (yK : Y.K = K) (yP : Y.P = P) (yw : Y.w = w) (ya : Y.at_ = atOf ats) (yn : Y.nc = 0) : Base P w K mg base Y (xcs K) where
  yK := yK
  yP := yP
  yw := yw
  inj := by rw [ya]; exact ats_inj
  z_all := He.free_ok X G (c.fact 21 (f := .free "all") rfl)
  z_any := He.free_ok X G (c.fact 22 (f := .free "any") rfl)
  z_bool := He.free_ok X G (c.fact 23 (f := .free "bool") rfl)
  z_int := He.free_ok X G (c.fact 24 (f := .free "int") rfl)
  z_isinstance := He.free_ok X G (c.fact 25 (f := .free "isinstance") rfl)
  z_len := He.free_ok X G (c.fact 26 (f := .free "len") rfl)
  z_list := He.free_ok X G (c.fact 27 (f := .free "list") rfl)
  z_max := He.free_ok X G (c.fact 28 (f := .free "max") rfl)
  z_min := He.free_ok X G (c.fact 29 (f := .free "min") rfl)
  z_range := He.free_ok X G (c.fact 30 (f := .free "range") rfl)
  z_set := He.free_ok X G (c.fact 31 (f := .free "set") rfl)
  z_sorted := He.free_ok X G (c.fact 32 (f := .free "sorted") rfl)
  z_str := He.free_ok X G (c.fact 33 (f := .free "str") rfl)
  z_tuple := He.free_ok X G (c.fact 34 (f := .free "tuple") rfl)
  hI := fun _ => InsOk.none yn
  i_MOST := by
    obtain ⟨t, h⟩ := He.int_ok X G (c.fact 35 (f := .int "MOST" 9) rfl)
    exact ⟨_, h, t, rfl⟩
  xBadName := by
    obtain ⟨fd, F⟩ := c.def_ 20 (d := ⟨("BadName", some "__init__"), "__init__", "BadName.__init__", defArgs (inClass (top 2) 0), defBody (inClass (top 2) 0), defScope (inClass (top 2) 0), [], []⟩) rfl
    have M := He.meth_ok (c.fact 37 (f := .meth "BadName" "__init__") rfl)
    have O := oexB_ok (bAnd e).1
    refine ⟨_, fd, O, M.at_, beq_iff_eq.mp M.fn, ?_, FunD.bindsN (ps := ["self", "name"]) F fun _ _ _ _ _ _ us hl => match us, hl with | [_, _], _ => rfl, He.glo_ok X G (c.fact 36 (f := .glo "BadName") rfl)⟩
    have e0 : ([3] : List Nat).map Y.at_ = (["name"] : List Str) := by rw [ya]; rfl
    rw [e0]
    exact init_1 F O (He.noat_ok (c.fact 39 (f := .noat "BadName" "name") rfl))
  F0 := by
    obtain ⟨fd, F⟩ := c.def_ 0 (d := ⟨("is_number", none), "is_number", "is_number", defArgs (top 4), defBody (top 4), defScope (top 4), [], []⟩) rfl
    exact ⟨_, fd, F, He.glo_ok X G (c.fact 0 (f := .glo "is_number") rfl)⟩
  F1 := by
    obtain ⟨fd, F⟩ := c.def_ 1 (d := ⟨("is_below", none), "is_below", "is_below", defArgs (top 5), defBody (top 5), defScope (top 5), [], []⟩) rfl
    exact ⟨_, fd, F, He.glo_ok X G (c.fact 1 (f := .glo "is_below") rfl)⟩
  F2 := by
    obtain ⟨fd, F⟩ := c.def_ 2 (d := ⟨("is_row", none), "is_row", "is_row", defArgs (top 6), defBody (top 6), defScope (top 6), [], []⟩) rfl
    exact ⟨_, fd, F, He.glo_ok X G (c.fact 2 (f := .glo "is_row") rfl)⟩
  F3 := by
    obtain ⟨fd, F⟩ := c.def_ 3 (d := ⟨("is_four", none), "is_four", "is_four", defArgs (top 9), defBody (top 9), defScope (top 9), [], []⟩) rfl
    exact ⟨_, fd, F, He.glo_ok X G (c.fact 3 (f := .glo "is_four") rfl)⟩
  F4 := by
    obtain ⟨fd, F⟩ := c.def_ 4 (d := ⟨("check_four", none), "check_four", "check_four", defArgs (top 10), defBody (top 10), defScope (top 10), [], []⟩) rfl
    exact ⟨_, fd, F, He.glo_ok X G (c.fact 4 (f := .glo "check_four") rfl)⟩
  F5 := by
    obtain ⟨fd, F⟩ := c.def_ 5 (d := ⟨("meets", none), "meets", "meets", defArgs (top 11), defBody (top 11), defScope (top 11), [], []⟩) rfl
    exact ⟨_, fd, F, He.glo_ok X G (c.fact 5 (f := .glo "meets") rfl)⟩
  F6 := by
    obtain ⟨fd, F⟩ := c.def_ 6 (d := ⟨("both_of", none), "both_of", "both_of", defArgs (top 12), defBody (top 12), defScope (top 12), [], []⟩) rfl
    exact ⟨_, fd, F, He.glo_ok X G (c.fact 6 (f := .glo "both_of") rfl)⟩
  F7 := by
    obtain ⟨fd, F⟩ := c.def_ 7 (d := ⟨("fulfils", none), "fulfils", "fulfils", defArgs (top 13), defBody (top 13), defScope (top 13), [], []⟩) rfl
    exact ⟨_, fd, F, He.glo_ok X G (c.fact 7 (f := .glo "fulfils") rfl)⟩
  F8 := by
    obtain ⟨fd, F⟩ := c.def_ 8 (d := ⟨("joined", none), "joined", "joined", defArgs (top 14), defBody (top 14), defScope (top 14), [], []⟩) rfl
    exact ⟨_, fd, F, He.glo_ok X G (c.fact 8 (f := .glo "joined") rfl)⟩
  F9 := by
    obtain ⟨fd, F⟩ := c.def_ 9 (d := ⟨("is_easier", none), "is_easier", "is_easier", defArgs (top 15), defBody (top 15), defScope (top 15), [], []⟩) rfl
    exact ⟨_, fd, F, He.glo_ok X G (c.fact 9 (f := .glo "is_easier") rfl)⟩
  F10 := by
    obtain ⟨fd, F⟩ := c.def_ 10 (d := ⟨("least_of", none), "least_of", "least_of", defArgs (top 16), defBody (top 16), defScope (top 16), [], []⟩) rfl
    exact ⟨_, fd, F, He.glo_ok X G (c.fact 10 (f := .glo "least_of") rfl)⟩
  F11 := by
    obtain ⟨fd, F⟩ := c.def_ 11 (d := ⟨("least_among", none), "least_among", "least_among", defArgs (top 17), defBody (top 17), defScope (top 17), [], []⟩) rfl
    exact ⟨_, fd, F, He.glo_ok X G (c.fact 11 (f := .glo "least_among") rfl)⟩
  F12 := by
    obtain ⟨fd, F⟩ := c.def_ 12 (d := ⟨("any_fulfils", none), "any_fulfils", "any_fulfils", defArgs (top 18), defBody (top 18), defScope (top 18), [], []⟩) rfl
    exact ⟨_, fd, F, He.glo_ok X G (c.fact 12 (f := .glo "any_fulfils") rfl)⟩
  F13 := by
    obtain ⟨fd, F⟩ := c.def_ 13 (d := ⟨("_law_number", none), "_law_number", "_law_number", defArgs (top 20), defBody (top 20), defScope (top 20), [], []⟩) rfl
    exact ⟨_, fd, F, He.glo_ok X G (c.fact 13 (f := .glo "_law_number") rfl)⟩
  F14 := by
    obtain ⟨fd, F⟩ := c.def_ 14 (d := ⟨("_law_take", none), "_law_take", "_law_take", defArgs (top 21), defBody (top 21), defScope (top 21), [], []⟩) rfl
    exact ⟨_, fd, F, He.glo_ok X G (c.fact 14 (f := .glo "_law_take") rfl)⟩
  F15 := by
    obtain ⟨fd, F⟩ := c.def_ 15 (d := ⟨("_law_pick", none), "_law_pick", "_law_pick", defArgs (top 22), defBody (top 22), defScope (top 22), [], []⟩) rfl
    exact ⟨_, fd, F, He.glo_ok X G (c.fact 15 (f := .glo "_law_pick") rfl)⟩
  F16 := by
    obtain ⟨fd, F⟩ := c.def_ 16 (d := ⟨("_law_fits", none), "_law_fits", "_law_fits", defArgs (top 23), defBody (top 23), defScope (top 23), [], []⟩) rfl
    exact ⟨_, fd, F, He.glo_ok X G (c.fact 16 (f := .glo "_law_fits") rfl)⟩
  F17 := by
    obtain ⟨fd, F⟩ := c.def_ 17 (d := ⟨("_law_four", none), "_law_four", "_law_four", defArgs (top 24), defBody (top 24), defScope (top 24), [], []⟩) rfl
    exact ⟨_, fd, F, He.glo_ok X G (c.fact 17 (f := .glo "_law_four") rfl)⟩
  F18 := by
    obtain ⟨fd, F⟩ := c.def_ 18 (d := ⟨("_law_easier", none), "_law_easier", "_law_easier", defArgs (top 25), defBody (top 25), defScope (top 25), [], []⟩) rfl
    exact ⟨_, fd, F, He.glo_ok X G (c.fact 18 (f := .glo "_law_easier") rfl)⟩
theorem lawRun {w : World} {K : PySem.W.Frag} {h : Heap} {mg : Str → Option Value} {fd : FuncData} {fl a c Pt : Addr} {base : Heap} {s : Shared} {H : Hp} {ns : List Int} {o : Obj} (X : K.In h) (G : h.Ns mainGlobals mg) (c0 : He.SaysD fa fn K) (e : ex K = true)
    (F : FunD K "law" "law" (defArgs lawS) (defBody lawS) (defScope lawS) [] [] fl fd) (hcode : fd.code = .ref c) (TB : LamX.TabB base mg c Pt) (e0 : Env0 R.prog w K mg base callerA [] s H) (hP : H Pt = some (.tbl #[])) (ha : H a = some (.frz o (.lst (ns.map V.int))))
    (hw : wpR (b19 (callN Fs 14 14) (.fz (.lst (ns.map .int)) :: (List.replicate 12 .und ++ [.tb]))) (fun f _ => f = .ret (.fz (.bl true))) fun _ _ _ => False) :
    codeAny (model R.prog w) callerA (.call (.ref fl) ⟨[.ref a], []⟩) (CR (L2.CX R.prog w) [] R.prog w H s (fun v _ => v = .bl true) fun _ _ _ => False) s := by
  have B : Base R.prog w K mg base { nmOf R.prog w K [] [] ats with tP := Pt, tq := (XL R.prog w K mg base fl c s H).env.qual ++ "<lambda>", lm := fun n => lamOf (XL R.prog w K mg base fl c s H) (lamA (lamE n)) (lamB (lamE n)) (lamSc (lamE n)) } (xcs K) := baseOf X G c0 e rfl rfl rfl rfl rfl
  obtain ⟨_, _, G12⟩ := (cals B 14).G12
  obtain ⟨_, _, G10⟩ := (cals B 14).G10
  obtain ⟨_, _, G9⟩ := (cals B 14).G9
  obtain ⟨_, _, G8⟩ := (cals B 14).G8
  obtain ⟨_, _, G7⟩ := (cals B 14).G7
  obtain ⟨_, _, G14⟩ := (cals B 14).G14
  obtain ⟨_, _, G16⟩ := (cals B 14).G16
  obtain ⟨_, _, G17⟩ := (cals B 14).G17
  obtain ⟨_, _, G18⟩ := (cals B 14).G18
  obtain ⟨_, _, xBadName⟩ := B.xBadName
  have eBadName : PySem.W.exmOne K (.ref (xcs K 1)) (.ref (xcs K 1)) = some true := He.exm_ok (c0.fact 38 (f := .exm "BadName" "BadName" true) rfl)
  have tfBadName : XfC K (xcs K 1) := xfB_ok ((bAnd e).2)
  have nfBadName_name := (c0.fact 39 (f := .noat "BadName" "name") rfl)
  have nfBadName_name := He.noat_ok nfBadName_name
  exact okLaw (k := 16) (by omega) B.yK B.yP B.yw B.inj G12 G10 G9 G8 G7 G14 G16 G17 G18 B.z_any B.z_list B.z_max B.z_min B.z_range B.z_set B.z_sorted B.z_str B.z_tuple xBadName eBadName tfBadName nfBadName_name rfl F hcode TB rfl rfl (fun n => rfl) e0 ⟨rfl, by decide, by decide⟩ (FunD.bindsA (ps := ["script"]) F (fun _ _ _ _ _ _ us hl => match us, hl with | [_], _ => rfl) s [.ref a] rfl) hP ha hw
end LW
open PySem PySem.W PySem.Calls PyProof.Rows
theorem ends (math : ∀ ns : List Int, ns.length ≤ 63 → Vy.wpR (LW.b19 (Vy.callN LW.Fs 14 14) (.fz (.lst (ns.map .int)) :: (List.replicate 12 .und ++ [.tb]))) (fun f _ => f = .ret (.fz (.bl true))) fun _ _ _ => False) : PySem.Challenge.rw_stepfree_k01_whole_needs.Holds := by
  w_on; o_law
  refine HandSHeadRun.head_any (r := OpenLaw.row PySem.Challenge.rw_stepfree_k01_whole_needs) (q := view (OpenLaw.row PySem.Challenge.rw_stepfree_k01_whole_needs).prog [26]) (H := LW.hk) (ob := LW.ob) (M := 2000) (loose := LW.lo) (d := HandSHeadRun.topDef (OpenLaw.row PySem.Challenge.rw_stepfree_k01_whole_needs).prog 26) (kwd := []) LW.ob_eq
    (by kernel_rfl) (fun s => by kernel_rfl) LW.run (by kernel_rfl) (by kernel_rfl) (by kernel_rfl) (by rfl) (by first | assumption | decide +kernel) (by decide +kernel) ⟨rfl, rfl, rfl, rfl, rfl, by decide +kernel⟩ ?hw ?hc
  case hw => w_witness2
  case hc =>
    refine Vy.law_walk (l := PySem.Challenge.rw_stepfree_k01_whole_needs) (n := 63) rfl (by decide) (by kernel_rfl) (by decide +kernel) ?F
    intro w mg fl h Yh G hmg0
    obtain ⟨K, KX, th, c0, e⟩ := Yh
    have hmg : mg ("law" : PySem.Str) = some (.ref fl) := by
      have q : (HandSHeadRun.topDef (OpenLaw.row PySem.Challenge.rw_stepfree_k01_whole_needs).prog 26).name = ("law" : PySem.Str) := by kernel_rfl
      rw [← q]
      exact hmg0
    obtain ⟨fd, F⟩ := c0.def_ 19 (d := ⟨("law", none), "law", "law", L2.defArgs (LW.top 26), L2.defBody (LW.top 26), L2.defScope (LW.top 26), [], []⟩) rfl
    have q := hmg.symm.trans (He.glo_ok KX G (c0.fact 19 (f := .glo "law") rfl))
    cases q
    obtain ⟨oc, od, dV, kV, doc, pm, an, cdv, ct, osl, q1, lk, _⟩ := F.ex
    refine ⟨K, fd, KX, th, ⟨oc, od, osl, lk⟩, fun base z0 a c Pt o ns hcode hl KB NB TB nP e0 => ?_⟩
    exact LW.lawRun KX G c0 e F hcode TB e0 ((if_neg (Ne.symm nP)).trans (if_pos rfl)) (if_pos rfl) (math ns hl)

end
section
set_option maxRecDepth 100000
set_option maxHeartbeats 1000000
namespace LW
open Vy
def isT : Res Fl → Bool
  | .ok (.ret (.fz (.bl true))) _ => true
  | _ => false
abbrev rl4 (a b c d : Int) : IV := .lst [.int a, .int b, .int c, .int d]
abbrev rw4 (a b c d : Int) : IV := .tup [.int a, .int b, .int c, .int d]
theorem idx4_0 {a b c d : IV} : idx [a, b, c, d] 0 = some a := rfl
theorem idx4_1 {a b c d : IV} : idx [a, b, c, d] 1 = some b := rfl
theorem idx4_2 {a b c d : IV} : idx [a, b, c, d] 2 = some c := rfl
theorem idx4_3 {a b c d : IV} : idx [a, b, c, d] 3 = some d := rfl
theorem veq_int {i j : Int} : veq (.int i) (.int j) = some (decide (i = j)) := by kernel_rfl
theorem veq_bl {a b : Bool} : veq (.bl a) (.bl b) = some (a == b) := by kernel_rfl
theorem veq_row {a b c d a' b' c' d' : Int} : veq (rw4 a b c d) (rw4 a' b' c' d') = some (decide (a = a') && (decide (b = b') && (decide (c = c') && (decide (d = d') && true)))) := by kernel_rfl
theorem len4 : ((0 + 1 + 1 + 1 + 1 : Nat) : Int) = 4 := rfl
theorem dec4 : decide ((4 : Int) = 4) = true := rfl
theorem blt10 {x y : Int} : bltV 10 [.int x, .int y] = some (.fz (.int (if y < x then y else x))) := rfl
theorem blt11 {x y : Int} : bltV 11 [.int x, .int y] = some (.fz (.int (if x < y then y else x))) := rfl
theorem metG_nil {c : Option Nat} {m : Nat} : metG T c m = none := by cases c <;> rfl
theorem callE {k f : Nat} {vs : List SV} (d : FD) (b : Vy.Callee → SDen) (ee : Env) (h1 : Nat.beq f 14 = false) (h2 : Fs[f]? = some d) (h3 : (Nat.beq vs.length d.np && plainAt d.rp 0 vs) = true) (hb : d.body = b) (he : vs ++ List.replicate (d.ns - d.np) .und = ee) : callN Fs 14 (k + 1) f vs = ended d vs (b (callN Fs 14 k) ee) := by
  have e : callN Fs 14 (k + 1) f vs = match Nat.beq f 14 with
    | true => match k with
      | 0 => .bad 36
      | _ + 1 => takeN vs
    | false => match Fs[f]? with
      | none => .bad 37
      | some d => match Nat.beq vs.length d.np && plainAt d.rp 0 vs with
        | true => ended d vs (d.body (callN Fs 14 k) (vs ++ List.replicate (d.ns - d.np) .und))
        | false => .bad 38 := rfl
  rw [e, h1, h2]
  dsimp only
  rw [h3, ← hb, ← he]
/-- one row fits another -/
def fitB (a b c d a' b' c' d' : Int) : Bool := decide (a ≤ a') && decide (b' ≤ b) && decide (c' ≤ c) && decide (d' ≤ d)
theorem lt_le (a b : Int) : decide (a < b) = !decide (b ≤ a) := by
  rw [← decide_not]
  exact decide_eq_decide.mpr (by omega)
theorem meets_ev (k : Nat) (a b c d a' b' c' d' : Int) : callN Fs 14 (k + 1) 5 [.fz (rw4 a b c d), .fz (rw4 a' b' c' d')] = .ok (.fz (.bl (fitB a b c d a' b' c' d')), [.fz (rw4 a b c d), .fz (rw4 a' b' c' d')]) [] := by
  rw [callE d5 b5 [.fz (rw4 a b c d), .fz (rw4 a' b' c' d')] rfl rfl rfl rfl rfl]
  unfold b5 fitB
  cases h1 : decide (a ≤ a') <;> cases h2 : decide (b' ≤ b) <;> cases h3 : decide (c' ≤ c) <;> simp only [sSeq, sRet, sIf, sEx, sPas, sAsg, dIte, dAnd, dOr, dNot, dVar, tst, oE, dCmp, looked2, looked, oS, getE_0, getE_s, bind_ok, OV.at, SV.flat, SV.frz, dLst, lNil, eqR, metG_nil, clsS, retO_some, veq_int, veq_bl, veq_row, len4, dec4, fits, List.length_nil, nl, List.map_nil, List.all_nil, SV.frzL, Bool.and_self, truthR, truth, dTup, lCons, dSub, dBin, thaw, dBlt, osCons, osNil, atAll, blt0_lst, blt0_tup, blt15, binop, subS, subV, bindT, bindT.bindTs, setE_0, setE_s, List.length_cons, Bool.not_false, Bool.not_true, Nat.ble, dCon, cmpop, dCall, aOwn, aVal, aNil, called, owns, nodupN, called.go, List.map_cons, AV.sv, back, idx4_0, idx4_1, idx4_2, idx4_3, lt_le, h1, h2, h3] <;> rfl
theorem fits_ev (k : Nat) (a b c d a' b' c' d' : Int) : callN Fs 14 (k + 1) 16 [.fz (rw4 a b c d), .fz (rw4 a' b' c' d')] = .ok (.fz (.bl (fitB a b c d a' b' c' d')), [.fz (rw4 a b c d), .fz (rw4 a' b' c' d')]) [] := by
  rw [callE d16 b16 [.fz (rw4 a b c d), .fz (rw4 a' b' c' d')] rfl rfl rfl rfl rfl]
  unfold b16 fitB
  cases h1 : decide (a ≤ a') <;> cases h2 : decide (b' ≤ b) <;> cases h3 : decide (c' ≤ c) <;> simp only [sSeq, sRet, sIf, sEx, sPas, sAsg, dIte, dAnd, dOr, dNot, dVar, tst, oE, dCmp, looked2, looked, oS, getE_0, getE_s, bind_ok, OV.at, SV.flat, SV.frz, dLst, lNil, eqR, metG_nil, clsS, retO_some, veq_int, veq_bl, veq_row, len4, dec4, fits, List.length_nil, nl, List.map_nil, List.all_nil, SV.frzL, Bool.and_self, truthR, truth, dTup, lCons, dSub, dBin, thaw, dBlt, osCons, osNil, atAll, blt0_lst, blt0_tup, blt15, binop, subS, subV, bindT, bindT.bindTs, setE_0, setE_s, List.length_cons, Bool.not_false, Bool.not_true, Nat.ble, dCon, cmpop, dCall, aOwn, aVal, aNil, called, owns, nodupN, called.go, List.map_cons, AV.sv, back, idx4_0, idx4_1, idx4_2, idx4_3, h1, h2, h3] <;> rfl
theorem easier_ev (k : Nat) (a b c d a' b' c' d' : Int) : callN Fs 14 (k + 1) 18 [.fz (rw4 a b c d), .fz (rw4 a' b' c' d')] = .ok (.fz (.bl (fitB a b c d a' b' c' d')), [.fz (rw4 a b c d), .fz (rw4 a' b' c' d')]) [] := by
  rw [callE d18 b18 [.fz (rw4 a b c d), .fz (rw4 a' b' c' d')] rfl rfl rfl rfl rfl]
  unfold b18 fitB
  cases h1 : decide (a ≤ a') <;> cases h2 : decide (b' ≤ b) <;> cases h3 : decide (c' ≤ c) <;> simp only [sSeq, sRet, sIf, sEx, sPas, sAsg, dIte, dAnd, dOr, dNot, dVar, tst, oE, dCmp, looked2, looked, oS, getE_0, getE_s, bind_ok, OV.at, SV.flat, SV.frz, dLst, lNil, eqR, metG_nil, clsS, retO_some, veq_int, veq_bl, veq_row, len4, dec4, fits, List.length_nil, nl, List.map_nil, List.all_nil, SV.frzL, Bool.and_self, truthR, truth, dTup, lCons, dSub, dBin, thaw, dBlt, osCons, osNil, atAll, blt0_lst, blt0_tup, blt15, binop, subS, subV, bindT, bindT.bindTs, setE_0, setE_s, List.length_cons, Bool.not_false, Bool.not_true, Nat.ble, dCon, cmpop, dCall, aOwn, aVal, aNil, called, owns, nodupN, called.go, List.map_cons, AV.sv, back, idx4_0, idx4_1, idx4_2, idx4_3, h1, h2, h3] <;> rfl
/-- the need of two -/
abbrev bothR (a b c d a' b' c' d' : Int) : IV := rw4 (if a' < a then a' else a) (if b < b' then b' else b) (if c < c' then c' else c) (if d < d' then d' else d)
theorem both_ev (k : Nat) (a b c d a' b' c' d' : Int) : callN Fs 14 (k + 1) 6 [.fz (rw4 a b c d), .fz (rw4 a' b' c' d')] = .ok (.fz (bothR a b c d a' b' c' d'), [.fz (rw4 a b c d), .fz (rw4 a' b' c' d')]) [] := by kernel_rfl
/-- numbers from 0 to 9 -/
def good (a b c d : Int) : Prop := (0 ≤ a ∧ a < 10) ∧ (0 ≤ b ∧ b < 10) ∧ (0 ≤ c ∧ c < 10) ∧ 0 ≤ d ∧ d < 10
theorem num_ev (k : Nat) (i : Int) : callN Fs 14 (k + 1) 0 [.fz (.int i)] = .ok (.fz (.bl (decide (0 ≤ i))), [.fz (.int i)]) [] := by kernel_rfl
theorem below_ev (k : Nat) (i : Int) (h : 0 ≤ i ∧ i < 10) : callN Fs 14 (k + 2) 1 [.fz (.int i), .fz (.int 10)] = .ok (.fz (.bl true), [.fz (.int i), .fz (.int 10)]) [] := by
  rw [callE d1 b1 [.fz (.int i), .fz (.int 10)] rfl rfl rfl rfl rfl]
  unfold b1
  simp only [sSeq, sRet, sIf, sEx, sPas, sAsg, dIte, dAnd, dOr, dNot, dVar, tst, oE, dCmp, looked2, looked, oS, getE_0, getE_s, bind_ok, OV.at, SV.flat, SV.frz, dLst, lNil, eqR, metG_nil, clsS, retO_some, veq_int, veq_bl, veq_row, len4, dec4, fits, List.length_nil, nl, List.map_nil, List.all_nil, SV.frzL, Bool.and_self, truthR, truth, dTup, lCons, dSub, dBin, thaw, dBlt, osCons, osNil, atAll, blt0_lst, blt0_tup, blt15, binop, subS, subV, bindT, bindT.bindTs, setE_0, setE_s, List.length_cons, Bool.not_false, Bool.not_true, Nat.ble, dCon, cmpop, dCall, aOwn, aVal, aNil, called, owns, nodupN, called.go, List.map_cons, AV.sv, back, idx4_0, idx4_1, idx4_2, idx4_3, num_ev, decide_eq_true h.1, decide_eq_true h.2]
  rfl
theorem row_ev (k : Nat) (xs : List IV) : callN Fs 14 (k + 1) 2 [.fz (.tup xs)] = .ok (.fz (.bl true), [.fz (.tup xs)]) [] := by kernel_rfl
theorem rowL_ev (k : Nat) (xs : List IV) : callN Fs 14 (k + 1) 2 [.fz (.lst xs)] = .ok (.fz (.bl true), [.fz (.lst xs)]) [] := by kernel_rfl
theorem four_ev (k : Nat) (a b c d : Int) (h : good a b c d) : callN Fs 14 (k + 3) 3 [.fz (rw4 a b c d)] = .ok (.fz (.bl true), [.fz (rw4 a b c d)]) [] := by
  rw [callE d3 b3 [.fz (rw4 a b c d), .und] rfl rfl rfl rfl rfl]
  have e1 : ∀ x, callN Fs 14 (k + 2) 2 [.fz (.tup x)] = .ok (.fz (.bl true), [.fz (.tup x)]) [] := fun x => row_ev (k + 1) x
  have e9 : (9 : Int) + 1 = 10 := rfl
  unfold b3
  simp only [sSeq, sRet, sIf, sEx, sPas, sAsg, dIte, dAnd, dOr, dNot, dVar, tst, oE, dCmp, looked2, looked, oS, getE_0, getE_s, bind_ok, OV.at, SV.flat, SV.frz, dLst, lNil, eqR, metG_nil, clsS, retO_some, veq_int, veq_bl, veq_row, len4, dec4, fits, List.length_nil, nl, List.map_nil, List.all_nil, SV.frzL, Bool.and_self, truthR, truth, dTup, lCons, dSub, dBin, thaw, dBlt, osCons, osNil, atAll, blt0_lst, blt0_tup, blt15, binop, subS, subV, bindT, bindT.bindTs, setE_0, setE_s, List.length_cons, Bool.not_false, Bool.not_true, Nat.ble, dCon, cmpop, dCall, aOwn, aVal, aNil, called, owns, nodupN, called.go, List.map_cons, AV.sv, back, idx4_0, idx4_1, idx4_2, idx4_3, e1, e9, dLc, iOne, gone, itV, wipe, compL, tAll, Res.noX, below_ev k a h.1, below_ev k b h.2.1, below_ev k c h.2.2.1, below_ev k d h.2.2.2]
  kernel_rfl
theorem fourL_ev (k : Nat) (a b c d : Int) (h : good a b c d) : callN Fs 14 (k + 3) 3 [.fz (rl4 a b c d)] = .ok (.fz (.bl true), [.fz (rl4 a b c d)]) [] := by
  rw [callE d3 b3 [.fz (rl4 a b c d), .und] rfl rfl rfl rfl rfl]
  have e1 : ∀ x, callN Fs 14 (k + 2) 2 [.fz (.lst x)] = .ok (.fz (.bl true), [.fz (.lst x)]) [] := fun x => rowL_ev (k + 1) x
  have e9 : (9 : Int) + 1 = 10 := rfl
  unfold b3
  simp only [sSeq, sRet, sIf, sEx, sPas, sAsg, dIte, dAnd, dOr, dNot, dVar, tst, oE, dCmp, looked2, looked, oS, getE_0, getE_s, bind_ok, OV.at, SV.flat, SV.frz, dLst, lNil, eqR, metG_nil, clsS, retO_some, veq_int, veq_bl, veq_row, len4, dec4, fits, List.length_nil, nl, List.map_nil, List.all_nil, SV.frzL, Bool.and_self, truthR, truth, dTup, lCons, dSub, dBin, thaw, dBlt, osCons, osNil, atAll, blt0_lst, blt0_tup, blt15, binop, subS, subV, bindT, bindT.bindTs, setE_0, setE_s, List.length_cons, Bool.not_false, Bool.not_true, Nat.ble, dCon, cmpop, dCall, aOwn, aVal, aNil, called, owns, nodupN, called.go, List.map_cons, AV.sv, back, idx4_0, idx4_1, idx4_2, idx4_3, e1, e9, dLc, iOne, gone, itV, wipe, compL, tAll, Res.noX, below_ev k a h.1, below_ev k b h.2.1, below_ev k c h.2.2.1, below_ev k d h.2.2.2]
  kernel_rfl
theorem meetsL_ev (k : Nat) (a b c d a' b' c' d' : Int) : callN Fs 14 (k + 1) 5 [.fz (rl4 a b c d), .fz (rl4 a' b' c' d')] = .ok (.fz (.bl (fitB a b c d a' b' c' d')), [.fz (rl4 a b c d), .fz (rl4 a' b' c' d')]) [] := by
  rw [callE d5 b5 [.fz (rl4 a b c d), .fz (rl4 a' b' c' d')] rfl rfl rfl rfl rfl]
  unfold b5 fitB
  cases h1 : decide (a ≤ a') <;> cases h2 : decide (b' ≤ b) <;> cases h3 : decide (c' ≤ c) <;> simp only [sSeq, sRet, sIf, sEx, sPas, sAsg, dIte, dAnd, dOr, dNot, dVar, tst, oE, dCmp, looked2, looked, oS, getE_0, getE_s, bind_ok, OV.at, SV.flat, SV.frz, dLst, lNil, eqR, metG_nil, clsS, retO_some, veq_int, veq_bl, veq_row, len4, dec4, fits, List.length_nil, nl, List.map_nil, List.all_nil, SV.frzL, Bool.and_self, truthR, truth, dTup, lCons, dSub, dBin, thaw, dBlt, osCons, osNil, atAll, blt0_lst, blt0_tup, blt15, binop, subS, subV, bindT, bindT.bindTs, setE_0, setE_s, List.length_cons, Bool.not_false, Bool.not_true, Nat.ble, dCon, cmpop, dCall, aOwn, aVal, aNil, called, owns, nodupN, called.go, List.map_cons, AV.sv, back, idx4_0, idx4_1, idx4_2, idx4_3, lt_le, h1, h2, h3] <;> rfl
theorem check_ev (k : Nat) (a b c d : Int) (h : good a b c d) : callN Fs 14 (k + 4) 4 [.fz (rw4 a b c d)] = .ok (.fz .non, [.fz (rw4 a b c d)]) [] := by
  rw [callE d4 b4 [.fz (rw4 a b c d)] rfl rfl rfl rfl rfl]
  unfold b4
  simp only [sSeq, sRet, sIf, sEx, sPas, sAsg, dIte, dAnd, dOr, dNot, dVar, tst, oE, dCmp, looked2, looked, oS, getE_0, getE_s, bind_ok, OV.at, SV.flat, SV.frz, dLst, lNil, eqR, metG_nil, clsS, retO_some, veq_int, veq_bl, veq_row, len4, dec4, fits, List.length_nil, nl, List.map_nil, List.all_nil, SV.frzL, Bool.and_self, truthR, truth, dTup, lCons, dSub, dBin, thaw, dBlt, osCons, osNil, atAll, blt0_lst, blt0_tup, blt15, binop, subS, subV, bindT, bindT.bindTs, setE_0, setE_s, List.length_cons, Bool.not_false, Bool.not_true, Nat.ble, dCon, cmpop, dCall, aOwn, aVal, aNil, called, owns, nodupN, called.go, List.map_cons, AV.sv, back, idx4_0, idx4_1, idx4_2, idx4_3, four_ev k a b c d h]
  kernel_rfl
theorem checkL_ev (k : Nat) (a b c d : Int) (h : good a b c d) : callN Fs 14 (k + 4) 4 [.fz (rl4 a b c d)] = .ok (.fz .non, [.fz (rl4 a b c d)]) [] := by
  rw [callE d4 b4 [.fz (rl4 a b c d)] rfl rfl rfl rfl rfl]
  unfold b4
  simp only [sSeq, sRet, sIf, sEx, sPas, sAsg, dIte, dAnd, dOr, dNot, dVar, tst, oE, dCmp, looked2, looked, oS, getE_0, getE_s, bind_ok, OV.at, SV.flat, SV.frz, dLst, lNil, eqR, metG_nil, clsS, retO_some, veq_int, veq_bl, veq_row, len4, dec4, fits, List.length_nil, nl, List.map_nil, List.all_nil, SV.frzL, Bool.and_self, truthR, truth, dTup, lCons, dSub, dBin, thaw, dBlt, osCons, osNil, atAll, blt0_lst, blt0_tup, blt15, binop, subS, subV, bindT, bindT.bindTs, setE_0, setE_s, List.length_cons, Bool.not_false, Bool.not_true, Nat.ble, dCon, cmpop, dCall, aOwn, aVal, aNil, called, owns, nodupN, called.go, List.map_cons, AV.sv, back, idx4_0, idx4_1, idx4_2, idx4_3, fourL_ev k a b c d h]
  kernel_rfl
theorem fulfils_ev (k : Nat) (a b c d a' b' c' d' : Int) (h : good a b c d) (h' : good a' b' c' d') : callN Fs 14 (k + 5) 7 [.fz (rw4 a b c d), .fz (rw4 a' b' c' d')] = .ok (.fz (.bl (fitB a b c d a' b' c' d')), [.fz (rw4 a b c d), .fz (rw4 a' b' c' d')]) [] := by
  have e := meets_ev (k + 3) a b c d a' b' c' d'
  rw [callE d7 b7 [.fz (rw4 a b c d), .fz (rw4 a' b' c' d')] rfl rfl rfl rfl rfl]
  unfold b7
  simp only [sSeq, sRet, sIf, sEx, sPas, sAsg, dIte, dAnd, dOr, dNot, dVar, tst, oE, dCmp, looked2, looked, oS, getE_0, getE_s, bind_ok, OV.at, SV.flat, SV.frz, dLst, lNil, eqR, metG_nil, clsS, retO_some, veq_int, veq_bl, veq_row, len4, dec4, fits, List.length_nil, nl, List.map_nil, List.all_nil, SV.frzL, Bool.and_self, truthR, truth, dTup, lCons, dSub, dBin, thaw, dBlt, osCons, osNil, atAll, blt0_lst, blt0_tup, blt15, binop, subS, subV, bindT, bindT.bindTs, setE_0, setE_s, List.length_cons, Bool.not_false, Bool.not_true, Nat.ble, dCon, cmpop, dCall, aOwn, aVal, aNil, called, owns, nodupN, called.go, List.map_cons, AV.sv, back, idx4_0, idx4_1, idx4_2, idx4_3, check_ev k a b c d h, check_ev k a' b' c' d' h', e]
  rfl
theorem fulfilsL_ev (k : Nat) (a b c d a' b' c' d' : Int) (h : good a b c d) (h' : good a' b' c' d') : callN Fs 14 (k + 5) 7 [.fz (rl4 a b c d), .fz (rl4 a' b' c' d')] = .ok (.fz (.bl (fitB a b c d a' b' c' d')), [.fz (rl4 a b c d), .fz (rl4 a' b' c' d')]) [] := by
  have e := meetsL_ev (k + 3) a b c d a' b' c' d'
  rw [callE d7 b7 [.fz (rl4 a b c d), .fz (rl4 a' b' c' d')] rfl rfl rfl rfl rfl]
  unfold b7
  simp only [sSeq, sRet, sIf, sEx, sPas, sAsg, dIte, dAnd, dOr, dNot, dVar, tst, oE, dCmp, looked2, looked, oS, getE_0, getE_s, bind_ok, OV.at, SV.flat, SV.frz, dLst, lNil, eqR, metG_nil, clsS, retO_some, veq_int, veq_bl, veq_row, len4, dec4, fits, List.length_nil, nl, List.map_nil, List.all_nil, SV.frzL, Bool.and_self, truthR, truth, dTup, lCons, dSub, dBin, thaw, dBlt, osCons, osNil, atAll, blt0_lst, blt0_tup, blt15, binop, subS, subV, bindT, bindT.bindTs, setE_0, setE_s, List.length_cons, Bool.not_false, Bool.not_true, Nat.ble, dCon, cmpop, dCall, aOwn, aVal, aNil, called, owns, nodupN, called.go, List.map_cons, AV.sv, back, idx4_0, idx4_1, idx4_2, idx4_3, checkL_ev k a b c d h, checkL_ev k a' b' c' d' h', e]
  rfl
theorem joined_ev (k : Nat) (a b c d a' b' c' d' : Int) (h : good a b c d) (h' : good a' b' c' d') : callN Fs 14 (k + 5) 8 [.fz (rw4 a b c d), .fz (rw4 a' b' c' d')] = .ok (.fz (bothR a b c d a' b' c' d'), [.fz (rw4 a b c d), .fz (rw4 a' b' c' d')]) [] := by
  have e := both_ev (k + 3) a b c d a' b' c' d'
  rw [callE d8 b8 [.fz (rw4 a b c d), .fz (rw4 a' b' c' d')] rfl rfl rfl rfl rfl]
  unfold b8
  simp only [sSeq, sRet, sIf, sEx, sPas, sAsg, dIte, dAnd, dOr, dNot, dVar, tst, oE, dCmp, looked2, looked, oS, getE_0, getE_s, bind_ok, OV.at, SV.flat, SV.frz, dLst, lNil, eqR, metG_nil, clsS, retO_some, veq_int, veq_bl, veq_row, len4, dec4, fits, List.length_nil, nl, List.map_nil, List.all_nil, SV.frzL, Bool.and_self, truthR, truth, dTup, lCons, dSub, dBin, thaw, dBlt, osCons, osNil, atAll, blt0_lst, blt0_tup, blt15, binop, subS, subV, bindT, bindT.bindTs, setE_0, setE_s, List.length_cons, Bool.not_false, Bool.not_true, Nat.ble, dCon, cmpop, dCall, aOwn, aVal, aNil, called, owns, nodupN, called.go, List.map_cons, AV.sv, back, idx4_0, idx4_1, idx4_2, idx4_3, check_ev k a b c d h, check_ev k a' b' c' d' h', e]
  rfl
theorem easy_ev (k : Nat) (a b c d a' b' c' d' : Int) (h : good a b c d) (h' : good a' b' c' d') : callN Fs 14 (k + 5) 9 [.fz (rw4 a b c d), .fz (rw4 a' b' c' d')] = .ok (.fz (.bl (fitB a b c d a' b' c' d')), [.fz (rw4 a b c d), .fz (rw4 a' b' c' d')]) [] := by
  have e := meets_ev (k + 3) a b c d a' b' c' d'
  rw [callE d9 b9 [.fz (rw4 a b c d), .fz (rw4 a' b' c' d')] rfl rfl rfl rfl rfl]
  unfold b9
  simp only [sSeq, sRet, sIf, sEx, sPas, sAsg, dIte, dAnd, dOr, dNot, dVar, tst, oE, dCmp, looked2, looked, oS, getE_0, getE_s, bind_ok, OV.at, SV.flat, SV.frz, dLst, lNil, eqR, metG_nil, clsS, retO_some, veq_int, veq_bl, veq_row, len4, dec4, fits, List.length_nil, nl, List.map_nil, List.all_nil, SV.frzL, Bool.and_self, truthR, truth, dTup, lCons, dSub, dBin, thaw, dBlt, osCons, osNil, atAll, blt0_lst, blt0_tup, blt15, binop, subS, subV, bindT, bindT.bindTs, setE_0, setE_s, List.length_cons, Bool.not_false, Bool.not_true, Nat.ble, dCon, cmpop, dCall, aOwn, aVal, aNil, called, owns, nodupN, called.go, List.map_cons, AV.sv, back, idx4_0, idx4_1, idx4_2, idx4_3, check_ev k a b c d h, check_ev k a' b' c' d' h', e]
  rfl
end LW

end
section
set_option maxRecDepth 100000
set_option maxHeartbeats 1000000
namespace LW
open Vy
/-- a row of four numbers from 0 to 9 -/
def Good (q : List Int) : Prop := ∃ a b c d, q = [a, b, c, d] ∧ good a b c d
def fit : List Int → List Int → Bool
  | [a, b, c, d], [a', b', c', d'] => fitB a b c d a' b' c' d'
  | _, _ => false
theorem checkR (k : Nat) {q : List Int} (h : Good q) : callN Fs 14 (k + 4) 4 [.fz (ivRow q)] = .ok (.fz .non, [.fz (ivRow q)]) [] := by
  cases h with | intro a h => cases h with | intro b h => cases h with | intro c h => cases h with | intro d h =>
  rw [h.1]
  exact check_ev k a b c d h.2
theorem two {P : List Int → List Int → Prop} (h : ∀ a b c d a' b' c' d', good a b c d → good a' b' c' d' → P [a, b, c, d] [a', b', c', d']) {p q : List Int} (hp : Good p) (hq : Good q) : P p q := by
  cases hp with | intro a h1 => cases h1 with | intro b h1 => cases h1 with | intro c h1 => cases h1 with | intro d h1 =>
  cases hq with | intro a' h2 => cases h2 with | intro b' h2 => cases h2 with | intro c' h2 => cases h2 with | intro d' h2 =>
  rw [h1.1, h2.1]
  exact h a b c d a' b' c' d' h1.2 h2.2
theorem meetsR (k : Nat) {p q : List Int} (hp : Good p) (hq : Good q) : callN Fs 14 (k + 1) 5 [.fz (ivRow p), .fz (ivRow q)] = .ok (.fz (.bl (fit p q)), [.fz (ivRow p), .fz (ivRow q)]) [] :=
  two (P := fun p q => callN Fs 14 (k + 1) 5 [.fz (ivRow p), .fz (ivRow q)] = .ok (.fz (.bl (fit p q)), [.fz (ivRow p), .fz (ivRow q)]) []) (fun a b c d a' b' c' d' _ _ => meets_ev k a b c d a' b' c' d') hp hq
theorem fitsR (k : Nat) {p q : List Int} (hp : Good p) (hq : Good q) : callN Fs 14 (k + 1) 16 [.fz (ivRow p), .fz (ivRow q)] = .ok (.fz (.bl (fit p q)), [.fz (ivRow p), .fz (ivRow q)]) [] :=
  two (P := fun p q => callN Fs 14 (k + 1) 16 [.fz (ivRow p), .fz (ivRow q)] = .ok (.fz (.bl (fit p q)), [.fz (ivRow p), .fz (ivRow q)]) []) (fun a b c d a' b' c' d' _ _ => fits_ev k a b c d a' b' c' d') hp hq
theorem easierR (k : Nat) {p q : List Int} (hp : Good p) (hq : Good q) : callN Fs 14 (k + 1) 18 [.fz (ivRow p), .fz (ivRow q)] = .ok (.fz (.bl (fit p q)), [.fz (ivRow p), .fz (ivRow q)]) [] :=
  two (P := fun p q => callN Fs 14 (k + 1) 18 [.fz (ivRow p), .fz (ivRow q)] = .ok (.fz (.bl (fit p q)), [.fz (ivRow p), .fz (ivRow q)]) []) (fun a b c d a' b' c' d' _ _ => easier_ev k a b c d a' b' c' d') hp hq
theorem fulfilsR (k : Nat) {p q : List Int} (hp : Good p) (hq : Good q) : callN Fs 14 (k + 5) 7 [.fz (ivRow p), .fz (ivRow q)] = .ok (.fz (.bl (fit p q)), [.fz (ivRow p), .fz (ivRow q)]) [] :=
  two (P := fun p q => callN Fs 14 (k + 5) 7 [.fz (ivRow p), .fz (ivRow q)] = .ok (.fz (.bl (fit p q)), [.fz (ivRow p), .fz (ivRow q)]) []) (fun a b c d a' b' c' d' h h' => fulfils_ev k a b c d a' b' c' d' h h') hp hq
theorem fulfilsLR (k : Nat) {p q : List Int} (hp : Good p) (hq : Good q) : callN Fs 14 (k + 5) 7 [.fz (.lst (p.map .int)), .fz (.lst (q.map .int))] = .ok (.fz (.bl (fit p q)), [.fz (.lst (p.map .int)), .fz (.lst (q.map .int))]) [] :=
  two (P := fun p q => callN Fs 14 (k + 5) 7 [.fz (.lst (p.map .int)), .fz (.lst (q.map .int))] = .ok (.fz (.bl (fit p q)), [.fz (.lst (p.map .int)), .fz (.lst (q.map .int))]) []) (fun a b c d a' b' c' d' h h' => fulfilsL_ev k a b c d a' b' c' d' h h') hp hq
theorem easyR (k : Nat) {p q : List Int} (hp : Good p) (hq : Good q) : callN Fs 14 (k + 5) 9 [.fz (ivRow p), .fz (ivRow q)] = .ok (.fz (.bl (fit p q)), [.fz (ivRow p), .fz (ivRow q)]) [] :=
  two (P := fun p q => callN Fs 14 (k + 5) 9 [.fz (ivRow p), .fz (ivRow q)] = .ok (.fz (.bl (fit p q)), [.fz (ivRow p), .fz (ivRow q)]) []) (fun a b c d a' b' c' d' h h' => easy_ev k a b c d a' b' c' d' h h') hp hq
/-! ### any_fulfils -/
theorem check_loop (k : Nat) (m L : SV) : ∀ (rs : List (List Int)) (s2 : SV), (∀ q ∈ rs, Good q) → ∃ s2', forL (.n 2) (sEx (dCall (callN Fs 14 (k + 4)) 4 (aOwn 2 aNil))) (rs.map ivRow) [m, L, s2] = .ok .nx [m, L, s2']
  | [], s2, _ => ⟨s2, rfl⟩
  | q :: rs, s2, h => by
    have ih := check_loop k m L rs (.fz (ivRow q)) fun p hp => h p (List.mem_cons_of_mem _ hp)
    cases ih with
    | intro s2' ih =>
      refine ⟨s2', ?_⟩
      simp only [forL, sSeq, sRet, sIf, sEx, sPas, sAsg, dIte, dAnd, dOr, dNot, dVar, tst, oE, dCmp, looked2, looked, oS, getE_0, getE_s, bind_ok, OV.at, SV.flat, SV.frz, dLst, lNil, eqR, metG_nil, clsS, retO_some, veq_int, veq_bl, veq_row, len4, dec4, fits, List.length_nil, nl, List.map_nil, List.all_nil, SV.frzL, Bool.and_self, truthR, truth, dTup, lCons, dSub, dBin, thaw, dBlt, osCons, osNil, atAll, blt0_lst, blt0_tup, blt15, binop, subS, subV, bindT, bindT.bindTs, setE_0, setE_s, List.length_cons, Bool.not_false, Bool.not_true, Nat.ble, dCon, cmpop, dCall, aOwn, aVal, aNil, called, owns, nodupN, called.go, List.map_cons, AV.sv, back, idx4_0, idx4_1, idx4_2, idx4_3, checkR k (h q List.mem_cons_self)]
      exact ih
theorem fit_comp (k : Nat) {m : List Int} (hm : Good m) (L : SV) : ∀ (rs : List (List Int)) (acc : List SV), (∀ q ∈ rs, Good q) → acc.length + rs.length ≤ 1000 →
    compL (.n 2) [2] (tAll T (callN Fs 14 (k + 1)) []) (dCall (callN Fs 14 (k + 1)) 5 (aOwn 0 (aOwn 2 aNil))) (rs.map ivRow) acc [.fz (ivRow m), L, .und] = .ok (acc ++ rs.map fun q => .fz (.bl (fit m q))) [.fz (ivRow m), L, .und]
  | [], acc, _, _ => by rw [List.map_nil, List.map_nil, List.append_nil]; rfl
  | q :: rs, acc, h, hl => by
    have ih := fit_comp k hm L rs (acc ++ [.fz (.bl (fit m q))]) (fun p hp => h p (List.mem_cons_of_mem _ hp)) (by simp at hl ⊢; omega)
    have hf : Nat.ble acc.length 1000000 = true := Nat.ble_eq.mpr (by omega)
    rw [List.append_assoc] at ih
    simp only [compL, sSeq, sRet, sIf, sEx, sPas, sAsg, dIte, dAnd, dOr, dNot, dVar, tst, oE, dCmp, looked2, looked, oS, getE_0, getE_s, bind_ok, OV.at, SV.flat, SV.frz, dLst, lNil, eqR, metG_nil, clsS, retO_some, veq_int, veq_bl, veq_row, len4, dec4, fits, List.length_nil, nl, List.map_nil, List.all_nil, SV.frzL, Bool.and_self, truthR, truth, dTup, lCons, dSub, dBin, thaw, dBlt, osCons, osNil, atAll, blt0_lst, blt0_tup, blt15, binop, subS, subV, bindT, bindT.bindTs, setE_0, setE_s, List.length_cons, Bool.not_false, Bool.not_true, Nat.ble, dCon, cmpop, dCall, aOwn, aVal, aNil, called, owns, nodupN, called.go, List.map_cons, AV.sv, back, idx4_0, idx4_1, idx4_2, idx4_3, tAll, Res.noX, wipe, meetsR k hm (h q List.mem_cons_self), hf] at ih ⊢
    exact ih
theorem allB_bl {α : Type} (f : α → Bool) : ∀ rs : List α, allB (rs.map fun q => IV.bl (f q)) = some (rs.map f)
  | [] => rfl
  | q :: rs => by
    rw [List.map_cons, allB, allB_bl f rs]
    rfl
theorem frzL_fz : ∀ xs : List IV, SV.frzL (xs.map .fz) = xs
  | [] => rfl
  | x :: xs => by rw [List.map_cons, SV.frzL, frzL_fz xs]; rfl
theorem any_ev (k : Nat) {m : List Int} (hm : Good m) {rs : List (List Int)} (h : ∀ q ∈ rs, Good q) (hl : rs.length ≤ 500) : callN Fs 14 (k + 5) 12 [.fz (ivRow m), .fz (.lst (rs.map ivRow))] = .ok (.fz (.bl (rs.any fun q => fit m q)), [.fz (ivRow m), .fz (.lst (rs.map ivRow))]) [] := by
  cases check_loop k (.fz (ivRow m)) (.fz (.lst (rs.map ivRow))) rs .und h with
  | intro s2' hlp =>
    have hc := fit_comp (k + 3) hm (.fz (.lst (rs.map ivRow))) rs [] h (by simp; omega)
    have ck := checkR k hm
    have rl := rowL_ev (k + 3) (rs.map ivRow)
    have ab := allB_bl (fun q => fit m q) rs
    rw [List.nil_append] at hc
    rw [callE d12 b12 [.fz (ivRow m), .fz (.lst (rs.map ivRow)), .und] rfl rfl rfl rfl rfl]
    unfold b12
    simp only [sSeq, sRet, sIf, sEx, sPas, sAsg, dIte, dAnd, dOr, dNot, dVar, tst, oE, dCmp, looked2, looked, oS, getE_0, getE_s, bind_ok, OV.at, SV.flat, SV.frz, dLst, lNil, eqR, metG_nil, clsS, retO_some, veq_int, veq_bl, veq_row, len4, dec4, fits, List.length_nil, nl, List.map_nil, List.all_nil, SV.frzL, Bool.and_self, truthR, truth, dTup, lCons, dSub, dBin, thaw, dBlt, osCons, osNil, atAll, blt0_lst, blt0_tup, blt15, binop, subS, subV, bindT, bindT.bindTs, setE_0, setE_s, List.length_cons, Bool.not_false, Bool.not_true, Nat.ble, dCon, cmpop, dCall, aOwn, aVal, aNil, called, owns, nodupN, called.go, List.map_cons, AV.sv, back, idx4_0, idx4_1, idx4_2, idx4_3, ck, rl, sFr, iOne, gone, itV, hlp, dLc, wipe, hc]
    have e2 : bltV 3 [.lst (SV.frzL (rs.map fun q => SV.fz (.bl (fit m q))))] = some (.fz (.bl (rs.any fun q => fit m q))) := by
      have e3 : (rs.map fun q => SV.fz (.bl (fit m q))) = (rs.map fun q => IV.bl (fit m q)).map SV.fz := by rw [List.map_map]; rfl
      rw [e3, frzL_fz]
      show (allB _).map _ = _
      rw [ab, Option.map_some, List.any_map]
      rfl
    simp only [e2, sSeq, sRet, sIf, sEx, sPas, sAsg, dIte, dAnd, dOr, dNot, dVar, tst, oE, dCmp, looked2, looked, oS, getE_0, getE_s, bind_ok, OV.at, SV.flat, SV.frz, dLst, lNil, eqR, metG_nil, clsS, retO_some, veq_int, veq_bl, veq_row, len4, dec4, fits, List.length_nil, nl, List.map_nil, List.all_nil, SV.frzL, Bool.and_self, truthR, truth, dTup, lCons, dSub, dBin, thaw, dBlt, osCons, osNil, atAll, blt0_lst, blt0_tup, blt15, binop, subS, subV, bindT, bindT.bindTs, setE_0, setE_s, List.length_cons, Bool.not_false, Bool.not_true, Nat.ble, dCon, cmpop, dCall, aOwn, aVal, aNil, called, owns, nodupN, called.go, List.map_cons, AV.sv, back, idx4_0, idx4_1, idx4_2, idx4_3]
    rfl
end LW

end
section
set_option maxRecDepth 100000
set_option maxHeartbeats 1000000
namespace LW
open Vy
theorem good_ind {P : List Int → Prop} (h : ∀ a b c d, good a b c d → P [a, b, c, d]) {q : List Int} (hq : Good q) : P q := by
  cases hq with | intro a h1 => cases h1 with | intro b h1 => cases h1 with | intro c h1 => cases h1 with | intro d h1 =>
  rw [h1.1]
  exact h a b c d h1.2
/-! ### rows in order -/
def S (rs : List (List Int)) : List (List Int) := (unlike rs).mergeSort leRow
theorem S_mem {rs : List (List Int)} {q : List Int} : q ∈ S rs ↔ q ∈ rs := List.mem_mergeSort.trans unlike_mem
theorem S_nodup {rs : List (List Int)} : (S rs).Nodup := (List.mergeSort_perm _ _).nodup_iff.mpr unlike_nodup
theorem S_pw {rs : List (List Int)} : (S rs).Pairwise fun a b => a ≤ b := (List.pairwise_mergeSort leRow_trans leRow_total _).imp fun h => of_decide_eq_true h
theorem S_len {rs : List (List Int)} : (S rs).length ≤ rs.length := by
  unfold S
  rw [List.length_mergeSort]
  induction rs with
  | nil => exact Nat.le_refl _
  | cons q rs ih =>
    unfold unlike
    split
    · exact Nat.le_succ_of_le ih
    · exact Nat.succ_le_succ ih
theorem S_of {L rs : List (List Int)} (nd : L.Nodup) (m : ∀ q, q ∈ L ↔ q ∈ rs) (pw : L.Pairwise fun a b => a ≤ b) : S rs = L := (sorted_one nd m pw).symm
theorem encL_ints : ∀ k : List Int, encL (k.map .int) = k.map PySem.PyData.int
  | [] => by rw [List.map_nil, encL, List.map_nil]
  | i :: k => by rw [List.map_cons, encL, encL_ints k, encV, List.map_cons]
theorem le_row (a b : List Int) : leRow a b = PySem.W.dataLe false encV (ivRow a) (ivRow b) := by
  show decide (a ≤ b) = (!PySem.W.dataLt (encV (ivRow b)) (encV (ivRow a)))
  unfold ivRow
  rw [encV, encV, encL_ints, encL_ints, PySem.W.dataLt_tuple]
  show _ = (!PySem.W.rowLt (b.map .int) (a.map .int))
  rw [PySem.W.dataLt_ints, ← decide_not]
  exact decide_eq_decide.mpr List.not_lt.symm
theorem sortV_rows {ks : List (List Int)} (h : ∀ q ∈ ks, Good q) : sortV (ks.map ivRow) = some ((ks.mergeSort leRow).map ivRow) := by
  have ok : srtOk (ks.map ivRow) = true := by
    unfold srtOk
    have a1 : ((ks.map ivRow).all fun a => (ks.map ivRow).all fun b => alkN 9 a b) = true := List.all_eq_true.mpr fun a ha => List.all_eq_true.mpr fun b hb => by
      cases List.mem_map.mp ha with | intro p hp =>
      cases List.mem_map.mp hb with | intro q hq =>
      rw [← hp.2, ← hq.2]
      exact two (P := fun p q => alkN 9 (ivRow p) (ivRow q) = true) (fun a b c d a' b' c' d' _ _ => by kernel_rfl) (h p hp.1) (h q hq.1)
    have a2 : ((ks.map ivRow).all tupNe) = true := List.all_eq_true.mpr fun a ha => by
      cases List.mem_map.mp ha with | intro p hp =>
      rw [← hp.2]
      exact good_ind (P := fun p => tupNe (ivRow p) = true) (fun a b c d _ => rfl) (h p hp.1)
    rw [a1, a2]
    rfl
  unfold sortV
  rw [ok]
  exact congrArg some (List.map_mergeSort fun a _ b _ => le_row a b).symm
/-! ### equality of rows -/
theorem ieqR {p q : List Int} (hp : Good p) (hq : Good q) : ieq (ivRow p) (ivRow q) = decide (p = q) :=
  two (P := fun p q => ieq (ivRow p) (ivRow q) = decide (p = q)) (fun a b c d a' b' c' d' _ _ => by simp [ivRow, ieq, ieqs, Bool.decide_and]) hp hq
theorem veqR {p q : List Int} (hp : Good p) (hq : Good q) : veq (ivRow p) (ivRow q) = some (decide (p = q)) :=
  two (P := fun p q => veq (ivRow p) (ivRow q) = some (decide (p = q))) (fun a b c d a' b' c' d' _ _ => by
    show veq (rw4 a b c d) (rw4 a' b' c' d') = _
    rw [veq_row]
    simp [Bool.decide_and]) hp hq
/-! ### the dict of rows -/
def addAll : List (List Int) → List (List Int) → List (List Int)
  | ks, [] => ks
  | ks, q :: rs => addAll (if q ∈ ks then ks else ks ++ [q]) rs
theorem addAll_nodup : ∀ (rs ks : List (List Int)), ks.Nodup → (addAll ks rs).Nodup
  | [], ks, h => h
  | q :: rs, ks, h => by
    unfold addAll
    refine addAll_nodup rs _ ?_
    split
    · exact h
    · rename_i n
      exact List.nodup_append.mpr ⟨h, by simp, fun a ha b hb e => n (by rw [List.mem_singleton.mp hb] at e; rw [← e]; exact ha)⟩
theorem addAll_mem {x : List Int} : ∀ (rs ks : List (List Int)), x ∈ addAll ks rs ↔ x ∈ ks ∨ x ∈ rs
  | [], ks => by simp [addAll]
  | q :: rs, ks => by
    unfold addAll
    rw [addAll_mem rs]
    split
    · rename_i n
      simp only [List.mem_cons]
      exact ⟨fun z => z.elim .inl fun z => .inr (.inr z), fun z => z.elim .inl fun z => z.elim (fun e => .inl (by rw [e]; exact n)) .inr⟩
    · simp only [List.mem_append, List.mem_cons, List.not_mem_nil, or_false, or_assoc]
abbrev kT (q : List Int) : IV × SV := (ivRow q, .fz (.bl true))
theorem dhas_rows {q : List Int} (hq : Good q) : ∀ {ks : List (List Int)}, (∀ p ∈ ks, Good p) → dhas (ks.map kT) (ivRow q) = decide (q ∈ ks)
  | [], _ => by simp [dhas]
  | p :: ks, h => by
    rw [List.map_cons, dhas, ieqR (h p List.mem_cons_self) hq, dhas_rows hq fun r hr => h r (List.mem_cons_of_mem _ hr)]
    by_cases e : p = q
    · subst e; simp
    · rw [decide_eq_false e]
      have : (q ∈ p :: ks) ↔ q ∈ ks := by rw [List.mem_cons]; exact ⟨fun z => z.elim (fun z => absurd z.symm e) id, .inr⟩
      exact decide_eq_decide.mpr this.symm
theorem drep_rows {q : List Int} (hq : Good q) : ∀ {ks : List (List Int)}, (∀ p ∈ ks, Good p) → drep (ks.map kT) (ivRow q) (.fz (.bl true)) = ks.map kT
  | [], _ => rfl
  | p :: ks, h => by
    rw [List.map_cons, drep]
    split
    · rfl
    · rw [drep_rows hq fun r hr => h r (List.mem_cons_of_mem _ hr)]
theorem keyB_row {q : List Int} (hq : Good q) : keyB (ivRow q) = true := good_ind (P := fun q => keyB (ivRow q) = true) (fun a b c d _ => by kernel_rfl) hq
theorem dput_rows {q : List Int} (hq : Good q) {ks : List (List Int)} (h : ∀ p ∈ ks, Good p) : dput (ks.map kT) (ivRow q) (.fz (.bl true)) = some ((if q ∈ ks then ks else ks ++ [q]).map kT) := by
  have kd : kindOk ((ks.map kT).map (·.1)) (ivRow q) = true := by
    cases ks with
    | nil => exact keyB_row hq
    | cons p ks =>
      show (keyB (ivRow q) && (keyT (ivRow p) == keyT (ivRow q))) = true
      rw [keyB_row hq]
      rfl
  unfold dput
  rw [kd, dhas_rows hq h]
  by_cases e : q ∈ ks
  · rw [decide_eq_true e, if_pos e]
    exact congrArg some (drep_rows hq h)
  · rw [decide_eq_false e, if_neg e, List.map_append]
    rfl
theorem addOne_good {q : List Int} {ks : List (List Int)} (hq : Good q) (h : ∀ p ∈ ks, Good p) : ∀ p ∈ (if q ∈ ks then ks else ks ++ [q]), Good p := by
  split
  · exact h
  · intro p hp
    rcases List.mem_append.mp hp with z | z
    · exact h p z
    · rw [List.mem_singleton.mp z]; exact hq
theorem addOne_len {q : List Int} {ks : List (List Int)} : (if q ∈ ks then ks else ks ++ [q]).length ≤ ks.length + 1 := by
  split
  · omega
  · simp
theorem dict_comp (C : Vy.Callee) (s0 s1 s3 : SV) : ∀ (rs ks : List (List Int)), (∀ q ∈ rs, Good q) → (∀ q ∈ ks, Good q) → ks.length + rs.length ≤ 1000 →
    compD (.n 2) [2] (tAll T C []) (dVar 2) (dCon (.bl true)) (rs.map ivRow) (ks.map kT) [s0, s1, .und, s3] = .ok ((addAll ks rs).map kT) [s0, s1, .und, s3]
  | [], ks, _, _, _ => rfl
  | q :: rs, ks, h, hk, hl => by
    have hq := h q List.mem_cons_self
    have ll := addOne_len (q := q) (ks := ks)
    have ih := dict_comp C s0 s1 s3 rs (if q ∈ ks then ks else ks ++ [q]) (fun p hp => h p (List.mem_cons_of_mem _ hp)) (addOne_good hq hk) (by simp at hl; omega)
    have hf : Nat.ble (ks.map kT).length 1000000 = true := Nat.ble_eq.mpr (by rw [List.length_map]; omega)
    have dp := dput_rows hq hk
    simp only [compD, sSeq, sRet, sIf, sEx, sPas, sAsg, dIte, dAnd, dOr, dNot, dVar, tst, oE, dCmp, looked2, looked, oS, getE_0, getE_s, bind_ok, OV.at, SV.flat, SV.frz, dLst, lNil, eqR, metG_nil, clsS, retO_some, veq_int, veq_bl, veq_row, len4, dec4, fits, List.length_nil, nl, List.map_nil, List.all_nil, SV.frzL, Bool.and_self, truthR, truth, dTup, lCons, dSub, dBin, thaw, dBlt, osCons, osNil, atAll, blt0_lst, blt0_tup, blt15, binop, subS, subV, bindT, bindT.bindTs, setE_0, setE_s, List.length_cons, Bool.not_false, Bool.not_true, Nat.ble, dCon, cmpop, dCall, aOwn, aVal, aNil, called, owns, nodupN, called.go, List.map_cons, AV.sv, back, idx4_0, idx4_1, idx4_2, idx4_3, tAll, Res.noX, wipe, hf, dp] at ih ⊢
    rw [addAll]
    exact ih
end LW

end
section
set_option maxRecDepth 100000
set_option maxHeartbeats 1000000
namespace LW
open Vy
/-- nothing else is harder -/
def least (ss rs : List (List Int)) : List (List Int) := ss.filter fun q => !(rs.any fun o => !decide (o = q) && fit q o)
theorem frzL_rows : ∀ ks : List (List Int), SV.frzL (ks.map fun q => SV.fz (ivRow q)) = ks.map ivRow
  | [] => rfl
  | q :: ks => by rw [List.map_cons, SV.frzL, frzL_rows ks]; rfl
theorem nl_rows (ks : List (List Int)) : nl (ks.map ivRow) = .ol (ks.map fun q => SV.fz (ivRow q)) := by
  unfold nl
  rw [List.map_map]
  rfl
theorem frzD_rows : ∀ ks : List (List Int), (SV.frzD (ks.map kT)).map (·.1) = ks.map ivRow
  | [] => rfl
  | q :: ks => by
    rw [List.map_cons, SV.frzD, List.map_cons, frzD_rows ks]
    rfl
theorem blt7_rows {rs : List (List Int)} (h : ∀ q ∈ rs, Good q) : bltV 7 [.dct (SV.frzD ((addAll [] rs).map kT))] = some (.ol ((S rs).map fun q => SV.fz (ivRow q))) := by
  have hg : ∀ q ∈ addAll [] rs, Good q := fun q hq => h q (((addAll_mem rs []).mp hq).elim (fun z => nomatch z) id)
  have e : (addAll [] rs).mergeSort leRow = S rs := (S_of ((List.mergeSort_perm _ _).nodup_iff.mpr (addAll_nodup rs [] .nil)) (fun q => List.mem_mergeSort.trans ((addAll_mem rs []).trans ⟨fun z => z.elim (fun z => nomatch z) id, .inr⟩))
    ((List.pairwise_mergeSort leRow_trans leRow_total _).imp fun h => of_decide_eq_true h)).symm
  show (sortV ((SV.frzD ((addAll [] rs).map kT)).map (·.1))).map nl = _
  rw [frzD_rows, sortV_rows hg, e, Option.map_some, nl_rows]
theorem inner_comp (k : Nat) {q : List Int} (hq : Good q) (s0 s1 : SV) : ∀ (os : List (List Int)) (acc : List SV), (∀ o ∈ os, Good o) → acc.length + os.length ≤ 1000 →
    compL (.n 3) [3] (tAll T (callN Fs 14 (k + 1)) []) (dAnd (dCmp T (callN Fs 14 (k + 1)) 1 (oS 3) (oS 2)) (dCall (callN Fs 14 (k + 1)) 5 (aOwn 2 (aOwn 3 aNil)))) (os.map ivRow) acc [s0, s1, .fz (ivRow q), .und] =
      .ok (acc ++ os.map fun o => .fz (.bl (!decide (o = q) && fit q o))) [s0, s1, .fz (ivRow q), .und]
  | [], acc, _, _ => by rw [List.map_nil, List.map_nil, List.append_nil]; rfl
  | o :: os, acc, h, hl => by
    have ho := h o List.mem_cons_self
    have ih := inner_comp k hq s0 s1 os (acc ++ [.fz (.bl (!decide (o = q) && fit q o))]) (fun p hp => h p (List.mem_cons_of_mem _ hp)) (by simp at hl ⊢; omega)
    have hf : Nat.ble acc.length 1000000 = true := Nat.ble_eq.mpr (by omega)
    rw [List.append_assoc] at ih
    cases e : decide (o = q) with
    | true =>
      rw [e] at ih
      simp only [compL, sSeq, sRet, sIf, sEx, sPas, sAsg, dIte, dAnd, dOr, dNot, dVar, tst, oE, dCmp, looked2, looked, oS, getE_0, getE_s, bind_ok, OV.at, SV.flat, SV.frz, dLst, lNil, eqR, metG_nil, clsS, retO_some, veq_int, veq_bl, veq_row, len4, dec4, fits, List.length_nil, nl, List.map_nil, List.all_nil, SV.frzL, Bool.and_self, truthR, truth, dTup, lCons, dSub, dBin, thaw, dBlt, osCons, osNil, atAll, blt0_lst, blt0_tup, blt15, binop, subS, subV, bindT, bindT.bindTs, setE_0, setE_s, List.length_cons, Bool.not_false, Bool.not_true, Nat.ble, dCon, cmpop, dCall, aOwn, aVal, aNil, called, owns, nodupN, called.go, List.map_cons, AV.sv, back, idx4_0, idx4_1, idx4_2, idx4_3, tAll, Res.noX, wipe, meetsR k hq ho, hf, veqR ho hq, e, Bool.false_and] at ih ⊢
      exact ih
    | false =>
      rw [e] at ih
      simp only [compL, sSeq, sRet, sIf, sEx, sPas, sAsg, dIte, dAnd, dOr, dNot, dVar, tst, oE, dCmp, looked2, looked, oS, getE_0, getE_s, bind_ok, OV.at, SV.flat, SV.frz, dLst, lNil, eqR, metG_nil, clsS, retO_some, veq_int, veq_bl, veq_row, len4, dec4, fits, List.length_nil, nl, List.map_nil, List.all_nil, SV.frzL, Bool.and_self, truthR, truth, dTup, lCons, dSub, dBin, thaw, dBlt, osCons, osNil, atAll, blt0_lst, blt0_tup, blt15, binop, subS, subV, bindT, bindT.bindTs, setE_0, setE_s, List.length_cons, Bool.not_false, Bool.not_true, Nat.ble, dCon, cmpop, dCall, aOwn, aVal, aNil, called, owns, nodupN, called.go, List.map_cons, AV.sv, back, idx4_0, idx4_1, idx4_2, idx4_3, tAll, Res.noX, wipe, meetsR k hq ho, hf, veqR ho hq, e, Bool.true_and] at ih ⊢
      exact ih
theorem blt3_rows {α : Type} (f : α → Bool) (rs : List α) : bltV 3 [.lst (SV.frzL (rs.map fun q => SV.fz (.bl (f q))))] = some (.fz (.bl (rs.any f))) := by
  have e3 : (rs.map fun q => SV.fz (.bl (f q))) = (rs.map fun q => IV.bl (f q)).map SV.fz := by rw [List.map_map]; rfl
  rw [e3, frzL_fz]
  show (allB _).map _ = _
  rw [allB_bl, Option.map_some, List.any_map]
  rfl
theorem compL_true {t : Tg} {own : List Nat} {ok : Env → Res Bool} {f : Den} {x : IV} {xs : List IV} {acc : List SV} {e e1 e2 e3 : Env} {y : SV} (h1 : bindT 20 t x e = some e1) (h2 : ok e1 = .ok true e2) (h3 : f e2 = .ok y e3) (h4 : acc.length ≤ 1000000) :
    compL t own ok f (x :: xs) acc e = compL t own ok f xs (acc ++ [y]) (wipe own e3) := by
  rw [compL, h1]
  try dsimp only
  rw [h2, Res.noX, bind_ok]
  try dsimp only
  rw [h3, Res.noX, bind_ok]
  try dsimp only
  rw [show fits acc.length = true from Nat.ble_eq.mpr h4]
theorem compL_false {t : Tg} {own : List Nat} {ok : Env → Res Bool} {f : Den} {x : IV} {xs : List IV} {acc : List SV} {e e1 e2 : Env} (h1 : bindT 20 t x e = some e1) (h2 : ok e1 = .ok false e2) :
    compL t own ok f (x :: xs) acc e = compL t own ok f xs acc (wipe own e2) := by
  rw [compL, h1]
  try dsimp only
  rw [h2, Res.noX, bind_ok]
def condL (C : Vy.Callee) : ODen := oE (dNot T C (oE (dBlt T C 3 (osCons (oE (dLc T C (dAnd (dCmp T C 1 (oS 3) (oS 2)) (dCall C 5 (aOwn 2 (aOwn 3 aNil)))) (.n 3) (iOne 0 (oS 1)) [] [3])) osNil))))
theorem cond_ev (k : Nat) (s0 : SV) {SS : List (List Int)} (hS : ∀ o ∈ SS, Good o) (hL : SS.length ≤ 900) {q : List Int} (hq : Good q) :
    tAll T (callN Fs 14 (k + 1)) [condL (callN Fs 14 (k + 1))] [s0, .fz (.lst (SS.map ivRow)), .fz (ivRow q), .und] = .ok (!(SS.any fun o => !decide (o = q) && fit q o)) [s0, .fz (.lst (SS.map ivRow)), .fz (ivRow q), .und] := by
  have ic := inner_comp k hq s0 (.fz (.lst (SS.map ivRow))) SS [] hS (by simp; omega)
  rw [List.nil_append] at ic
  have b3 := blt3_rows (fun o => !decide (o = q) && fit q o) SS
  simp only [tAll] at ic ⊢
  simp only [sSeq, sRet, sIf, sEx, sPas, sAsg, dIte, dAnd, dOr, dNot, dVar, tst, oE, dCmp, looked2, looked, oS, getE_0, getE_s, bind_ok, OV.at, SV.flat, SV.frz, dLst, lNil, eqR, metG_nil, clsS, retO_some, veq_int, veq_bl, veq_row, len4, dec4, fits, List.length_nil, nl, List.map_nil, List.all_nil, SV.frzL, Bool.and_self, truthR, truth, dTup, lCons, dSub, dBin, thaw, dBlt, osCons, osNil, atAll, blt0_lst, blt0_tup, blt15, binop, subS, subV, bindT, bindT.bindTs, setE_0, setE_s, List.length_cons, Bool.not_false, Bool.not_true, Nat.ble, dCon, cmpop, dCall, aOwn, aVal, aNil, called, owns, nodupN, called.go, List.map_cons, AV.sv, back, idx4_0, idx4_1, idx4_2, idx4_3, condL, tAll, wipe, dLc, iOne, gone, itV] at ic ⊢
  simp only [ic, b3, sSeq, sRet, sIf, sEx, sPas, sAsg, dIte, dAnd, dOr, dNot, dVar, tst, oE, dCmp, looked2, looked, oS, getE_0, getE_s, bind_ok, OV.at, SV.flat, SV.frz, dLst, lNil, eqR, metG_nil, clsS, retO_some, veq_int, veq_bl, veq_row, len4, dec4, fits, List.length_nil, nl, List.map_nil, List.all_nil, SV.frzL, Bool.and_self, truthR, truth, dTup, lCons, dSub, dBin, thaw, dBlt, osCons, osNil, atAll, blt0_lst, blt0_tup, blt15, binop, subS, subV, bindT, bindT.bindTs, setE_0, setE_s, List.length_cons, Bool.not_false, Bool.not_true, Nat.ble, dCon, cmpop, dCall, aOwn, aVal, aNil, called, owns, nodupN, called.go, List.map_cons, AV.sv, back, idx4_0, idx4_1, idx4_2, idx4_3]
  cases SS.any (fun o => !decide (o = q) && fit q o) <;> rfl
theorem outer_comp (k : Nat) (s0 : SV) {SS : List (List Int)} (hS : ∀ o ∈ SS, Good o) (hL : SS.length ≤ 900) : ∀ (ss : List (List Int)) (acc : List SV), (∀ o ∈ ss, Good o) → acc.length + ss.length ≤ 1000 →
    compL (.n 2) [2] (tAll T (callN Fs 14 (k + 1)) [condL (callN Fs 14 (k + 1))]) (dVar 2) (ss.map ivRow) acc [s0, .fz (.lst (SS.map ivRow)), .und, .und] =
      .ok (acc ++ (least ss SS).map fun q => .fz (ivRow q)) [s0, .fz (.lst (SS.map ivRow)), .und, .und]
  | [], acc, _, _ => by rw [List.map_nil, least, List.filter_nil, List.map_nil, List.append_nil]; rfl
  | q :: ss, acc, h, hl => by
    have hq := h q List.mem_cons_self
    have ce := cond_ev k s0 hS hL hq
    have hl' : acc.length + ss.length + 1 ≤ 1000 := by simp at hl; omega
    rw [List.map_cons]
    cases e : SS.any (fun o => !decide (o = q) && fit q o) with
    | true =>
      have el : least (q :: ss) SS = least ss SS := by
        unfold least
        rw [List.filter_cons, e]
        rfl
      rw [e] at ce
      rw [el, compL_false (e1 := [s0, .fz (.lst (SS.map ivRow)), .fz (ivRow q), .und]) rfl ce]
      exact outer_comp k s0 hS hL ss acc (fun p hp => h p (List.mem_cons_of_mem _ hp)) (by omega)
    | false =>
      have el : least (q :: ss) SS = q :: least ss SS := by
        unfold least
        rw [List.filter_cons, e]
        rfl
      rw [e] at ce
      rw [el, compL_true (acc := acc) (f := dVar 2) (e1 := [s0, .fz (.lst (SS.map ivRow)), .fz (ivRow q), .und]) (e3 := [s0, .fz (.lst (SS.map ivRow)), .fz (ivRow q), .und]) (y := .fz (ivRow q)) rfl ce rfl (by omega)]
      exact (outer_comp k s0 hS hL ss (acc ++ [.fz (ivRow q)]) (fun p hp => h p (List.mem_cons_of_mem _ hp)) (by simp; omega)).trans (by rw [List.append_assoc] <;> rfl)
theorem least_ev (k : Nat) {rs : List (List Int)} (h : ∀ q ∈ rs, Good q) (hl : rs.length ≤ 500) : callN Fs 14 (k + 2) 11 [.fz (.lst (rs.map ivRow))] = .ok (.ol ((least (S rs) (S rs)).map fun q => .fz (ivRow q)), [.fz (.lst (rs.map ivRow))]) [] := by
  have gS : ∀ q ∈ S rs, Good q := fun q hq => h q (S_mem.mp hq)
  have lS := S_len (rs := rs)
  have dc := dict_comp (callN Fs 14 (k + 1)) (.fz (.lst (rs.map ivRow))) .und .und rs [] h (fun _ z => nomatch z) (by simp; omega)
  have oc := outer_comp k (.fz (.lst (rs.map ivRow))) gS (by omega) (S rs) [] gS (by simp; omega)
  have b7 := blt7_rows h
  have fr := frzL_rows (S rs)
  rw [List.nil_append] at oc
  rw [List.map_nil] at dc
  have st1 : sAsg (.n 1) (dBlt T (callN Fs 14 (k + 1)) 7 (osCons (oE (dDc T (callN Fs 14 (k + 1)) (dVar 2) (dCon (.bl true)) (.n 2) (iOne 0 (oS 0)) [] [2])) osNil)) [.fz (.lst (rs.map ivRow)), .und, .und, .und] = .ok .nx [.fz (.lst (rs.map ivRow)), .ol ((S rs).map fun q => .fz (ivRow q)), .und, .und] := by
    simp only [sSeq, sRet, sIf, sEx, sPas, sAsg, dIte, dAnd, dOr, dNot, dVar, tst, oE, dCmp, looked2, looked, oS, getE_0, getE_s, bind_ok, OV.at, SV.flat, SV.frz, dLst, lNil, eqR, metG_nil, clsS, retO_some, veq_int, veq_bl, veq_row, len4, dec4, fits, List.length_nil, nl, List.map_nil, List.all_nil, SV.frzL, Bool.and_self, truthR, truth, dTup, lCons, dSub, dBin, thaw, dBlt, osCons, osNil, atAll, blt0_lst, blt0_tup, blt15, binop, subS, subV, bindT, bindT.bindTs, setE_0, setE_s, List.length_cons, Bool.not_false, Bool.not_true, Nat.ble, dCon, cmpop, dCall, aOwn, aVal, aNil, called, owns, nodupN, called.go, List.map_cons, AV.sv, back, idx4_0, idx4_1, idx4_2, idx4_3, dDc, iOne, gone, itV, wipe, dc, b7]
  have st2 : sRet (dLc T (callN Fs 14 (k + 1)) (dVar 2) (.n 2) (iOne 0 (oS 1)) [condL (callN Fs 14 (k + 1))] [2]) [.fz (.lst (rs.map ivRow)), .ol ((S rs).map fun q => .fz (ivRow q)), .und, .und] = .ok (.ret (.ol ((least (S rs) (S rs)).map fun q => .fz (ivRow q)))) [.fz (.lst (rs.map ivRow)), .fz (.lst ((S rs).map ivRow)), .und, .und] := by
    have it : iOne 0 (oS 1) [.fz (.lst (rs.map ivRow)), .ol ((S rs).map fun q => .fz (ivRow q)), .und, .und] = .ok ((S rs).map ivRow) [.fz (.lst (rs.map ivRow)), .fz (.lst ((S rs).map ivRow)), .und, .und] := by
      simp only [sSeq, sRet, sIf, sEx, sPas, sAsg, dIte, dAnd, dOr, dNot, dVar, tst, oE, dCmp, looked2, looked, oS, getE_0, getE_s, bind_ok, OV.at, SV.flat, SV.frz, dLst, lNil, eqR, metG_nil, clsS, retO_some, veq_int, veq_bl, veq_row, len4, dec4, fits, List.length_nil, nl, List.map_nil, List.all_nil, SV.frzL, Bool.and_self, truthR, truth, dTup, lCons, dSub, dBin, thaw, dBlt, osCons, osNil, atAll, blt0_lst, blt0_tup, blt15, binop, subS, subV, bindT, bindT.bindTs, setE_0, setE_s, List.length_cons, Bool.not_false, Bool.not_true, Nat.ble, dCon, cmpop, dCall, aOwn, aVal, aNil, called, owns, nodupN, called.go, List.map_cons, AV.sv, back, idx4_0, idx4_1, idx4_2, idx4_3, iOne, gone, itV, fr]
    unfold sRet dLc
    rw [it, bind_ok]
    rw [show wipe [2] [.fz (.lst (rs.map ivRow)), .fz (.lst ((S rs).map ivRow)), .und, .und] = [.fz (.lst (rs.map ivRow)), .fz (.lst ((S rs).map ivRow)), .und, .und] from rfl, oc]
    rfl
  rw [callE d11 b11 [.fz (.lst (rs.map ivRow)), .und, .und, .und] rfl rfl rfl rfl rfl]
  show ended d11 _ (sSeq (sAsg (.n 1) _) _ _) = _
  unfold sSeq
  rw [st1, bind_ok]
  show ended d11 _ (sRet (dLc T (callN Fs 14 (k + 1)) (dVar 2) (.n 2) (iOne 0 (oS 1)) [condL (callN Fs 14 (k + 1))] [2]) _) = _
  rw [st2]
  rfl
end LW

end
section
set_option maxRecDepth 100000
set_option maxHeartbeats 1000000
namespace LW
open Vy
theorem check_loop1 (k : Nat) (L : SV) : ∀ (rs : List (List Int)) (s1 : SV), (∀ q ∈ rs, Good q) → ∃ s1', forL (.n 1) (sEx (dCall (callN Fs 14 (k + 4)) 4 (aOwn 1 aNil))) (rs.map ivRow) [L, s1] = .ok .nx [L, s1']
  | [], s2, _ => ⟨s2, rfl⟩
  | q :: rs, s2, h => by
    have ih := check_loop1 k L rs (.fz (ivRow q)) fun p hp => h p (List.mem_cons_of_mem _ hp)
    cases ih with
    | intro s2' ih =>
      refine ⟨s2', ?_⟩
      simp only [forL, sSeq, sRet, sIf, sEx, sPas, sAsg, dIte, dAnd, dOr, dNot, dVar, tst, oE, dCmp, looked2, looked, oS, getE_0, getE_s, bind_ok, OV.at, SV.flat, SV.frz, dLst, lNil, eqR, metG_nil, clsS, retO_some, veq_int, veq_bl, veq_row, len4, dec4, fits, List.length_nil, nl, List.map_nil, List.all_nil, SV.frzL, Bool.and_self, truthR, truth, dTup, lCons, dSub, dBin, thaw, dBlt, osCons, osNil, atAll, blt0_lst, blt0_tup, blt15, binop, subS, subV, bindT, bindT.bindTs, setE_0, setE_s, List.length_cons, Bool.not_false, Bool.not_true, Nat.ble, dCon, cmpop, dCall, aOwn, aVal, aNil, called, owns, nodupN, called.go, List.map_cons, AV.sv, back, idx4_0, idx4_1, idx4_2, idx4_3, List.any_nil, Bool.and_true, checkR k (h q List.mem_cons_self)]
      exact ih
theorem tup_comp (C : Vy.Callee) (L : SV) : ∀ (rs : List (List Int)) (acc : List SV), acc.length + rs.length ≤ 1000 →
    compL (.n 1) [1] (tAll T C []) (dBlt T C 4 (osCons (oS 1) osNil)) (rs.map ivRow) acc [L, .und] = .ok (acc ++ rs.map fun q => .fz (ivRow q)) [L, .und]
  | [], acc, _ => by rw [List.map_nil, List.map_nil, List.append_nil]; rfl
  | q :: rs, acc, hl => by
    have hl' : acc.length + rs.length + 1 ≤ 1000 := by simp at hl; omega
    rw [List.map_cons, compL_true (ok := tAll T C []) (acc := acc) (f := dBlt T C 4 (osCons (oS 1) osNil)) (e1 := [L, .fz (ivRow q)]) (e2 := [L, .fz (ivRow q)]) (e3 := [L, .fz (ivRow q)]) (y := .fz (ivRow q)) rfl rfl rfl (by omega)]
    exact (tup_comp C L rs (acc ++ [.fz (ivRow q)]) (by simp; omega)).trans (by rw [List.append_assoc] <;> rfl)
theorem leastOf_ev (k : Nat) {rs : List (List Int)} (h : ∀ q ∈ rs, Good q) (hl : rs.length ≤ 500) : callN Fs 14 (k + 5) 10 [.fz (.lst (rs.map ivRow))] = .ok (.ol ((least (S rs) (S rs)).map fun q => .fz (ivRow q)), [.fz (.lst (rs.map ivRow))]) [] := by
  cases check_loop1 k (.fz (.lst (rs.map ivRow))) rs .und h with
  | intro s1 hlp =>
    have tc := tup_comp (callN Fs 14 (k + 4)) (.fz (.lst (rs.map ivRow))) rs [] (by simp; omega)
    have lv := least_ev (k + 2) h hl
    have rl := rowL_ev (k + 3) (rs.map ivRow)
    have fr := frzL_rows rs
    rw [List.nil_append] at tc
    have st1 : sIf T (callN Fs 14 (k + 4)) (oE (dNot T (callN Fs 14 (k + 4)) (oE (dCall (callN Fs 14 (k + 4)) 2 (aOwn 0 aNil))))) (sRs xs 1 (lCons (dVar 0) lNil)) sPas [.fz (.lst (rs.map ivRow)), .und] = .ok .nx [.fz (.lst (rs.map ivRow)), .und] := by
      simp only [sSeq, sRet, sIf, sEx, sPas, sAsg, dIte, dAnd, dOr, dNot, dVar, tst, oE, dCmp, looked2, looked, oS, getE_0, getE_s, bind_ok, OV.at, SV.flat, SV.frz, dLst, lNil, eqR, metG_nil, clsS, retO_some, veq_int, veq_bl, veq_row, len4, dec4, fits, List.length_nil, nl, List.map_nil, List.all_nil, SV.frzL, Bool.and_self, truthR, truth, dTup, lCons, dSub, dBin, thaw, dBlt, osCons, osNil, atAll, blt0_lst, blt0_tup, blt15, binop, subS, subV, bindT, bindT.bindTs, setE_0, setE_s, List.length_cons, Bool.not_false, Bool.not_true, Nat.ble, dCon, cmpop, dCall, aOwn, aVal, aNil, called, owns, nodupN, called.go, List.map_cons, AV.sv, back, idx4_0, idx4_1, idx4_2, idx4_3, List.any_nil, Bool.and_true, rl]
    have st2 : sFr (.n 1) (iOne 0 (oS 0)) (sEx (dCall (callN Fs 14 (k + 4)) 4 (aOwn 1 aNil))) [.fz (.lst (rs.map ivRow)), .und] = .ok .nx [.fz (.lst (rs.map ivRow)), s1] := by
      unfold sFr
      rw [show iOne 0 (oS 0) [.fz (.lst (rs.map ivRow)), .und] = .ok (rs.map ivRow) [.fz (.lst (rs.map ivRow)), .und] from rfl, bind_ok]
      exact hlp
    have st3 : dLc T (callN Fs 14 (k + 4)) (dBlt T (callN Fs 14 (k + 4)) 4 (osCons (oS 1) osNil)) (.n 1) (iOne 0 (oS 0)) [] [1] [.fz (.lst (rs.map ivRow)), s1] = .ok (.ol (rs.map fun q => .fz (ivRow q))) [.fz (.lst (rs.map ivRow)), .und] := by
      unfold dLc
      rw [show iOne 0 (oS 0) [.fz (.lst (rs.map ivRow)), s1] = .ok (rs.map ivRow) [.fz (.lst (rs.map ivRow)), s1] from rfl, bind_ok]
      rw [show wipe [1] [.fz (.lst (rs.map ivRow)), s1] = [.fz (.lst (rs.map ivRow)), .und] from rfl, tc]
      rfl
    rw [callE d10 b10 [.fz (.lst (rs.map ivRow)), .und] rfl rfl rfl rfl rfl]
    unfold b10 sSeq
    rw [st1, bind_ok]
    dsimp only
    rw [st2, bind_ok]
    simp only [sSeq, sRet, sIf, sEx, sPas, sAsg, dIte, dAnd, dOr, dNot, dVar, tst, oE, dCmp, looked2, looked, oS, getE_0, getE_s, bind_ok, OV.at, SV.flat, SV.frz, dLst, lNil, eqR, metG_nil, clsS, retO_some, veq_int, veq_bl, veq_row, len4, dec4, fits, List.length_nil, nl, List.map_nil, List.all_nil, SV.frzL, Bool.and_self, truthR, truth, dTup, lCons, dSub, dBin, thaw, dBlt, osCons, osNil, atAll, blt0_lst, blt0_tup, blt15, binop, subS, subV, bindT, bindT.bindTs, setE_0, setE_s, List.length_cons, Bool.not_false, Bool.not_true, Nat.ble, dCon, cmpop, dCall, aOwn, aVal, aNil, called, owns, nodupN, called.go, List.map_cons, AV.sv, back, idx4_0, idx4_1, idx4_2, idx4_3, List.any_nil, Bool.and_true, st3, fr, lv]
    rfl
theorem all_isF : ∀ rs : List (List Int), (rs.map fun q => SV.fz (ivRow q)).all SV.isF = true
  | [] => rfl
  | q :: rs => all_isF rs
/-- the same, of a list that nobody else has -/
theorem any_evO (k : Nat) {m : List Int} (hm : Good m) {rs : List (List Int)} (h : ∀ q ∈ rs, Good q) (hl : rs.length ≤ 500) : callN Fs 14 (k + 5) 12 [.fz (ivRow m), .ol (rs.map fun q => .fz (ivRow q))] = .ok (.fz (.bl (rs.any fun q => fit m q)), [.fz (ivRow m), .fz (.lst (rs.map ivRow))]) [] := by
  cases check_loop k (.fz (ivRow m)) (.fz (.lst (rs.map ivRow))) rs .und h with
  | intro s2' hlp =>
    have hc := fit_comp (k + 3) hm (.fz (.lst (rs.map ivRow))) rs [] h (by simp; omega)
    have ck := checkR k hm
    have fr := frzL_rows rs
    have af := all_isF rs
    rw [List.nil_append] at hc
    have rl : callN Fs 14 (k + 3 + 1) 2 [.ol (rs.map fun q => .fz (ivRow q))] = .ok (.fz (.bl true), [.ol (rs.map fun q => .fz (ivRow q))]) [] := by
      rw [callE d2 b2 [.ol (rs.map fun q => .fz (ivRow q))] rfl rfl rfl rfl rfl]
      unfold b2
      simp only [sSeq, sRet, sIf, sEx, sPas, sAsg, dIte, dAnd, dOr, dNot, dVar, tst, oE, dCmp, looked2, looked, oS, getE_0, getE_s, bind_ok, OV.at, SV.flat, SV.frz, dLst, lNil, eqR, metG_nil, clsS, retO_some, veq_int, veq_bl, veq_row, len4, dec4, fits, List.length_nil, nl, List.map_nil, List.all_nil, SV.frzL, Bool.and_self, truthR, truth, dTup, lCons, dSub, dBin, thaw, dBlt, osCons, osNil, atAll, blt0_lst, blt0_tup, blt15, binop, subS, subV, bindT, bindT.bindTs, setE_0, setE_s, List.length_cons, Bool.not_false, Bool.not_true, Nat.ble, dCon, cmpop, dCall, aOwn, aVal, aNil, called, owns, nodupN, called.go, List.map_cons, AV.sv, back, idx4_0, idx4_1, idx4_2, idx4_3, List.any_nil, Bool.and_true, af, fr]
      rfl
    have st1 : sEx (dCall (callN Fs 14 (k + 4)) 4 (aOwn 0 aNil)) [.fz (ivRow m), .ol (rs.map fun q => .fz (ivRow q)), .und] = .ok .nx [.fz (ivRow m), .ol (rs.map fun q => .fz (ivRow q)), .und] := by
      simp only [sSeq, sRet, sIf, sEx, sPas, sAsg, dIte, dAnd, dOr, dNot, dVar, tst, oE, dCmp, looked2, looked, oS, getE_0, getE_s, bind_ok, OV.at, SV.flat, SV.frz, dLst, lNil, eqR, metG_nil, clsS, retO_some, veq_int, veq_bl, veq_row, len4, dec4, fits, List.length_nil, nl, List.map_nil, List.all_nil, SV.frzL, Bool.and_self, truthR, truth, dTup, lCons, dSub, dBin, thaw, dBlt, osCons, osNil, atAll, blt0_lst, blt0_tup, blt15, binop, subS, subV, bindT, bindT.bindTs, setE_0, setE_s, List.length_cons, Bool.not_false, Bool.not_true, Nat.ble, dCon, cmpop, dCall, aOwn, aVal, aNil, called, owns, nodupN, called.go, List.map_cons, AV.sv, back, idx4_0, idx4_1, idx4_2, idx4_3, List.any_nil, Bool.and_true, ck]
    have st2 : sIf T (callN Fs 14 (k + 4)) (oE (dNot T (callN Fs 14 (k + 4)) (oE (dCall (callN Fs 14 (k + 4)) 2 (aOwn 1 aNil))))) (sRs xs 1 (lCons (dVar 1) lNil)) sPas [.fz (ivRow m), .ol (rs.map fun q => .fz (ivRow q)), .und] = .ok .nx [.fz (ivRow m), .ol (rs.map fun q => .fz (ivRow q)), .und] := by
      simp only [sSeq, sRet, sIf, sEx, sPas, sAsg, dIte, dAnd, dOr, dNot, dVar, tst, oE, dCmp, looked2, looked, oS, getE_0, getE_s, bind_ok, OV.at, SV.flat, SV.frz, dLst, lNil, eqR, metG_nil, clsS, retO_some, veq_int, veq_bl, veq_row, len4, dec4, fits, List.length_nil, nl, List.map_nil, List.all_nil, SV.frzL, Bool.and_self, truthR, truth, dTup, lCons, dSub, dBin, thaw, dBlt, osCons, osNil, atAll, blt0_lst, blt0_tup, blt15, binop, subS, subV, bindT, bindT.bindTs, setE_0, setE_s, List.length_cons, Bool.not_false, Bool.not_true, Nat.ble, dCon, cmpop, dCall, aOwn, aVal, aNil, called, owns, nodupN, called.go, List.map_cons, AV.sv, back, idx4_0, idx4_1, idx4_2, idx4_3, List.any_nil, Bool.and_true, rl]
    have st3 : sFr (.n 2) (iOne 0 (oS 1)) (sEx (dCall (callN Fs 14 (k + 4)) 4 (aOwn 2 aNil))) [.fz (ivRow m), .ol (rs.map fun q => .fz (ivRow q)), .und] = .ok .nx [.fz (ivRow m), .fz (.lst (rs.map ivRow)), s2'] := by
      have it : iOne 0 (oS 1) [.fz (ivRow m), .ol (rs.map fun q => .fz (ivRow q)), .und] = .ok (rs.map ivRow) [.fz (ivRow m), .fz (.lst (rs.map ivRow)), .und] := by
        simp only [sSeq, sRet, sIf, sEx, sPas, sAsg, dIte, dAnd, dOr, dNot, dVar, tst, oE, dCmp, looked2, looked, oS, getE_0, getE_s, bind_ok, OV.at, SV.flat, SV.frz, dLst, lNil, eqR, metG_nil, clsS, retO_some, veq_int, veq_bl, veq_row, len4, dec4, fits, List.length_nil, nl, List.map_nil, List.all_nil, SV.frzL, Bool.and_self, truthR, truth, dTup, lCons, dSub, dBin, thaw, dBlt, osCons, osNil, atAll, blt0_lst, blt0_tup, blt15, binop, subS, subV, bindT, bindT.bindTs, setE_0, setE_s, List.length_cons, Bool.not_false, Bool.not_true, Nat.ble, dCon, cmpop, dCall, aOwn, aVal, aNil, called, owns, nodupN, called.go, List.map_cons, AV.sv, back, idx4_0, idx4_1, idx4_2, idx4_3, List.any_nil, Bool.and_true, iOne, gone, itV, fr]
      unfold sFr
      rw [it, bind_ok]
      exact hlp
    have e2 := blt3_rows (fun q => fit m q) rs
    rw [callE d12 b12 [.fz (ivRow m), .ol (rs.map fun q => .fz (ivRow q)), .und] rfl rfl rfl rfl rfl]
    unfold b12 sSeq
    rw [st1, bind_ok]
    dsimp only
    rw [st2, bind_ok]
    dsimp only
    rw [st3, bind_ok]
    simp only [sSeq, sRet, sIf, sEx, sPas, sAsg, dIte, dAnd, dOr, dNot, dVar, tst, oE, dCmp, looked2, looked, oS, getE_0, getE_s, bind_ok, OV.at, SV.flat, SV.frz, dLst, lNil, eqR, metG_nil, clsS, retO_some, veq_int, veq_bl, veq_row, len4, dec4, fits, List.length_nil, nl, List.map_nil, List.all_nil, SV.frzL, Bool.and_self, truthR, truth, dTup, lCons, dSub, dBin, thaw, dBlt, osCons, osNil, atAll, blt0_lst, blt0_tup, blt15, binop, subS, subV, bindT, bindT.bindTs, setE_0, setE_s, List.length_cons, Bool.not_false, Bool.not_true, Nat.ble, dCon, cmpop, dCall, aOwn, aVal, aNil, called, owns, nodupN, called.go, List.map_cons, AV.sv, back, idx4_0, idx4_1, idx4_2, idx4_3, List.any_nil, Bool.and_true, iOne, gone, itV, dLc, wipe, hc, e2]
    rfl
/-! ### draws -/
theorem bind_ask {α β : Type} {n : Nat} {k : Nat → Res α} {f : α → Env → Res β} : (Res.ask n k).bind f = .ask n fun i => (k i).bind f := rfl
abbrev dr (sc : List Int) (i : Int) : SV := .ol [.fz (.lst (sc.map .int)), .fz (.int i)]
abbrev five : IV := .lst [.int 0, .int 1, .int 2, .int 9, .int 5]
theorem sc_ok {sc : List Int} (h : sc.length ≤ 63) : scOk (.lst (sc.map .int)) = true := by
  have a : Nat.blt (sc.map IV.int).length 1000 = true := Nat.blt_eq.mpr (by rw [List.length_map]; omega)
  have b : ((sc.map IV.int).all fun x => match x with
    | .int _ => true
    | _ => false) = true := List.all_eq_true.mpr fun x hx => by
    cases List.mem_map.mp hx with | intro i hi =>
    rw [← hi.2]
  show (Nat.blt (sc.map IV.int).length 1000 && _) = true
  rw [a]
  exact b
theorem take_ev (k : Nat) {sc : List Int} (h : sc.length ≤ 63) (i : Int) (n : Nat) : callN Fs 14 (k + 2) 14 [dr sc i, .fz (.int (Int.ofNat (n + 1)))] = .ask (n + 1) fun r => .ok (.fz (.int r), [dr sc (i + 1), .fz (.int (Int.ofNat (n + 1)))]) [] := by
  show takeN [dr sc i, .fz (.int (Int.ofNat (n + 1)))] = _
  unfold takeN
  dsimp only
  rw [sc_ok h]
theorem pick_ev (k : Nat) {sc : List Int} (h : sc.length ≤ 63) (i : Int) {Q : SV × List SV → Env → Prop} {E : Nat → List (Nat × IV) → Env → Prop} (hq : ∀ v : Int, 0 ≤ v ∧ v < 10 → Q (.fz (.int v), [dr sc (i + 1), .fz five]) []) :
    wpR (callN Fs 14 (k + 3) 15 [dr sc i, .fz five]) Q E := by
  have tk := take_ev k h i 4
  rw [callE d15 b15 [dr sc i, .fz five] rfl rfl rfl rfl rfl]
  have tk' : callN Fs 14 (k + 2) 14 [dr sc i, .fz (.int ((0 + 1 + 1 + 1 + 1 + 1 : Nat) : Int))] = _ := tk
  unfold b15
  simp only [sSeq, sRet, sIf, sEx, sPas, sAsg, dIte, dAnd, dOr, dNot, dVar, tst, oE, dCmp, looked2, looked, oS, getE_0, getE_s, bind_ok, OV.at, SV.flat, SV.frz, dLst, lNil, eqR, metG_nil, clsS, retO_some, veq_int, veq_bl, veq_row, len4, dec4, fits, List.length_nil, nl, List.map_nil, List.all_nil, SV.frzL, Bool.and_self, truthR, truth, dTup, lCons, dSub, dBin, thaw, dBlt, osCons, osNil, atAll, blt0_lst, blt0_tup, blt15, binop, subS, subV, bindT, bindT.bindTs, setE_0, setE_s, List.length_cons, Bool.not_false, Bool.not_true, Nat.ble, dCon, cmpop, dCall, aOwn, aVal, aNil, called, owns, nodupN, called.go, List.map_cons, AV.sv, back, idx4_0, idx4_1, idx4_2, idx4_3, List.any_nil, Bool.and_true, tk', bind_ask]
  intro r hr
  match r, hr with
  | 0, _ => exact hq 0 (by decide)
  | 1, _ => exact hq 1 (by decide)
  | 2, _ => exact hq 2 (by decide)
  | 3, _ => exact hq 9 (by decide)
  | 4, _ => exact hq 5 (by decide)
end LW

end
section
set_option maxRecDepth 100000
namespace LW
open Vy
def p7 (C : Vy.Callee) : SDen := (sFr (.n 10) (iOne 0 (oE (dTup (lCons (dCon .non) (lCons (dCon (.int 5)) (lCons (dCon (.str [97, 98, 99, 100])) (lCons (dTup (lCons (dCon (.int 1)) (lCons (dCon (.int 2)) (lCons (dCon (.int 3)) lNil)))) (lCons (dTup (lCons (dCon (.int 1)) (lCons (dCon (.int 2)) (lCons (dCon (.int 3)) (lCons (dCon (.int 4)) (lCons (dCon (.int 5)) lNil)))))) (lCons (dTup (lCons (dCon (.int 1)) (lCons (dCon (.int 2)) (lCons (dCon (.int 3)) (lCons (dCon (.int 10)) lNil))))) (lCons (dTup (lCons (dCon (.int 1)) (lCons (dCon (.int 2)) (lCons (dNeg (oE (dCon (.int 3)))) (lCons (dCon (.int 4)) lNil))))) (lCons (dTup (lCons (dCon (.bl true)) (lCons (dCon (.int 0)) (lCons (dCon (.int 0)) (lCons (dCon (.int 0)) lNil))))) (lCons (dTup (lCons (dCon (.int 1)) (lCons (dCon (.str [50])) (lCons (dCon (.int 3)) (lCons (dCon (.int 4)) lNil))))) lNil)))))))))))) (sFr (.n 11) (iOne 0 (oE (dTup (lCons (dLam 13 5) (lCons (dLam 13 4) (lCons (dLam 13 3) (lCons (dLam 13 2) (lCons (dLam 13 1) (lCons (dLam 13 0) lNil))))))))) (sTry 1 12 (sSeq (sEx (dCallL (lms C) 11)) (sRet (dCon (.bl false)))) (fun fs => sIfB (tst T C (oE (dCmp T C 1 (oE (dStr true (oE (dXf fs 3)))) (oE (dStr true (oS 10)))))) (sRet (dCon (.bl false))) sPas))))
def p8 (C : Vy.Callee) : SDen := (sFr (.n 10) (iOne 0 (oE (dTup (lCons (dCon .non) (lCons (dCon (.int 5)) (lCons (dCon (.str [97, 98])) lNil)))))) (sFr (.n 11) (iOne 0 (oE (dTup (lCons (dLam 13 7) (lCons (dLam 13 6) lNil))))) (sTry 1 12 (sSeq (sEx (dCallL (lms C) 11)) (sRet (dCon (.bl false)))) (fun fs => sIfB (tst T C (oE (dCmp T C 1 (oE (dXf fs 3)) (oS 10)))) (sRet (dCon (.bl false))) sPas))))
def p9 : SDen := (sRet (dCon (.bl true)))
theorem last3 (k : Nat) (s0 s1 s2 s3 s4 s5 s6 s7 s8 s9 : SV) : isT (sSeq (p7 (callN Fs 14 (k + 8))) (sSeq (p8 (callN Fs 14 (k + 8))) p9) [s0, s1, s2, s3, s4, s5, s6, s7, s8, s9, .und, .und, .und, .tb]) = true := by kernel_rfl
end LW

end
section
set_option maxRecDepth 100000
set_option maxHeartbeats 200000
namespace LW
open Vy
abbrev noE : Nat → List (Nat × IV) → Env → Prop := fun _ _ _ => False
theorem noX_wp0 {α : Type} {Q : α → Env → Prop} {E : Nat → List (Nat × IV) → Env → Prop} : ∀ {r : Res α}, wpR r Q noE → wpR r.noX Q E
  | .ok _ _, w => w
  | .exc _ _ _, w => w.elim
  | .ask n k, w => fun i hi => noX_wp0 (w i hi)
  | .bad _, w => w
theorem go_wp0 {as : List AV} {e : Env} {Q : SV → Env → Prop} {E : Nat → List (Nat × IV) → Env → Prop} : ∀ {r : Res (SV × List SV)}, wpR r (fun r _ => Q r.1 (back as r.2 e)) noE → wpR (called.go as e r) Q E
  | .ok _ _, w => w
  | .exc _ _ _, w => w.elim
  | .ask n k, w => fun i hi => go_wp0 (w i hi)
  | .bad _, w => w
theorem call_wp0 {C : Vy.Callee} {f : Nat} {a : ADen} {as : List AV} {e e' : Env} {Q : SV → Env → Prop} {E : Nat → List (Nat × IV) → Env → Prop} {vs : List SV} (h : a e = .ok as e') (n : nodupN (owns as) = true) (hv : as.map (AV.sv e') = vs) (w : wpR (C f vs) (fun r _ => Q r.1 (back as r.2 e')) noE) : wpR (dCall C f a e) Q E := by
  unfold dCall
  rw [h, bind_ok]
  unfold called
  rw [n, hv]
  exact go_wp0 w
theorem compL_wp0 {t : Tg} {own : List Nat} {ok : Env → Res Bool} {f : Den} {x : IV} {xs : List IV} {acc : List SV} {e e1 e2 : Env} {Q : List SV → Env → Prop} {E : Nat → List (Nat × IV) → Env → Prop} (h1 : bindT 20 t x e = some e1) (h2 : ok e1 = .ok true e2) (h4 : acc.length ≤ 1000000)
    (h3 : wpR (f e2) (fun y e3 => wpR (compL t own ok f xs (acc ++ [y]) (wipe own e3)) Q E) noE) : wpR (compL t own ok f (x :: xs) acc e) Q E := by
  rw [compL, h1]
  try dsimp only
  rw [h2, Res.noX, bind_ok]
  try dsimp only
  refine wpR_bind.mpr (noX_wp0 (wpR_mono h3 (fun y e3 w => ?_) fun _ _ _ z => z))
  rw [show fits acc.length = true from Nat.ble_eq.mpr h4]
  exact w
theorem ended_wp0 {d : FD} {ss : List SV} {Q : SV × List SV → Env → Prop} {E : Nat → List (Nat × IV) → Env → Prop} : ∀ {r : Res Fl}, wpR r (fun f e => wpR (ended d ss (.ok f e)) Q E) noE → wpR (ended d ss r) Q E
  | .ok _ _, w => w
  | .exc _ _ _, w => w.elim
  | .ask n k, w => fun i hi => ended_wp0 (w i hi)
  | .bad _, w => w
/-- kept folded -/
@[irreducible] def wq {α : Type} (r : Res α) (Q : α → Env → Prop) (E : Nat → List (Nat × IV) → Env → Prop) : Prop := wpR r Q E
theorem wq_eq {α : Type} {r : Res α} {Q : α → Env → Prop} {E : Nat → List (Nat × IV) → Env → Prop} : wq r Q E = wpR r Q E := by unfold wq; rfl
theorem wq_mono {α : Type} {r : Res α} {Q Q' : α → Env → Prop} {E E' : Nat → List (Nat × IV) → Env → Prop} (h : wq r Q E) (hQ : ∀ a e, Q a e → Q' a e) (hE : ∀ c fs e, E c fs e → E' c fs e) : wq r Q' E' := by
  rw [wq_eq] at h ⊢
  exact wpR_mono h hQ hE
theorem wq_bind {α β : Type} {r : Res α} {f : α → Env → Res β} {Q : β → Env → Prop} {E : Nat → List (Nat × IV) → Env → Prop} : wq (r.bind f) Q E ↔ wq r (fun a e => wq (f a e) Q E) E := by
  rw [wq_eq, wq_eq, wpR_bind]
  simp only [wq_eq]
theorem ok_wp {α : Type} {a : α} {e : Env} {Q : α → Env → Prop} {E : Nat → List (Nat × IV) → Env → Prop} (h : Q a e) : wq (.ok a e) Q E := by
  rw [wq_eq]
  exact h
theorem bad_wp {α : Type} {m : Nat} {Q : α → Env → Prop} {E : Nat → List (Nat × IV) → Env → Prop} (h : wq (.bad m) Q E) : False := by
  rw [wq_eq] at h
  exact h
theorem ask_wp {α : Type} {n : Nat} {k : Nat → Res α} {Q : α → Env → Prop} {E : Nat → List (Nat × IV) → Env → Prop} (h : ∀ i, i < n → wq (k i) Q E) : wq (.ask n k) Q E := by
  rw [wq_eq]
  exact fun i hi => by rw [← wq_eq]; exact h i hi
theorem noX_wp {α : Type} {Q : α → Env → Prop} {E : Nat → List (Nat × IV) → Env → Prop} {r : Res α} (h : wq r Q noE) : wq r.noX Q E := by
  rw [wq_eq] at h ⊢
  exact noX_wp0 h
theorem call_wp {C : Vy.Callee} {f : Nat} {a : ADen} {as : List AV} {e e' : Env} {Q : SV → Env → Prop} {E : Nat → List (Nat × IV) → Env → Prop} {vs : List SV} (h : a e = .ok as e') (n : nodupN (owns as) = true) (hv : as.map (AV.sv e') = vs) (w : wq (C f vs) (fun r _ => Q r.1 (back as r.2 e')) noE) : wq (dCall C f a e) Q E := by
  rw [wq_eq] at w ⊢
  exact call_wp0 h n hv w
theorem compL_wp {t : Tg} {own : List Nat} {ok : Env → Res Bool} {f : Den} {x : IV} {xs : List IV} {acc : List SV} {e e1 e2 : Env} {Q : List SV → Env → Prop} {E : Nat → List (Nat × IV) → Env → Prop} (h1 : bindT 20 t x e = some e1) (h2 : ok e1 = .ok true e2) (h4 : acc.length ≤ 1000000)
    (h3 : wq (f e2) (fun y e3 => wq (compL t own ok f xs (acc ++ [y]) (wipe own e3)) Q E) noE) : wq (compL t own ok f (x :: xs) acc e) Q E := by
  simp only [wq_eq] at h3 ⊢
  exact compL_wp0 h1 h2 h4 h3
theorem ended_wp {d : FD} {ss : List SV} {Q : SV × List SV → Env → Prop} {E : Nat → List (Nat × IV) → Env → Prop} {r : Res Fl} (h : wq r (fun f e => wq (ended d ss (.ok f e)) Q E) noE) : wq (ended d ss r) Q E := by
  simp only [wq_eq] at h ⊢
  exact ended_wp0 h
theorem pick_evQ (k : Nat) {sc : List Int} (h : sc.length ≤ 63) (i : Int) {Q : SV × List SV → Env → Prop} {E : Nat → List (Nat × IV) → Env → Prop} (hq : ∀ v : Int, 0 ≤ v ∧ v < 10 → Q (.fz (.int v), [dr sc (i + 1), .fz five]) []) : wq (callN Fs 14 (k + 3) 15 [dr sc i, .fz five]) Q E := by
  rw [wq_eq]
  exact pick_ev k h i hq
structure WP {α : Type} (r : Res α) (Q : α → Env → Prop) (E : Nat → List (Nat × IV) → Env → Prop) : Prop where
  h : wq r Q E
abbrev pickD (C : Vy.Callee) : Den := dCall C 15 (aOwn 0 (aVal (dLst (lCons (dCon (.int 0)) (lCons (dCon (.int 1)) (lCons (dCon (.int 2)) (lCons (dCon (.int 9)) (lCons (dCon (.int 5)) lNil)))))) aNil))
theorem pick_step (k : Nat) {sc : List Int} (h : sc.length ≤ 63) {Q : List SV → Env → Prop} {E : Nat → List (Nat × IV) → Env → Prop} (n : Nat) (a i : Int) (acc : List SV) (hl : acc.length + n ≤ 100)
    (ih : ∀ v : Int, 0 ≤ v ∧ v < 10 → WP (compL (.n 1) [1] (tAll T (callN Fs 14 (k + 3)) []) (pickD (callN Fs 14 (k + 3))) (rangeV n (a + 1)) (acc ++ [.fz (.int v)]) [dr sc (i + 1), .und]) Q E) :
    WP (compL (.n 1) [1] (tAll T (callN Fs 14 (k + 3)) []) (pickD (callN Fs 14 (k + 3))) (rangeV (n + 1) a) acc [dr sc i, .und]) Q E := by
  have s0 : ∀ v : Int, 0 ≤ v ∧ v < 10 → (fun (r : SV × List SV) (_ : Env) => wq (compL (.n 1) [1] (tAll T (callN Fs 14 (k + 3)) []) (pickD (callN Fs 14 (k + 3))) (rangeV n (a + 1)) (acc ++ [r.1]) (wipe [1] (back [.own 0, .val five] r.2 [dr sc i, .fz (.int a)]))) Q E) (.fz (.int v), [dr sc (i + 1), .fz five]) [] := fun v hv => (ih v hv).h
  have s1 := pick_evQ k h i (Q := fun r _ => wq (compL (.n 1) [1] (tAll T (callN Fs 14 (k + 3)) []) (pickD (callN Fs 14 (k + 3))) (rangeV n (a + 1)) (acc ++ [r.1]) (wipe [1] (back [.own 0, .val five] r.2 [dr sc i, .fz (.int a)]))) Q E) (E := noE) s0
  have s2 : aOwn 0 (aVal (dLst (lCons (dCon (.int 0)) (lCons (dCon (.int 1)) (lCons (dCon (.int 2)) (lCons (dCon (.int 9)) (lCons (dCon (.int 5)) lNil)))))) aNil) [dr sc i, .fz (.int a)] = .ok [.own 0, .val five] [dr sc i, .fz (.int a)] := by kernel_rfl
  have s3 := call_wp (C := callN Fs 14 (k + 3)) (f := 15) (Q := fun r e => wq (compL (.n 1) [1] (tAll T (callN Fs 14 (k + 3)) []) (pickD (callN Fs 14 (k + 3))) (rangeV n (a + 1)) (acc ++ [r]) (wipe [1] e)) Q E) (E := noE) (vs := [dr sc i, .fz five]) s2 rfl rfl s1
  have s4 := compL_wp (t := .n 1) (own := [1]) (ok := tAll T (callN Fs 14 (k + 3)) []) (f := pickD (callN Fs 14 (k + 3))) (x := .int a) (xs := rangeV n (a + 1)) (acc := acc) (e := [dr sc i, .und]) (e1 := [dr sc i, .fz (.int a)]) (e2 := [dr sc i, .fz (.int a)]) (Q := Q) (E := E) rfl rfl (by omega) s3
  rw [rangeV]
  exact ⟨s4⟩
theorem pick_comp (k : Nat) {sc : List Int} (h : sc.length ≤ 63) {Q : List SV → Env → Prop} {E : Nat → List (Nat × IV) → Env → Prop} : ∀ (n : Nat) (a i : Int) (acc : List SV), acc.length + n ≤ 100 →
    (∀ (vs : List Int) (j : Int), vs.length = n → (∀ v ∈ vs, 0 ≤ v ∧ v < 10) → Q (acc ++ vs.map fun v => .fz (.int v)) [dr sc j, .und]) →
    WP (compL (.n 1) [1] (tAll T (callN Fs 14 (k + 3)) []) (pickD (callN Fs 14 (k + 3))) (rangeV n a) acc [dr sc i, .und]) Q E
  | 0, a, i, acc, _, hq => by
    have := hq [] i rfl (fun _ z => nomatch z)
    rw [List.map_nil, List.append_nil] at this
    refine ⟨?_⟩
    rw [rangeV, compL]
    exact ok_wp this
  | n + 1, a, i, acc, hl, hq => pick_step k h n a i acc (by omega) fun v hv => pick_comp k h n (a + 1) (i + 1) (acc ++ [.fz (.int v)]) (by simp; omega) fun vs j hvl hvs => by
    have := hq (v :: vs) j (by simp [hvl]) (fun u hu => (List.mem_cons.mp hu).elim (fun z => by rw [z]; exact hv) (hvs u))
    rw [List.append_assoc]
    exact this
theorem good_of {vs : List Int} (hl : vs.length = 4) (hv : ∀ v ∈ vs, 0 ≤ v ∧ v < 10) : Good vs := by
  match vs, hl, hv with
  | [a, b, c, d], _, hvs => exact ⟨a, b, c, d, rfl, hvs a (by simp), hvs b (by simp), hvs c (by simp), hvs d (by simp)⟩
theorem frzL_ints : ∀ vs : List Int, SV.frzL (vs.map fun v => SV.fz (.int v)) = vs.map .int
  | [] => rfl
  | v :: vs => by rw [List.map_cons, SV.frzL, frzL_ints vs]; rfl
theorem four_draw (k : Nat) {sc : List Int} (h : sc.length ≤ 63) (i : Int) {Q : SV × List SV → Env → Prop} {E : Nat → List (Nat × IV) → Env → Prop} (hq : ∀ (q : List Int) (j : Int), Good q → Q (.fz (ivRow q), [dr sc j]) []) :
    WP (callN Fs 14 (k + 4) 17 [dr sc i]) Q E := by
  refine ⟨?_⟩
  rw [callE d17 b17 [dr sc i, .und] rfl rfl rfl rfl rfl]
  have fin : ∀ (vs : List Int) (j : Int), vs.length = 4 → (∀ v ∈ vs, 0 ≤ v ∧ v < 10) → wq (ended d17 [dr sc i] ((Res.ok (SV.ol ([] ++ vs.map fun v => .fz (.int v))) [dr sc j, .und]).bind fun r e => (Res.ok (OV.vl r.frz) e).bind fun x e => (Res.ok [x] e).bind fun xs e => (match atAll xs e with
      | some vs => retO (bltV 4 vs) e (200 + 4)
      | none => .bad 612).bind fun r e => .ok (.ret r) e)) Q E := fun vs j hl hv => by
    have g := hq vs j (good_of hl hv)
    simp only [sSeq, sRet, sIf, sEx, sPas, sAsg, dIte, dAnd, dOr, dNot, dVar, tst, oE, dCmp, looked2, looked, oS, getE_0, getE_s, bind_ok, OV.at, SV.flat, SV.frz, dLst, lNil, eqR, metG_nil, clsS, retO_some, veq_int, veq_bl, veq_row, len4, dec4, fits, List.length_nil, nl, List.map_nil, List.all_nil, SV.frzL, Bool.and_self, truthR, truth, dTup, lCons, dSub, dBin, thaw, dBlt, osCons, osNil, atAll, blt0_lst, blt0_tup, blt15, binop, subS, subV, bindT, bindT.bindTs, setE_0, setE_s, List.length_cons, Bool.not_false, Bool.not_true, Nat.ble, dCon, cmpop, dCall, aOwn, aVal, aNil, called, owns, nodupN, called.go, List.map_cons, AV.sv, back, idx4_0, idx4_1, idx4_2, idx4_3, List.any_nil, Bool.and_true, List.nil_append, frzL_ints]
    rw [show bltV 4 [.lst (vs.map .int)] = some (.fz (ivRow vs)) from rfl, retO_some, bind_ok]
    exact ok_wp g
  have pc := pick_comp k h (E := noE) (Q := fun ys e => wq (ended d17 [dr sc i] ((Res.ok (SV.ol ys) e).bind fun r e => (Res.ok (OV.vl r.frz) e).bind fun x e => (Res.ok [x] e).bind fun xs e => (match atAll xs e with
      | some vs => retO (bltV 4 vs) e (200 + 4)
      | none => .bad 612).bind fun r e => .ok (.ret r) e)) Q E) 4 0 i [] (by simp) fin
  have it : iRng1 (oE (dCon (.int 4))) [dr sc i, .und] = .ok (rangeV 4 0) [dr sc i, .und] := by kernel_rfl
  have st : WP (dLc T (callN Fs 14 (k + 3)) (pickD (callN Fs 14 (k + 3))) (.n 1) (iRng1 (oE (dCon (.int 4)))) [] [1] [dr sc i, .und]) (fun r e => wq (ended d17 [dr sc i] ((Res.ok r e).bind fun r e => (Res.ok (OV.vl r.frz) e).bind fun x e => (Res.ok [x] e).bind fun xs e => (match atAll xs e with
      | some vs => retO (bltV 4 vs) e (200 + 4)
      | none => .bad 612).bind fun r e => .ok (.ret r) e)) Q E) noE := by
    refine ⟨?_⟩
    unfold dLc
    rw [it, bind_ok]
    refine wq_bind.mpr ?_
    refine wq_mono pc.h (fun ys e w => ?_) fun _ _ _ z => z
    exact ok_wp w
  refine ended_wp ?_
  unfold b17 sRet dBlt osCons oE
  refine wq_bind.mpr (wq_bind.mpr (wq_bind.mpr (wq_bind.mpr (wq_mono st.h (fun r e w => ?_) fun _ _ _ z => z))))
  refine ok_wp (ok_wp ?_)
  show wq (retO (bltV 4 [r.frz]) e (200 + 4)) _ _
  have w : wq (ended d17 [dr sc i] ((retO (bltV 4 [r.frz]) e (200 + 4)).bind fun r e => .ok (.ret r) e)) Q E := w
  cases q : bltV 4 [r.frz] with
  | none =>
    rw [q] at w
    exact (bad_wp w).elim
  | some v =>
    rw [q] at w
    exact ok_wp (ok_wp w)
end LW

end
section
set_option maxRecDepth 100000
set_option maxHeartbeats 1000000
namespace LW
open Vy
theorem blt5_row {a b c d : Int} : bltV 5 [rw4 a b c d] = some (.ol [.fz (.int a), .fz (.int b), .fz (.int c), .fz (.int d)]) := rfl
theorem nl_frz {a b c d : Int} : SV.frz (.ol [.fz (.int a), .fz (.int b), .fz (.int c), .fz (.int d)]) = rl4 a b c d := rfl
theorem nl_rw {a b c d : Int} : bltV 4 [rw4 a b c d] = some (.fz (rw4 a b c d)) := rfl
theorem both_good {a b c d a' b' c' d' : Int} (g : good a b c d) (g' : good a' b' c' d') : good (if a' < a then a' else a) (if b < b' then b' else b) (if c < c' then c' else c) (if d < d' then d' else d) := by
  unfold good at *
  refine ⟨?_, ?_, ?_, ?_⟩ <;> (split <;> omega)
theorem fit_both {x y z u a b c d a' b' c' d' : Int} : fitB x y z u (if a' < a then a' else a) (if b < b' then b' else b) (if c < c' then c' else c) (if d < d' then d' else d) = (fitB x y z u a b c d && fitB x y z u a' b' c' d') := by
  rw [Bool.eq_iff_iff]
  unfold fitB
  simp only [Bool.and_eq_true, decide_eq_true_eq]
  constructor
  · intro h
    refine ⟨⟨⟨⟨?_, ?_⟩, ?_⟩, ?_⟩, ⟨⟨?_, ?_⟩, ?_⟩, ?_⟩ <;> (rcases h with ⟨⟨⟨h1, h2⟩, h3⟩, h4⟩; split at h1 <;> split at h2 <;> split at h3 <;> split at h4 <;> omega)
  · intro h
    refine ⟨⟨⟨?_, ?_⟩, ?_⟩, ?_⟩ <;> (rcases h with ⟨⟨⟨⟨h1, h2⟩, h3⟩, h4⟩, ⟨⟨h5, h6⟩, h7⟩, h8⟩; split <;> omega)
theorem fit_trans {x y z u a b c d a' b' c' d' : Int} (h1 : fitB a b c d a' b' c' d' = true) (h2 : fitB x y z u a b c d = true) : fitB x y z u a' b' c' d' = true := by
  unfold fitB at *
  simp only [Bool.and_eq_true, decide_eq_true_eq] at *
  omega
theorem st1 {s0 R s3 s6 s7 s8 s9 s10 s11 s12 s13 : SV} {sc : List Int} {i : Int} {a b c d a' b' c' d' : Int} (g : good a b c d) (g' : good a' b' c' d') : (sIf T (callN Fs 14 14) (oE (dOr (dCmp T (callN Fs 14 14) 1 (oE (dCall (callN Fs 14 14) 7 (aOwn 4 (aOwn 5 aNil)))) (oE (dCall (callN Fs 14 14) 16 (aOwn 4 (aOwn 5 aNil))))) (dCmp T (callN Fs 14 14) 1 (oE (dCall (callN Fs 14 14) 7 (aVal (dBlt T (callN Fs 14 14) 5 (osCons (oS 4) osNil)) (aVal (dBlt T (callN Fs 14 14) 5 (osCons (oS 5) osNil)) aNil)))) (oE (dCall (callN Fs 14 14) 16 (aOwn 4 (aOwn 5 aNil))))))) (sRet (dCon (.bl false))) sPas) [s0, dr sc i, R, s3, .fz (rw4 a b c d), .fz (rw4 a' b' c' d'), s6, s7, s8, s9, s10, s11, s12, s13] = .ok .nx [s0, dr sc i, R, s3, .fz (rw4 a b c d), .fz (rw4 a' b' c' d'), s6, s7, s8, s9, s10, s11, s12, s13] := by
  have c7 : callN Fs 14 14 7 [.fz (rw4 a b c d), .fz (rw4 a' b' c' d')] = _ := fulfils_ev 9 a b c d a' b' c' d' g g'
  have c7l : callN Fs 14 14 7 [.fz (rl4 a b c d), .fz (rl4 a' b' c' d')] = _ := fulfilsL_ev 9 a b c d a' b' c' d' g g'
  have c16 : callN Fs 14 14 16 [.fz (rw4 a b c d), .fz (rw4 a' b' c' d')] = _ := fits_ev 13 a b c d a' b' c' d'
  simp only [sSeq, sRet, sIf, sEx, sPas, sAsg, dIte, dAnd, dOr, dNot, dVar, tst, oE, dCmp, looked2, looked, oS, getE_0, getE_s, bind_ok, OV.at, SV.flat, SV.frz, dLst, lNil, eqR, metG_nil, clsS, retO_some, veq_int, veq_bl, veq_row, len4, dec4, fits, List.length_nil, nl, List.map_nil, List.all_nil, SV.frzL, Bool.and_self, truthR, truth, dTup, lCons, dSub, dBin, thaw, dBlt, osCons, osNil, atAll, blt0_lst, blt0_tup, blt15, binop, subS, subV, bindT, bindT.bindTs, setE_0, setE_s, List.length_cons, Bool.not_false, Bool.not_true, Nat.ble, dCon, cmpop, dCall, aOwn, aVal, aNil, called, owns, nodupN, called.go, List.map_cons, AV.sv, back, idx4_0, idx4_1, idx4_2, idx4_3, List.any_nil, Bool.and_true, beq_self_eq_true, blt5_row, nl_frz, nl_rw, c7, c7l, c16]
theorem st2 {s0 R s3 s6 s7 s8 s9 s10 s11 s12 s13 : SV} {sc : List Int} {i : Int} {a b c d a' b' c' d' : Int} (g : good a b c d) (g' : good a' b' c' d') : (sAsg (.n 6) (dTup (lCons (dBlt T (callN Fs 14 14) 10 (osCons (oE (dSub (oS 4) (oE (dCon (.int 0))))) (osCons (oE (dSub (oS 5) (oE (dCon (.int 0))))) osNil))) (lCons (dBlt T (callN Fs 14 14) 11 (osCons (oE (dSub (oS 4) (oE (dCon (.int 1))))) (osCons (oE (dSub (oS 5) (oE (dCon (.int 1))))) osNil))) (lCons (dBlt T (callN Fs 14 14) 11 (osCons (oE (dSub (oS 4) (oE (dCon (.int 2))))) (osCons (oE (dSub (oS 5) (oE (dCon (.int 2))))) osNil))) (lCons (dBlt T (callN Fs 14 14) 11 (osCons (oE (dSub (oS 4) (oE (dCon (.int 3))))) (osCons (oE (dSub (oS 5) (oE (dCon (.int 3))))) osNil))) lNil)))))) [s0, dr sc i, R, s3, .fz (rw4 a b c d), .fz (rw4 a' b' c' d'), s6, s7, s8, s9, s10, s11, s12, s13] = .ok .nx [s0, dr sc i, R, s3, .fz (rw4 a b c d), .fz (rw4 a' b' c' d'), .fz (bothR a b c d a' b' c' d'), s7, s8, s9, s10, s11, s12, s13] := by kernel_rfl
theorem st3 {s0 R s3 s6 s7 s8 s9 s10 s11 s12 s13 : SV} {sc : List Int} {i : Int} {a b c d a' b' c' d' : Int} (g : good a b c d) (g' : good a' b' c' d') : (sIf T (callN Fs 14 14) (oE (dOr (dCmp T (callN Fs 14 14) 1 (oE (dBlt T (callN Fs 14 14) 4 (osCons (oE (dCall (callN Fs 14 14) 8 (aOwn 4 (aOwn 5 aNil)))) osNil))) (oS 6)) (dCmp T (callN Fs 14 14) 1 (oE (dCall (callN Fs 14 14) 9 (aOwn 4 (aOwn 5 aNil)))) (oE (dCall (callN Fs 14 14) 18 (aOwn 4 (aOwn 5 aNil))))))) (sRet (dCon (.bl false))) sPas) [s0, dr sc i, R, s3, .fz (rw4 a b c d), .fz (rw4 a' b' c' d'), .fz (bothR a b c d a' b' c' d'), s7, s8, s9, s10, s11, s12, s13] = .ok .nx [s0, dr sc i, R, s3, .fz (rw4 a b c d), .fz (rw4 a' b' c' d'), .fz (bothR a b c d a' b' c' d'), s7, s8, s9, s10, s11, s12, s13] := by
  have c8 : callN Fs 14 14 8 [.fz (rw4 a b c d), .fz (rw4 a' b' c' d')] = _ := joined_ev 9 a b c d a' b' c' d' g g'
  have c9 : callN Fs 14 14 9 [.fz (rw4 a b c d), .fz (rw4 a' b' c' d')] = _ := easy_ev 9 a b c d a' b' c' d' g g'
  have c18 : callN Fs 14 14 18 [.fz (rw4 a b c d), .fz (rw4 a' b' c' d')] = _ := easier_ev 13 a b c d a' b' c' d'
  simp only [sSeq, sRet, sIf, sEx, sPas, sAsg, dIte, dAnd, dOr, dNot, dVar, tst, oE, dCmp, looked2, looked, oS, getE_0, getE_s, bind_ok, OV.at, SV.flat, SV.frz, dLst, lNil, eqR, metG_nil, clsS, retO_some, veq_int, veq_bl, veq_row, len4, dec4, fits, List.length_nil, nl, List.map_nil, List.all_nil, SV.frzL, Bool.and_self, truthR, truth, dTup, lCons, dSub, dBin, thaw, dBlt, osCons, osNil, atAll, blt0_lst, blt0_tup, blt15, binop, subS, subV, bindT, bindT.bindTs, setE_0, setE_s, List.length_cons, Bool.not_false, Bool.not_true, Nat.ble, dCon, cmpop, dCall, aOwn, aVal, aNil, called, owns, nodupN, called.go, List.map_cons, AV.sv, back, idx4_0, idx4_1, idx4_2, idx4_3, List.any_nil, Bool.and_true, beq_self_eq_true, blt5_row, nl_frz, nl_rw, c8, c9, c18, decide_true, Bool.and_self]
theorem st5 {s0 R s3 s6 s7 s8 s9 s10 s11 s12 s13 : SV} {sc : List Int} {i : Int} {a b c d a' b' c' d' : Int} (g : good a b c d) (g' : good a' b' c' d') {x y z u : Int} (gm : good x y z u) : (sIf T (callN Fs 14 14) (oE (dCmp T (callN Fs 14 14) 1 (oE (dCall (callN Fs 14 14) 7 (aOwn 7 (aOwn 6 aNil)))) (oE (dAnd (dCall (callN Fs 14 14) 7 (aOwn 7 (aOwn 4 aNil))) (dCall (callN Fs 14 14) 7 (aOwn 7 (aOwn 5 aNil))))))) (sRet (dCon (.bl false))) sPas) [s0, dr sc i, R, s3, .fz (rw4 a b c d), .fz (rw4 a' b' c' d'), .fz (bothR a b c d a' b' c' d'), .fz (rw4 x y z u), s8, s9, s10, s11, s12, s13] = .ok .nx [s0, dr sc i, R, s3, .fz (rw4 a b c d), .fz (rw4 a' b' c' d'), .fz (bothR a b c d a' b' c' d'), .fz (rw4 x y z u), s8, s9, s10, s11, s12, s13] := by
  have c1 : callN Fs 14 14 7 [.fz (rw4 x y z u), .fz (bothR a b c d a' b' c' d')] = _ := fulfils_ev 9 x y z u _ _ _ _ gm (both_good g g')
  have c2 : callN Fs 14 14 7 [.fz (rw4 x y z u), .fz (rw4 a b c d)] = _ := fulfils_ev 9 x y z u a b c d gm g
  have c3 : callN Fs 14 14 7 [.fz (rw4 x y z u), .fz (rw4 a' b' c' d')] = _ := fulfils_ev 9 x y z u a' b' c' d' gm g'
  rw [fit_both] at c1
  cases h1 : fitB x y z u a b c d <;> cases h2 : fitB x y z u a' b' c' d' <;> rw [h1] at c1 c2 <;> rw [h2] at c1 c3 <;> simp only [sSeq, sRet, sIf, sEx, sPas, sAsg, dIte, dAnd, dOr, dNot, dVar, tst, oE, dCmp, looked2, looked, oS, getE_0, getE_s, bind_ok, OV.at, SV.flat, SV.frz, dLst, lNil, eqR, metG_nil, clsS, retO_some, veq_int, veq_bl, veq_row, len4, dec4, fits, List.length_nil, nl, List.map_nil, List.all_nil, SV.frzL, Bool.and_self, truthR, truth, dTup, lCons, dSub, dBin, thaw, dBlt, osCons, osNil, atAll, blt0_lst, blt0_tup, blt15, binop, subS, subV, bindT, bindT.bindTs, setE_0, setE_s, List.length_cons, Bool.not_false, Bool.not_true, Nat.ble, dCon, cmpop, dCall, aOwn, aVal, aNil, called, owns, nodupN, called.go, List.map_cons, AV.sv, back, idx4_0, idx4_1, idx4_2, idx4_3, List.any_nil, Bool.and_true, beq_self_eq_true, blt5_row, nl_frz, nl_rw, c1, c2, c3] <;> rfl
theorem st6 {s0 R s3 s6 s7 s8 s9 s10 s11 s12 s13 : SV} {sc : List Int} {i : Int} {a b c d a' b' c' d' : Int} (g : good a b c d) (g' : good a' b' c' d') {x y z u : Int} (gm : good x y z u) : (sIf T (callN Fs 14 14) (oE (dOr (dAnd (dCall (callN Fs 14 14) 9 (aOwn 4 (aOwn 5 aNil))) (dAnd (dCall (callN Fs 14 14) 7 (aOwn 7 (aOwn 4 aNil))) (dNot T (callN Fs 14 14) (oE (dCall (callN Fs 14 14) 7 (aOwn 7 (aOwn 5 aNil))))))) (dCmp T (callN Fs 14 14) 1 (oE (dCall (callN Fs 14 14) 7 (aOwn 4 (aOwn 5 aNil)))) (oE (dCall (callN Fs 14 14) 9 (aOwn 4 (aOwn 5 aNil))))))) (sRet (dCon (.bl false))) sPas) [s0, dr sc i, R, s3, .fz (rw4 a b c d), .fz (rw4 a' b' c' d'), .fz (bothR a b c d a' b' c' d'), .fz (rw4 x y z u), s8, s9, s10, s11, s12, s13] = .ok .nx [s0, dr sc i, R, s3, .fz (rw4 a b c d), .fz (rw4 a' b' c' d'), .fz (bothR a b c d a' b' c' d'), .fz (rw4 x y z u), s8, s9, s10, s11, s12, s13] := by
  have c2 : callN Fs 14 14 7 [.fz (rw4 x y z u), .fz (rw4 a b c d)] = _ := fulfils_ev 9 x y z u a b c d gm g
  have c3 : callN Fs 14 14 7 [.fz (rw4 x y z u), .fz (rw4 a' b' c' d')] = _ := fulfils_ev 9 x y z u a' b' c' d' gm g'
  have c7 : callN Fs 14 14 7 [.fz (rw4 a b c d), .fz (rw4 a' b' c' d')] = _ := fulfils_ev 9 a b c d a' b' c' d' g g'
  have c9 : callN Fs 14 14 9 [.fz (rw4 a b c d), .fz (rw4 a' b' c' d')] = _ := easy_ev 9 a b c d a' b' c' d' g g'
  cases h0 : fitB a b c d a' b' c' d' <;> cases h1 : fitB x y z u a b c d <;> cases h2 : fitB x y z u a' b' c' d' <;>
    first
    | (exact absurd (fit_trans h0 h1) (by rw [h2]; exact Bool.false_ne_true))
    | (rw [h1] at c2; rw [h2] at c3; rw [h0] at c7 c9; simp only [sSeq, sRet, sIf, sEx, sPas, sAsg, dIte, dAnd, dOr, dNot, dVar, tst, oE, dCmp, looked2, looked, oS, getE_0, getE_s, bind_ok, OV.at, SV.flat, SV.frz, dLst, lNil, eqR, metG_nil, clsS, retO_some, veq_int, veq_bl, veq_row, len4, dec4, fits, List.length_nil, nl, List.map_nil, List.all_nil, SV.frzL, Bool.and_self, truthR, truth, dTup, lCons, dSub, dBin, thaw, dBlt, osCons, osNil, atAll, blt0_lst, blt0_tup, blt15, binop, subS, subV, bindT, bindT.bindTs, setE_0, setE_s, List.length_cons, Bool.not_false, Bool.not_true, Nat.ble, dCon, cmpop, dCall, aOwn, aVal, aNil, called, owns, nodupN, called.go, List.map_cons, AV.sv, back, idx4_0, idx4_1, idx4_2, idx4_3, List.any_nil, Bool.and_true, beq_self_eq_true, blt5_row, nl_frz, nl_rw, c2, c3, c7, c9] <;> rfl)
end LW

end
section
set_option maxRecDepth 100000
set_option maxHeartbeats 1000000
namespace LW
open Vy
theorem isT_wp0 : ∀ {r : Res Fl}, isT r = true → wpR r (fun f _ => f = .ret (.fz (.bl true))) noE
  | .ok (.ret (.fz (.bl true))) _, _ => rfl
  | .ok (.ret (.fz (.bl false))) _, h => by cases h
  | .ok (.ret (.fz .non)) _, h => by cases h
  | .ok (.ret (.fz (.int _))) _, h => by cases h
  | .ok (.ret (.fz (.str _))) _, h => by cases h
  | .ok (.ret (.fz (.tup _))) _, h => by cases h
  | .ok (.ret (.fz (.lst _))) _, h => by cases h
  | .ok (.ret (.fz (.dct _))) _, h => by cases h
  | .ok (.ret (.fz (.ins _ _))) _, h => by cases h
  | .ok (.ret (.fz (.fn _))) _, h => by cases h
  | .ok (.ret (.fz (.cls _))) _, h => by cases h
  | .ok (.ret (.fz (.ty _))) _, h => by cases h
  | .ok (.ret (.fz (.lam _))) _, h => by cases h
  | .ok (.ret .und) _, h => by cases h
  | .ok (.ret (.ol _)) _, h => by cases h
  | .ok (.ret (.od _)) _, h => by cases h
  | .ok (.ret (.oi _ _)) _, h => by cases h
  | .ok (.ret .tb) _, h => by cases h
  | .ok .nx _, h => by cases h
  | .ok .brk _, h => by cases h
  | .ok .cnt _, h => by cases h
  | .exc _ _ _, h => by cases h
  | .ask _ _, h => by cases h
  | .bad _, h => by cases h
theorem isT_wp {r : Res Fl} (h : isT r = true) : wq r (fun f _ => f = .ret (.fz (.bl true))) noE := by
  rw [wq_eq]
  exact isT_wp0 h
/-- a part that goes on, then the rest -/
theorem seq_wp {a b : SDen} {e : Env} {Q Q1 : Fl → Env → Prop} (h1 : wq (a e) (fun f e' => f = .nx ∧ Q1 .nx e') noE) (h2 : ∀ e', Q1 .nx e' → wq (b e') Q noE) : wq (sSeq a b e) Q noE := by
  unfold sSeq
  refine wq_bind.mpr (wq_mono h1 (fun f e' q => ?_) fun _ _ _ z => z)
  rw [q.1]
  exact h2 e' q.2
theorem seq_ok {a b : SDen} {e e' : Env} {Q : Fl → Env → Prop} (h1 : a e = .ok .nx e') (h2 : wq (b e') Q noE) : wq (sSeq a b e) Q noE := by
  unfold sSeq
  rw [h1, bind_ok]
  exact h2
theorem for_wp {t : Tg} {b : SDen} {Inv : Env → Prop} : ∀ (xs : List IV), (∀ x ∈ xs, ∀ e, Inv e → ∃ e1, bindT 20 t x e = some e1 ∧ WP (b e1) (fun f e' => f = .nx ∧ Inv e') noE) → ∀ e, Inv e → WP (forL t b xs e) (fun f e' => f = .nx ∧ Inv e') noE
  | [], _, e, h => ⟨by rw [forL]; exact ok_wp ⟨rfl, h⟩⟩
  | x :: xs, hb, e, h => by
    cases hb x List.mem_cons_self e h with
    | intro e1 h1 =>
      refine ⟨?_⟩
      rw [forL, h1.1]
      dsimp only
      refine wq_bind.mpr (wq_mono h1.2.h (fun f e' q => ?_) fun _ _ _ z => z)
      rw [q.1]
      exact (for_wp xs (fun y hy => hb y (List.mem_cons_of_mem _ hy)) e' q.2).h
/-! ### the rows -/
theorem rows_step (k : Nat) {sc : List Int} (h : sc.length ≤ 63) {Q : List SV → Env → Prop} (s0 s2 : SV) (rest : Env) (n : Nat) (a i : Int) (acc : List SV) (hl : acc.length + n ≤ 100)
    (ih : ∀ (q : List Int) (j : Int), Good q → WP (compL (.n 3) [3] (tAll T (callN Fs 14 (k + 4)) []) (dCall (callN Fs 14 (k + 4)) 17 (aOwn 1 aNil)) (rangeV n (a + 1)) (acc ++ [.fz (ivRow q)]) (s0 :: dr sc j :: s2 :: .und :: rest)) Q noE) :
    WP (compL (.n 3) [3] (tAll T (callN Fs 14 (k + 4)) []) (dCall (callN Fs 14 (k + 4)) 17 (aOwn 1 aNil)) (rangeV (n + 1) a) acc (s0 :: dr sc i :: s2 :: .und :: rest)) Q noE := by
  have s1 := four_draw k h i (Q := fun r _ => wq (compL (.n 3) [3] (tAll T (callN Fs 14 (k + 4)) []) (dCall (callN Fs 14 (k + 4)) 17 (aOwn 1 aNil)) (rangeV n (a + 1)) (acc ++ [r.1]) (wipe [3] (back [.own 1] r.2 (s0 :: dr sc i :: s2 :: .fz (.int a) :: rest)))) Q noE) (E := noE) fun q j hq => (ih q j hq).h
  have s3 := call_wp (C := callN Fs 14 (k + 4)) (f := 17) (a := aOwn 1 aNil) (as := [.own 1]) (e := s0 :: dr sc i :: s2 :: .fz (.int a) :: rest) (e' := s0 :: dr sc i :: s2 :: .fz (.int a) :: rest) (Q := fun r e => wq (compL (.n 3) [3] (tAll T (callN Fs 14 (k + 4)) []) (dCall (callN Fs 14 (k + 4)) 17 (aOwn 1 aNil)) (rangeV n (a + 1)) (acc ++ [r]) (wipe [3] e)) Q noE) (E := noE) (vs := [dr sc i]) rfl rfl rfl s1.h
  have s4 := compL_wp (t := .n 3) (own := [3]) (ok := tAll T (callN Fs 14 (k + 4)) []) (f := dCall (callN Fs 14 (k + 4)) 17 (aOwn 1 aNil)) (x := .int a) (xs := rangeV n (a + 1)) (acc := acc) (e := s0 :: dr sc i :: s2 :: .und :: rest) (e1 := s0 :: dr sc i :: s2 :: .fz (.int a) :: rest) (e2 := s0 :: dr sc i :: s2 :: .fz (.int a) :: rest) (Q := Q) (E := noE) rfl rfl (by omega) s3
  rw [rangeV]
  exact ⟨s4⟩
theorem rows_comp (k : Nat) {sc : List Int} (h : sc.length ≤ 63) {Q : List SV → Env → Prop} (s0 s2 : SV) (rest : Env) : ∀ (n : Nat) (a i : Int) (acc : List SV), acc.length + n ≤ 100 →
    (∀ (rs : List (List Int)) (j : Int), rs.length = n → (∀ q ∈ rs, Good q) → Q (acc ++ rs.map (fun q => SV.fz (ivRow q))) (s0 :: dr sc j :: s2 :: .und :: rest)) →
    WP (compL (.n 3) [3] (tAll T (callN Fs 14 (k + 4)) []) (dCall (callN Fs 14 (k + 4)) 17 (aOwn 1 aNil)) (rangeV n a) acc (s0 :: dr sc i :: s2 :: .und :: rest)) Q noE
  | 0, a, i, acc, _, hq => by
    have := hq [] i rfl (fun _ z => nomatch z)
    rw [List.map_nil, List.append_nil] at this
    refine ⟨?_⟩
    rw [rangeV, compL]
    exact ok_wp this
  | n + 1, a, i, acc, hl, hq => rows_step k h s0 s2 rest n a i acc (by omega) fun q j hg => rows_comp k h s0 s2 rest n (a + 1) j (acc ++ [.fz (ivRow q)]) (by simp; omega) fun rs j' hvl hvs => by
    have := hq (q :: rs) j' (by simp [hvl]) (fun u hu => (List.mem_cons.mp hu).elim (fun z => by rw [z]; exact hg) (hvs u))
    rw [List.append_assoc]
    exact this
abbrev rows0 (s0 : SV) (sc : List Int) (i : Int) (s2 : SV) (rest : Env) : Env := s0 :: dr sc i :: s2 :: .und :: rest
def rngK (n : Int) (e : Env) : Res (List IV) := match decide (-1000000 < n) && decide (n < 1000000) with
  | true => .ok (rangeV n.toNat 0) e
  | false => .bad 501
theorem rngK_ok {n : Int} {e : Env} (h1 : -1000000 < n) (h2 : n < 1000000) : rngK n e = .ok (rangeV n.toNat 0) e := by
  unfold rngK
  rw [decide_eq_true h1, decide_eq_true h2]
  rfl
theorem rng_ask {o : ODen} {e e' : Env} {m : Nat} {f : Nat → Int} (h : gone o e = .ask m fun r => .ok (.int (f r)) e') : iRng1 o e = .ask m fun r => rngK (f r) e' := by
  unfold iRng1
  rw [h]
  rfl
theorem rng_ok {o : ODen} {e e' : Env} {n : Int} (h : gone o e = .ok (.int n) e') (h1 : -1000000 < n) (h2 : n < 1000000) : iRng1 o e = .ok (rangeV n.toNat 0) e' := by
  unfold iRng1
  rw [h]
  exact rngK_ok h1 h2
theorem part1 {sc : List Int} (h : sc.length ≤ 63) (s0 : SV) (rest : Env) : WP ((sAsg (.n 2) (dLc T (callN Fs 14 14) (dCall (callN Fs 14 14) 17 (aOwn 1 aNil)) (.n 3) (iRng1 (oE (dBin 0 (oE (dCon (.int 1))) (oE (dCall (callN Fs 14 14) 14 (aOwn 1 (aVal (dCon (.int 7)) aNil))))))) [] [3])) (s0 :: dr sc 0 :: .und :: .und :: rest)) (fun f e' => f = .nx ∧ ∃ (rs : List (List Int)) (j : Int), 1 ≤ rs.length ∧ rs.length ≤ 7 ∧ (∀ q ∈ rs, Good q) ∧ e' = s0 :: dr sc j :: .ol (rs.map (fun q => SV.fz (ivRow q))) :: .und :: rest) noE := by
  have tk : callN Fs 14 14 14 [dr sc 0, .fz (.int 7)] = _ := take_ev 12 h 0 6
  have it : gone (oE (dBin 0 (oE (dCon (.int 1))) (oE (dCall (callN Fs 14 14) 14 (aOwn 1 (aVal (dCon (.int 7)) aNil)))))) (s0 :: dr sc 0 :: .und :: .und :: rest) = .ask (6 + 1) fun r => .ok (.int (1 + (r : Int))) (s0 :: dr sc (0 + 1) :: .und :: .und :: rest) := by
    simp only [gone, sSeq, sRet, sIf, sEx, sPas, sAsg, dIte, dAnd, dOr, dNot, dVar, tst, oE, dCmp, looked2, looked, oS, getE_0, getE_s, bind_ok, OV.at, SV.flat, SV.frz, dLst, lNil, eqR, metG_nil, clsS, retO_some, veq_int, veq_bl, veq_row, len4, dec4, fits, List.length_nil, nl, List.map_nil, List.all_nil, SV.frzL, Bool.and_self, truthR, truth, dTup, lCons, dSub, dBin, thaw, dBlt, osCons, osNil, atAll, blt0_lst, blt0_tup, blt15, binop, subS, subV, bindT, bindT.bindTs, setE_0, setE_s, List.length_cons, Bool.not_false, Bool.not_true, Nat.ble, dCon, cmpop, dCall, aOwn, aVal, aNil, called, owns, nodupN, called.go, List.map_cons, AV.sv, back, idx4_0, idx4_1, idx4_2, idx4_3, List.any_nil, Bool.and_true, beq_self_eq_true, blt5_row, nl_frz, nl_rw, tk, bind_ask]
  refine ⟨?_⟩
  unfold sAsg dLc
  rw [rng_ask it]
  refine wq_bind.mpr (wq_bind.mpr (ask_wp fun r hr => ?_))
  rw [rngK_ok (by omega) (by omega)]
  refine ok_wp ?_
  have en : (1 + (r : Int)).toNat = r + 1 := by omega
  rw [en, show wipe [3] (s0 :: dr sc (0 + 1) :: .und :: .und :: rest) = s0 :: dr sc (0 + 1) :: .und :: .und :: rest from rfl]
  refine wq_bind.mpr ?_
  refine wq_mono (rows_comp 10 h s0 .und rest (Q := fun ys e => ∃ (rs : List (List Int)) (j : Int), rs.length = r + 1 ∧ (∀ q ∈ rs, Good q) ∧ ys = rs.map (fun q => SV.fz (ivRow q)) ∧ e = s0 :: dr sc j :: .und :: .und :: rest) (r + 1) 0 (0 + 1) [] (by simp; omega) fun rs j h1 h2 => ⟨rs, j, h1, h2, rfl, rfl⟩).h (fun ys e q => ?_) fun _ _ _ z => z
  refine ok_wp (ok_wp ?_)
  cases q with | intro rs q => cases q with | intro j q =>
  refine ⟨rfl, rs, j, by omega, by omega, q.2.1, ?_⟩
  rw [q.2.2.1, q.2.2.2]
  rfl
end LW

end
section
set_option maxRecDepth 100000
set_option maxHeartbeats 1000000
namespace LW
open Vy
theorem st4 {s0 R s3 s6 s7 s8 s9 s10 s11 s12 s13 : SV} {sc : List Int} {i : Int} {a b c d a' b' c' d' : Int} (g : good a b c d) (g' : good a' b' c' d') (hs : sc.length ≤ 63) : wq ((sAsg (.n 7) (dCall (callN Fs 14 14) 17 (aOwn 1 aNil))) [s0, dr sc i, R, s3, .fz (rw4 a b c d), .fz (rw4 a' b' c' d'), .fz (bothR a b c d a' b' c' d'), s7, s8, s9, s10, s11, s12, s13]) (fun f e' => f = .nx ∧ ∃ (m : List Int) (j : Int), Good m ∧ e' = [s0, dr sc j, R, s3, .fz (rw4 a b c d), .fz (rw4 a' b' c' d'), .fz (bothR a b c d a' b' c' d'), .fz (ivRow m), s8, s9, s10, s11, s12, s13]) noE := by
  have s1 := four_draw 10 hs i (Q := fun r _ => ∃ (m : List Int) (j : Int), Good m ∧ r.1 = .fz (ivRow m) ∧ back [.own 1] r.2 [s0, dr sc i, R, s3, .fz (rw4 a b c d), .fz (rw4 a' b' c' d'), .fz (bothR a b c d a' b' c' d'), s7, s8, s9, s10, s11, s12, s13] = [s0, dr sc j, R, s3, .fz (rw4 a b c d), .fz (rw4 a' b' c' d'), .fz (bothR a b c d a' b' c' d'), s7, s8, s9, s10, s11, s12, s13]) (E := noE) fun q j hq => ⟨q, j, hq, rfl, rfl⟩
  have s3' := call_wp (C := callN Fs 14 14) (f := 17) (a := aOwn 1 aNil) (as := [.own 1]) (e := [s0, dr sc i, R, s3, .fz (rw4 a b c d), .fz (rw4 a' b' c' d'), .fz (bothR a b c d a' b' c' d'), s7, s8, s9, s10, s11, s12, s13]) (e' := [s0, dr sc i, R, s3, .fz (rw4 a b c d), .fz (rw4 a' b' c' d'), .fz (bothR a b c d a' b' c' d'), s7, s8, s9, s10, s11, s12, s13]) (Q := fun r e => ∃ (m : List Int) (j : Int), Good m ∧ r = .fz (ivRow m) ∧ e = [s0, dr sc j, R, s3, .fz (rw4 a b c d), .fz (rw4 a' b' c' d'), .fz (bothR a b c d a' b' c' d'), s7, s8, s9, s10, s11, s12, s13]) (E := noE) (vs := [dr sc i]) rfl rfl rfl s1.h
  unfold sAsg
  refine wq_bind.mpr (wq_mono s3' (fun r e q => ?_) fun _ _ _ z => z)
  refine ok_wp ?_
  cases q with | intro m q => cases q with | intro j q =>
  refine ⟨rfl, m, j, q.1, ?_⟩
  rw [q.2.1, q.2.2]
  rfl
theorem body_num {s0 R s3 s6 s7 s8 s9 s10 s11 s12 s13 : SV} {sc : List Int} {i : Int} {a b c d a' b' c' d' : Int} (g : good a b c d) (g' : good a' b' c' d') (hs : sc.length ≤ 63) : WP ((sSeq (sIf T (callN Fs 14 14) (oE (dOr (dCmp T (callN Fs 14 14) 1 (oE (dCall (callN Fs 14 14) 7 (aOwn 4 (aOwn 5 aNil)))) (oE (dCall (callN Fs 14 14) 16 (aOwn 4 (aOwn 5 aNil))))) (dCmp T (callN Fs 14 14) 1 (oE (dCall (callN Fs 14 14) 7 (aVal (dBlt T (callN Fs 14 14) 5 (osCons (oS 4) osNil)) (aVal (dBlt T (callN Fs 14 14) 5 (osCons (oS 5) osNil)) aNil)))) (oE (dCall (callN Fs 14 14) 16 (aOwn 4 (aOwn 5 aNil))))))) (sRet (dCon (.bl false))) sPas) (sSeq (sAsg (.n 6) (dTup (lCons (dBlt T (callN Fs 14 14) 10 (osCons (oE (dSub (oS 4) (oE (dCon (.int 0))))) (osCons (oE (dSub (oS 5) (oE (dCon (.int 0))))) osNil))) (lCons (dBlt T (callN Fs 14 14) 11 (osCons (oE (dSub (oS 4) (oE (dCon (.int 1))))) (osCons (oE (dSub (oS 5) (oE (dCon (.int 1))))) osNil))) (lCons (dBlt T (callN Fs 14 14) 11 (osCons (oE (dSub (oS 4) (oE (dCon (.int 2))))) (osCons (oE (dSub (oS 5) (oE (dCon (.int 2))))) osNil))) (lCons (dBlt T (callN Fs 14 14) 11 (osCons (oE (dSub (oS 4) (oE (dCon (.int 3))))) (osCons (oE (dSub (oS 5) (oE (dCon (.int 3))))) osNil))) lNil)))))) (sSeq (sIf T (callN Fs 14 14) (oE (dOr (dCmp T (callN Fs 14 14) 1 (oE (dBlt T (callN Fs 14 14) 4 (osCons (oE (dCall (callN Fs 14 14) 8 (aOwn 4 (aOwn 5 aNil)))) osNil))) (oS 6)) (dCmp T (callN Fs 14 14) 1 (oE (dCall (callN Fs 14 14) 9 (aOwn 4 (aOwn 5 aNil)))) (oE (dCall (callN Fs 14 14) 18 (aOwn 4 (aOwn 5 aNil))))))) (sRet (dCon (.bl false))) sPas) (sSeq (sAsg (.n 7) (dCall (callN Fs 14 14) 17 (aOwn 1 aNil))) (sSeq (sIf T (callN Fs 14 14) (oE (dCmp T (callN Fs 14 14) 1 (oE (dCall (callN Fs 14 14) 7 (aOwn 7 (aOwn 6 aNil)))) (oE (dAnd (dCall (callN Fs 14 14) 7 (aOwn 7 (aOwn 4 aNil))) (dCall (callN Fs 14 14) 7 (aOwn 7 (aOwn 5 aNil))))))) (sRet (dCon (.bl false))) sPas) (sIf T (callN Fs 14 14) (oE (dOr (dAnd (dCall (callN Fs 14 14) 9 (aOwn 4 (aOwn 5 aNil))) (dAnd (dCall (callN Fs 14 14) 7 (aOwn 7 (aOwn 4 aNil))) (dNot T (callN Fs 14 14) (oE (dCall (callN Fs 14 14) 7 (aOwn 7 (aOwn 5 aNil))))))) (dCmp T (callN Fs 14 14) 1 (oE (dCall (callN Fs 14 14) 7 (aOwn 4 (aOwn 5 aNil)))) (oE (dCall (callN Fs 14 14) 9 (aOwn 4 (aOwn 5 aNil))))))) (sRet (dCon (.bl false))) sPas)))))) [s0, dr sc i, R, s3, .fz (rw4 a b c d), .fz (rw4 a' b' c' d'), s6, s7, s8, s9, s10, s11, s12, s13]) (fun f e' => f = .nx ∧ ∃ (j : Int) (t6 t7 : SV), e' = [s0, dr sc j, R, s3, .fz (rw4 a b c d), .fz (rw4 a' b' c' d'), t6, t7, s8, s9, s10, s11, s12, s13]) noE := by
  refine ⟨?_⟩
  refine seq_ok (st1 g g') ?_
  refine seq_ok (st2 g g') ?_
  refine seq_ok (st3 (s6 := s6) g g') ?_
  refine seq_wp (Q1 := fun _ e' => ∃ (m : List Int) (j : Int), Good m ∧ e' = [s0, dr sc j, R, s3, .fz (rw4 a b c d), .fz (rw4 a' b' c' d'), .fz (bothR a b c d a' b' c' d'), .fz (ivRow m), s8, s9, s10, s11, s12, s13]) (st4 (s6 := s6) g g' hs) fun e' q => ?_
  cases q with | intro m q => cases q with | intro j q =>
  rw [q.2]
  cases q.1 with | intro x q1 => cases q1 with | intro y q1 => cases q1 with | intro z q1 => cases q1 with | intro u q1 =>
  rw [q1.1]
  refine seq_ok (st5 (s6 := s6) (s7 := s7) (x := x) (y := y) (z := z) (u := u) g g' q1.2) ?_
  have e6 := st6 (s0 := s0) (R := R) (s3 := s3) (s8 := s8) (s9 := s9) (s10 := s10) (s11 := s11) (s12 := s12) (s13 := s13) (s6 := s6) (s7 := s7) (sc := sc) (i := j) g g' q1.2
  rw [e6]
  exact ok_wp ⟨rfl, j, _, _, rfl⟩
theorem body_wp {s0 R s3 s6 s7 s8 s9 s10 s11 s12 s13 : SV} {sc : List Int} {i : Int} {o p : List Int} (ho : Good o) (hp : Good p) (hs : sc.length ≤ 63) :
    WP ((sSeq (sIf T (callN Fs 14 14) (oE (dOr (dCmp T (callN Fs 14 14) 1 (oE (dCall (callN Fs 14 14) 7 (aOwn 4 (aOwn 5 aNil)))) (oE (dCall (callN Fs 14 14) 16 (aOwn 4 (aOwn 5 aNil))))) (dCmp T (callN Fs 14 14) 1 (oE (dCall (callN Fs 14 14) 7 (aVal (dBlt T (callN Fs 14 14) 5 (osCons (oS 4) osNil)) (aVal (dBlt T (callN Fs 14 14) 5 (osCons (oS 5) osNil)) aNil)))) (oE (dCall (callN Fs 14 14) 16 (aOwn 4 (aOwn 5 aNil))))))) (sRet (dCon (.bl false))) sPas) (sSeq (sAsg (.n 6) (dTup (lCons (dBlt T (callN Fs 14 14) 10 (osCons (oE (dSub (oS 4) (oE (dCon (.int 0))))) (osCons (oE (dSub (oS 5) (oE (dCon (.int 0))))) osNil))) (lCons (dBlt T (callN Fs 14 14) 11 (osCons (oE (dSub (oS 4) (oE (dCon (.int 1))))) (osCons (oE (dSub (oS 5) (oE (dCon (.int 1))))) osNil))) (lCons (dBlt T (callN Fs 14 14) 11 (osCons (oE (dSub (oS 4) (oE (dCon (.int 2))))) (osCons (oE (dSub (oS 5) (oE (dCon (.int 2))))) osNil))) (lCons (dBlt T (callN Fs 14 14) 11 (osCons (oE (dSub (oS 4) (oE (dCon (.int 3))))) (osCons (oE (dSub (oS 5) (oE (dCon (.int 3))))) osNil))) lNil)))))) (sSeq (sIf T (callN Fs 14 14) (oE (dOr (dCmp T (callN Fs 14 14) 1 (oE (dBlt T (callN Fs 14 14) 4 (osCons (oE (dCall (callN Fs 14 14) 8 (aOwn 4 (aOwn 5 aNil)))) osNil))) (oS 6)) (dCmp T (callN Fs 14 14) 1 (oE (dCall (callN Fs 14 14) 9 (aOwn 4 (aOwn 5 aNil)))) (oE (dCall (callN Fs 14 14) 18 (aOwn 4 (aOwn 5 aNil))))))) (sRet (dCon (.bl false))) sPas) (sSeq (sAsg (.n 7) (dCall (callN Fs 14 14) 17 (aOwn 1 aNil))) (sSeq (sIf T (callN Fs 14 14) (oE (dCmp T (callN Fs 14 14) 1 (oE (dCall (callN Fs 14 14) 7 (aOwn 7 (aOwn 6 aNil)))) (oE (dAnd (dCall (callN Fs 14 14) 7 (aOwn 7 (aOwn 4 aNil))) (dCall (callN Fs 14 14) 7 (aOwn 7 (aOwn 5 aNil))))))) (sRet (dCon (.bl false))) sPas) (sIf T (callN Fs 14 14) (oE (dOr (dAnd (dCall (callN Fs 14 14) 9 (aOwn 4 (aOwn 5 aNil))) (dAnd (dCall (callN Fs 14 14) 7 (aOwn 7 (aOwn 4 aNil))) (dNot T (callN Fs 14 14) (oE (dCall (callN Fs 14 14) 7 (aOwn 7 (aOwn 5 aNil))))))) (dCmp T (callN Fs 14 14) 1 (oE (dCall (callN Fs 14 14) 7 (aOwn 4 (aOwn 5 aNil)))) (oE (dCall (callN Fs 14 14) 9 (aOwn 4 (aOwn 5 aNil))))))) (sRet (dCon (.bl false))) sPas)))))) [s0, dr sc i, R, s3, .fz (ivRow o), .fz (ivRow p), s6, s7, s8, s9, s10, s11, s12, s13]) (fun f e' => f = .nx ∧ ∃ (j : Int) (t6 t7 : SV), e' = [s0, dr sc j, R, s3, .fz (ivRow o), .fz (ivRow p), t6, t7, s8, s9, s10, s11, s12, s13]) noE :=
  two (P := fun o p => WP ((sSeq (sIf T (callN Fs 14 14) (oE (dOr (dCmp T (callN Fs 14 14) 1 (oE (dCall (callN Fs 14 14) 7 (aOwn 4 (aOwn 5 aNil)))) (oE (dCall (callN Fs 14 14) 16 (aOwn 4 (aOwn 5 aNil))))) (dCmp T (callN Fs 14 14) 1 (oE (dCall (callN Fs 14 14) 7 (aVal (dBlt T (callN Fs 14 14) 5 (osCons (oS 4) osNil)) (aVal (dBlt T (callN Fs 14 14) 5 (osCons (oS 5) osNil)) aNil)))) (oE (dCall (callN Fs 14 14) 16 (aOwn 4 (aOwn 5 aNil))))))) (sRet (dCon (.bl false))) sPas) (sSeq (sAsg (.n 6) (dTup (lCons (dBlt T (callN Fs 14 14) 10 (osCons (oE (dSub (oS 4) (oE (dCon (.int 0))))) (osCons (oE (dSub (oS 5) (oE (dCon (.int 0))))) osNil))) (lCons (dBlt T (callN Fs 14 14) 11 (osCons (oE (dSub (oS 4) (oE (dCon (.int 1))))) (osCons (oE (dSub (oS 5) (oE (dCon (.int 1))))) osNil))) (lCons (dBlt T (callN Fs 14 14) 11 (osCons (oE (dSub (oS 4) (oE (dCon (.int 2))))) (osCons (oE (dSub (oS 5) (oE (dCon (.int 2))))) osNil))) (lCons (dBlt T (callN Fs 14 14) 11 (osCons (oE (dSub (oS 4) (oE (dCon (.int 3))))) (osCons (oE (dSub (oS 5) (oE (dCon (.int 3))))) osNil))) lNil)))))) (sSeq (sIf T (callN Fs 14 14) (oE (dOr (dCmp T (callN Fs 14 14) 1 (oE (dBlt T (callN Fs 14 14) 4 (osCons (oE (dCall (callN Fs 14 14) 8 (aOwn 4 (aOwn 5 aNil)))) osNil))) (oS 6)) (dCmp T (callN Fs 14 14) 1 (oE (dCall (callN Fs 14 14) 9 (aOwn 4 (aOwn 5 aNil)))) (oE (dCall (callN Fs 14 14) 18 (aOwn 4 (aOwn 5 aNil))))))) (sRet (dCon (.bl false))) sPas) (sSeq (sAsg (.n 7) (dCall (callN Fs 14 14) 17 (aOwn 1 aNil))) (sSeq (sIf T (callN Fs 14 14) (oE (dCmp T (callN Fs 14 14) 1 (oE (dCall (callN Fs 14 14) 7 (aOwn 7 (aOwn 6 aNil)))) (oE (dAnd (dCall (callN Fs 14 14) 7 (aOwn 7 (aOwn 4 aNil))) (dCall (callN Fs 14 14) 7 (aOwn 7 (aOwn 5 aNil))))))) (sRet (dCon (.bl false))) sPas) (sIf T (callN Fs 14 14) (oE (dOr (dAnd (dCall (callN Fs 14 14) 9 (aOwn 4 (aOwn 5 aNil))) (dAnd (dCall (callN Fs 14 14) 7 (aOwn 7 (aOwn 4 aNil))) (dNot T (callN Fs 14 14) (oE (dCall (callN Fs 14 14) 7 (aOwn 7 (aOwn 5 aNil))))))) (dCmp T (callN Fs 14 14) 1 (oE (dCall (callN Fs 14 14) 7 (aOwn 4 (aOwn 5 aNil)))) (oE (dCall (callN Fs 14 14) 9 (aOwn 4 (aOwn 5 aNil))))))) (sRet (dCon (.bl false))) sPas)))))) [s0, dr sc i, R, s3, .fz (ivRow o), .fz (ivRow p), s6, s7, s8, s9, s10, s11, s12, s13]) (fun f e' => f = .nx ∧ ∃ (j : Int) (t6 t7 : SV), e' = [s0, dr sc j, R, s3, .fz (ivRow o), .fz (ivRow p), t6, t7, s8, s9, s10, s11, s12, s13]) noE)
    (fun a b c d a' b' c' d' g g' => body_num g g' hs) ho hp
def InvI (s0 s3 s8 s9 s10 s11 s12 s13 : SV) (sc : List Int) (rs : List (List Int)) (o : List Int) (e : Env) : Prop := ∃ (j : Int) (s5 s6 s7 : SV), e = [s0, dr sc j, .fz (.lst (rs.map ivRow)), s3, .fz (ivRow o), s5, s6, s7, s8, s9, s10, s11, s12, s13]
def InvO (s0 s3 s8 s9 s10 s11 s12 s13 : SV) (sc : List Int) (rs : List (List Int)) (e : Env) : Prop := ∃ (j : Int) (s4 s5 s6 s7 : SV), e = [s0, dr sc j, .fz (.lst (rs.map ivRow)), s3, s4, s5, s6, s7, s8, s9, s10, s11, s12, s13]
theorem inner_wp {s0 s3 s8 s9 s10 s11 s12 s13 : SV} {sc : List Int} (hs : sc.length ≤ 63) {rs : List (List Int)} (hr : ∀ q ∈ rs, Good q) {o : List Int} (ho : Good o) {e : Env} (h : InvI s0 s3 s8 s9 s10 s11 s12 s13 sc rs o e) :
    WP (sFr (.n 5) (iOne 0 (oS 2)) ((sSeq (sIf T (callN Fs 14 14) (oE (dOr (dCmp T (callN Fs 14 14) 1 (oE (dCall (callN Fs 14 14) 7 (aOwn 4 (aOwn 5 aNil)))) (oE (dCall (callN Fs 14 14) 16 (aOwn 4 (aOwn 5 aNil))))) (dCmp T (callN Fs 14 14) 1 (oE (dCall (callN Fs 14 14) 7 (aVal (dBlt T (callN Fs 14 14) 5 (osCons (oS 4) osNil)) (aVal (dBlt T (callN Fs 14 14) 5 (osCons (oS 5) osNil)) aNil)))) (oE (dCall (callN Fs 14 14) 16 (aOwn 4 (aOwn 5 aNil))))))) (sRet (dCon (.bl false))) sPas) (sSeq (sAsg (.n 6) (dTup (lCons (dBlt T (callN Fs 14 14) 10 (osCons (oE (dSub (oS 4) (oE (dCon (.int 0))))) (osCons (oE (dSub (oS 5) (oE (dCon (.int 0))))) osNil))) (lCons (dBlt T (callN Fs 14 14) 11 (osCons (oE (dSub (oS 4) (oE (dCon (.int 1))))) (osCons (oE (dSub (oS 5) (oE (dCon (.int 1))))) osNil))) (lCons (dBlt T (callN Fs 14 14) 11 (osCons (oE (dSub (oS 4) (oE (dCon (.int 2))))) (osCons (oE (dSub (oS 5) (oE (dCon (.int 2))))) osNil))) (lCons (dBlt T (callN Fs 14 14) 11 (osCons (oE (dSub (oS 4) (oE (dCon (.int 3))))) (osCons (oE (dSub (oS 5) (oE (dCon (.int 3))))) osNil))) lNil)))))) (sSeq (sIf T (callN Fs 14 14) (oE (dOr (dCmp T (callN Fs 14 14) 1 (oE (dBlt T (callN Fs 14 14) 4 (osCons (oE (dCall (callN Fs 14 14) 8 (aOwn 4 (aOwn 5 aNil)))) osNil))) (oS 6)) (dCmp T (callN Fs 14 14) 1 (oE (dCall (callN Fs 14 14) 9 (aOwn 4 (aOwn 5 aNil)))) (oE (dCall (callN Fs 14 14) 18 (aOwn 4 (aOwn 5 aNil))))))) (sRet (dCon (.bl false))) sPas) (sSeq (sAsg (.n 7) (dCall (callN Fs 14 14) 17 (aOwn 1 aNil))) (sSeq (sIf T (callN Fs 14 14) (oE (dCmp T (callN Fs 14 14) 1 (oE (dCall (callN Fs 14 14) 7 (aOwn 7 (aOwn 6 aNil)))) (oE (dAnd (dCall (callN Fs 14 14) 7 (aOwn 7 (aOwn 4 aNil))) (dCall (callN Fs 14 14) 7 (aOwn 7 (aOwn 5 aNil))))))) (sRet (dCon (.bl false))) sPas) (sIf T (callN Fs 14 14) (oE (dOr (dAnd (dCall (callN Fs 14 14) 9 (aOwn 4 (aOwn 5 aNil))) (dAnd (dCall (callN Fs 14 14) 7 (aOwn 7 (aOwn 4 aNil))) (dNot T (callN Fs 14 14) (oE (dCall (callN Fs 14 14) 7 (aOwn 7 (aOwn 5 aNil))))))) (dCmp T (callN Fs 14 14) 1 (oE (dCall (callN Fs 14 14) 7 (aOwn 4 (aOwn 5 aNil)))) (oE (dCall (callN Fs 14 14) 9 (aOwn 4 (aOwn 5 aNil))))))) (sRet (dCon (.bl false))) sPas))))))) e) (fun f e' => f = .nx ∧ InvI s0 s3 s8 s9 s10 s11 s12 s13 sc rs o e') noE := by
  have it : iOne 0 (oS 2) e = .ok (rs.map ivRow) e := by
    cases h with | intro j h => cases h with | intro s5 h => cases h with | intro s6 h => cases h with | intro s7 h =>
    rw [h]
    rfl
  refine ⟨?_⟩
  unfold sFr
  rw [it, bind_ok]
  refine (for_wp (Inv := InvI s0 s3 s8 s9 s10 s11 s12 s13 sc rs o) (rs.map ivRow) (fun x hx e' he => ?_) e h).h
  cases List.mem_map.mp hx with | intro p hp =>
  cases he with | intro j he => cases he with | intro s5 he => cases he with | intro s6 he => cases he with | intro s7 he =>
  rw [he, ← hp.2]
  refine ⟨_, rfl, ⟨wq_mono (body_wp (s0 := s0) (R := .fz (.lst (rs.map ivRow))) (s3 := s3) (s6 := s6) (s7 := s7) (s8 := s8) (s9 := s9) (s10 := s10) (s11 := s11) (s12 := s12) (s13 := s13) (i := j) ho (hr p hp.1) hs).h (fun f e'' q => ?_) fun _ _ _ z => z⟩⟩
  cases q.2 with | intro j' q2 => cases q2 with | intro t6 q2 => cases q2 with | intro t7 q2 =>
  exact ⟨q.1, j', _, t6, t7, q2⟩
theorem part2 {s0 s3 s4 s5 s6 s7 s8 s9 s10 s11 s12 s13 : SV} {sc : List Int} {i : Int} (hs : sc.length ≤ 63) {rs : List (List Int)} (hr : ∀ q ∈ rs, Good q) :
    WP (sFr (.n 4) (iOne 0 (oS 2)) (sFr (.n 5) (iOne 0 (oS 2)) ((sSeq (sIf T (callN Fs 14 14) (oE (dOr (dCmp T (callN Fs 14 14) 1 (oE (dCall (callN Fs 14 14) 7 (aOwn 4 (aOwn 5 aNil)))) (oE (dCall (callN Fs 14 14) 16 (aOwn 4 (aOwn 5 aNil))))) (dCmp T (callN Fs 14 14) 1 (oE (dCall (callN Fs 14 14) 7 (aVal (dBlt T (callN Fs 14 14) 5 (osCons (oS 4) osNil)) (aVal (dBlt T (callN Fs 14 14) 5 (osCons (oS 5) osNil)) aNil)))) (oE (dCall (callN Fs 14 14) 16 (aOwn 4 (aOwn 5 aNil))))))) (sRet (dCon (.bl false))) sPas) (sSeq (sAsg (.n 6) (dTup (lCons (dBlt T (callN Fs 14 14) 10 (osCons (oE (dSub (oS 4) (oE (dCon (.int 0))))) (osCons (oE (dSub (oS 5) (oE (dCon (.int 0))))) osNil))) (lCons (dBlt T (callN Fs 14 14) 11 (osCons (oE (dSub (oS 4) (oE (dCon (.int 1))))) (osCons (oE (dSub (oS 5) (oE (dCon (.int 1))))) osNil))) (lCons (dBlt T (callN Fs 14 14) 11 (osCons (oE (dSub (oS 4) (oE (dCon (.int 2))))) (osCons (oE (dSub (oS 5) (oE (dCon (.int 2))))) osNil))) (lCons (dBlt T (callN Fs 14 14) 11 (osCons (oE (dSub (oS 4) (oE (dCon (.int 3))))) (osCons (oE (dSub (oS 5) (oE (dCon (.int 3))))) osNil))) lNil)))))) (sSeq (sIf T (callN Fs 14 14) (oE (dOr (dCmp T (callN Fs 14 14) 1 (oE (dBlt T (callN Fs 14 14) 4 (osCons (oE (dCall (callN Fs 14 14) 8 (aOwn 4 (aOwn 5 aNil)))) osNil))) (oS 6)) (dCmp T (callN Fs 14 14) 1 (oE (dCall (callN Fs 14 14) 9 (aOwn 4 (aOwn 5 aNil)))) (oE (dCall (callN Fs 14 14) 18 (aOwn 4 (aOwn 5 aNil))))))) (sRet (dCon (.bl false))) sPas) (sSeq (sAsg (.n 7) (dCall (callN Fs 14 14) 17 (aOwn 1 aNil))) (sSeq (sIf T (callN Fs 14 14) (oE (dCmp T (callN Fs 14 14) 1 (oE (dCall (callN Fs 14 14) 7 (aOwn 7 (aOwn 6 aNil)))) (oE (dAnd (dCall (callN Fs 14 14) 7 (aOwn 7 (aOwn 4 aNil))) (dCall (callN Fs 14 14) 7 (aOwn 7 (aOwn 5 aNil))))))) (sRet (dCon (.bl false))) sPas) (sIf T (callN Fs 14 14) (oE (dOr (dAnd (dCall (callN Fs 14 14) 9 (aOwn 4 (aOwn 5 aNil))) (dAnd (dCall (callN Fs 14 14) 7 (aOwn 7 (aOwn 4 aNil))) (dNot T (callN Fs 14 14) (oE (dCall (callN Fs 14 14) 7 (aOwn 7 (aOwn 5 aNil))))))) (dCmp T (callN Fs 14 14) 1 (oE (dCall (callN Fs 14 14) 7 (aOwn 4 (aOwn 5 aNil)))) (oE (dCall (callN Fs 14 14) 9 (aOwn 4 (aOwn 5 aNil))))))) (sRet (dCon (.bl false))) sPas)))))))) [s0, dr sc i, .ol (rs.map (fun q => SV.fz (ivRow q))), s3, s4, s5, s6, s7, s8, s9, s10, s11, s12, s13]) (fun f e' => f = .nx ∧ InvO s0 s3 s8 s9 s10 s11 s12 s13 sc rs e') noE := by
  have fr := frzL_rows rs
  have it : iOne 0 (oS 2) [s0, dr sc i, .ol (rs.map (fun q => SV.fz (ivRow q))), s3, s4, s5, s6, s7, s8, s9, s10, s11, s12, s13] = .ok (rs.map ivRow) [s0, dr sc i, .fz (.lst (rs.map ivRow)), s3, s4, s5, s6, s7, s8, s9, s10, s11, s12, s13] := by
    simp only [sSeq, sRet, sIf, sEx, sPas, sAsg, dIte, dAnd, dOr, dNot, dVar, tst, oE, dCmp, looked2, looked, oS, getE_0, getE_s, bind_ok, OV.at, SV.flat, SV.frz, dLst, lNil, eqR, metG_nil, clsS, retO_some, veq_int, veq_bl, veq_row, len4, dec4, fits, List.length_nil, nl, List.map_nil, List.all_nil, SV.frzL, Bool.and_self, truthR, truth, dTup, lCons, dSub, dBin, thaw, dBlt, osCons, osNil, atAll, blt0_lst, blt0_tup, blt15, binop, subS, subV, bindT, bindT.bindTs, setE_0, setE_s, List.length_cons, Bool.not_false, Bool.not_true, Nat.ble, dCon, cmpop, dCall, aOwn, aVal, aNil, called, owns, nodupN, called.go, List.map_cons, AV.sv, back, idx4_0, idx4_1, idx4_2, idx4_3, List.any_nil, Bool.and_true, beq_self_eq_true, blt5_row, nl_frz, nl_rw, iOne, gone, itV, fr]
  refine ⟨?_⟩
  unfold sFr
  rw [it, bind_ok]
  refine (for_wp (Inv := InvO s0 s3 s8 s9 s10 s11 s12 s13 sc rs) (rs.map ivRow) (fun x hx e' he => ?_) _ ⟨i, s4, s5, s6, s7, rfl⟩).h
  cases List.mem_map.mp hx with | intro p hp =>
  cases he with | intro j he => cases he with | intro s4 he => cases he with | intro s5 he => cases he with | intro s6 he => cases he with | intro s7 he =>
  rw [he, ← hp.2]
  refine ⟨_, rfl, ⟨wq_mono (inner_wp hs hr (hr p hp.1) ⟨j, s5, s6, s7, rfl⟩).h (fun f e'' q => ?_) fun _ _ _ z => z⟩⟩
  cases q.2 with | intro j' q2 => cases q2 with | intro t5 q2 => cases q2 with | intro t6 q2 => cases q2 with | intro t7 q2 =>
  exact ⟨q.1, j', _, t5, t6, t7, q2⟩
end LW

end
section
set_option maxRecDepth 100000
set_option maxHeartbeats 1000000
namespace LW
open Vy
/-! ### rows read again -/
theorem intsV_row : ∀ q : List Int, intsV (q.map .int) = some q
  | [] => rfl
  | i :: q => by rw [List.map_cons, intsV, intsV_row q]
theorem rowsV_rows : ∀ rs : List (List Int), rowsV (rs.map ivRow) = some rs
  | [] => rfl
  | q :: rs => by
    rw [List.map_cons]
    show (match intsV (q.map .int) with
      | some k => match rowsV (rs.map ivRow) with
        | some ks => some (k :: ks)
        | none => none
      | none => none) = _
    rw [intsV_row, rowsV_rows rs]
theorem okRow_good {q : List Int} (h : Good q) : okRow 4 q = true := by
  cases h with | intro a h => cases h with | intro b h => cases h with | intro c h => cases h with | intro d h =>
  rw [h.1]
  have g := h.2
  unfold good at g
  unfold okRow
  simp only [List.length_cons, List.length_nil, List.all_cons, List.all_nil, decide_eq_true g.1.1, decide_eq_true g.2.1.1, decide_eq_true g.2.2.1.1, decide_eq_true g.2.2.2.1, decide_eq_true (show a < 64 by omega), decide_eq_true (show b < 64 by omega), decide_eq_true (show c < 64 by omega), decide_eq_true (show d < 64 by omega)]
  rfl
theorem good_len {q : List Int} (h : Good q) : q.length = 4 := good_ind (P := fun q => q.length = 4) (fun a b c d _ => rfl) h
theorem okRows_good {rs : List (List Int)} (h : ∀ q ∈ rs, Good q) (h1 : 1 ≤ rs.length) (h2 : rs.length ≤ 7) : okRows rs = true := by
  cases rs with
  | nil => simp at h1
  | cons q rs =>
    unfold okRows
    dsimp only
    rw [good_len (h q List.mem_cons_self)]
    have a1 : Nat.blt rs.length 63 = true := Nat.blt_eq.mpr (by simp at h2; omega)
    have a2 : ((q :: rs).all (okRow 4)) = true := List.all_eq_true.mpr fun p hp => okRow_good (h p hp)
    rw [a1, a2]
    rfl
theorem sset_rows {rs : List (List Int)} (h : ∀ q ∈ rs, Good q) (h1 : 1 ≤ rs.length) (h2 : rs.length ≤ 7) : ssetV (.lst (rs.map ivRow)) = some (.ol ((S rs).map (fun q => SV.fz (ivRow q)))) := by
  unfold ssetV
  dsimp only
  rw [rowsV_rows]
  dsimp only
  rw [okRows_good h h1 h2]
  exact congrArg some (nl_rows (S rs))
/-! ### equal lists of rows -/
theorem ieq_ints : ∀ q : List Int, ieqs (q.map .int) (q.map .int) = true
  | [] => rfl
  | i :: q => by rw [List.map_cons, ieqs, ieq_ints q, ieq]; simp
theorem ieq_rows : ∀ rs : List (List Int), ieqs (rs.map ivRow) (rs.map ivRow) = true
  | [] => rfl
  | q :: rs => by rw [List.map_cons, ieqs, ieq_rows rs, ivRow, ieq, ieq_ints]; rfl
theorem dat_rows : ∀ rs : List (List Int), IV.datL 59 (rs.map ivRow) = true
  | [] => by rw [List.map_nil, IV.datL]
  | q :: rs => by rw [List.map_cons, IV.datL, dat_rows rs, ivRow, IV.dat, dat_ints]; rfl
theorem veq_rows (rs : List (List Int)) : veq (.lst (rs.map ivRow)) (.lst (rs.map ivRow)) = some true := by
  unfold veq
  rw [IV.dat, dat_rows, ieq, ieq_rows]
  rfl
/-! ### least rows -/
theorem any_mem {α : Type} {f : α → Bool} {xs ys : List α} (h : ∀ x, x ∈ xs ↔ x ∈ ys) : xs.any f = ys.any f := by
  rw [Bool.eq_iff_iff, List.any_eq_true, List.any_eq_true]
  exact ⟨fun ⟨x, a, b⟩ => ⟨x, (h x).mp a, b⟩, fun ⟨x, a, b⟩ => ⟨x, (h x).mpr a, b⟩⟩
theorem least_S (rs : List (List Int)) : least (S rs) rs = least (S rs) (S rs) := by
  unfold least
  congr 1
  funext q
  rw [any_mem (xs := rs) (ys := S rs) fun x => S_mem.symm]
theorem least_sub {ss rs : List (List Int)} {q : List Int} (h : q ∈ least ss rs) : q ∈ ss := (List.mem_filter.mp h).1
theorem least_twice (rs : List (List Int)) : least (S (least (S rs) (S rs) ++ least (S rs) (S rs))) (S (least (S rs) (S rs) ++ least (S rs) (S rs))) = least (S rs) (S rs) := by
  have e : S (least (S rs) (S rs) ++ least (S rs) (S rs)) = least (S rs) (S rs) := S_of (S_nodup.filter _) (fun q => by rw [List.mem_append, or_self]) (S_pw.filter _)
  rw [e]
  conv => lhs; unfold least
  refine List.filter_eq_self.mpr fun q hq => ?_
  have h2 := (List.mem_filter.mp hq).2
  rw [Bool.not_eq_true'] at h2 ⊢
  rw [List.any_eq_false] at h2 ⊢
  exact fun o ho => h2 o (least_sub ho)
theorem fit_transR {m r o : List Int} (hm : Good m) (hr : Good r) (ho : Good o) (h1 : fit m r = true) (h2 : fit r o = true) : fit m o = true := by
  cases hm with | intro x hm => cases hm with | intro y hm => cases hm with | intro z hm => cases hm with | intro u hm =>
  rw [hm.1] at h1 ⊢
  exact two (P := fun r o => fit [x, y, z, u] r = true → fit r o = true → fit [x, y, z, u] o = true) (fun a b c d a' b' c' d' _ _ h1 h2 => fit_trans h2 h1) hr ho h1 h2
/-- how hard a need is -/
def hard : List Int → Nat
  | [a, b, c, d] => ((9 - a) + b + c + d).toNat
  | _ => 0
theorem hard_lt {r o : List Int} (hr : Good r) (ho : Good o) (h : fit r o = true) (n : o ≠ r) : hard o < hard r :=
  two (P := fun r o => fit r o = true → o ≠ r → hard o < hard r) (fun a b c d a' b' c' d' g g' h n => by
    have h : fitB a b c d a' b' c' d' = true := h
    unfold fitB at h
    simp only [Bool.and_eq_true, decide_eq_true_eq] at h
    unfold good at g g'
    show ((9 - a') + b' + c' + d').toNat < ((9 - a) + b + c + d).toNat
    have : ¬ (a' = a ∧ b' = b ∧ c' = c ∧ d' = d) := fun z => n (by rw [z.1, z.2.1, z.2.2.1, z.2.2.2])
    omega) hr ho h n
theorem least_any {rs : List (List Int)} (h : ∀ q ∈ rs, Good q) {m : List Int} (hm : Good m) : (rs.any fun q => fit m q) = ((least (S rs) (S rs)).any fun q => fit m q) := by
  have down : ∀ (n : Nat) (r : List Int), hard r ≤ n → r ∈ rs → fit m r = true → ∃ q, q ∈ least (S rs) (S rs) ∧ fit m q = true := by
    intro n
    induction n with
    | zero =>
      intro r hn hr hf
      cases e : (S rs).any fun o => !decide (o = r) && fit r o with
      | false => exact ⟨r, List.mem_filter.mpr ⟨S_mem.mpr hr, by rw [e]; rfl⟩, hf⟩
      | true =>
        obtain ⟨o, ho, e2⟩ := List.any_eq_true.mp e
        obtain ⟨n1, f1⟩ := Bool.and_eq_true_iff.mp e2
        have n1 : o ≠ r := of_decide_eq_false (by simpa using n1)
        have := hard_lt (h r hr) (h o (S_mem.mp ho)) f1 n1
        omega
    | succ n ih =>
      intro r hn hr hf
      cases e : (S rs).any fun o => !decide (o = r) && fit r o with
      | false => exact ⟨r, List.mem_filter.mpr ⟨S_mem.mpr hr, by rw [e]; rfl⟩, hf⟩
      | true =>
        obtain ⟨o, ho, e2⟩ := List.any_eq_true.mp e
        obtain ⟨n1, f1⟩ := Bool.and_eq_true_iff.mp e2
        have n1 : o ≠ r := of_decide_eq_false (by simpa using n1)
        have ho := S_mem.mp ho
        exact ih o (by have := hard_lt (h r hr) (h o ho) f1 n1; omega) ho (fit_transR hm (h r hr) (h o ho) hf f1)
  rw [Bool.eq_iff_iff, List.any_eq_true, List.any_eq_true]
  exact ⟨fun ⟨r, hr, hf⟩ => down _ r (Nat.le_refl _) hr hf, fun ⟨q, hq, hf⟩ => ⟨q, S_mem.mp (least_sub hq), hf⟩⟩
end LW

end
section
set_option maxRecDepth 100000
set_option maxHeartbeats 1000000
namespace LW
open Vy
theorem dLc_ok {C : Vy.Callee} {d : Den} {t : Tg} {it : IDen} {ifs : List ODen} {own : List Nat} {e e1 e2 : Env} {xs : List IV} {ys : List SV} (h1 : it e = .ok xs e1) (h2 : compL t own (tAll T C ifs) d xs [] (wipe own e1) = .ok ys e2) : dLc T C d t it ifs own e = .ok (.ol ys) e2 := by
  unfold dLc
  rw [h1, bind_ok, h2, bind_ok]
theorem sAsg_ok {i : Nat} {d : Den} {e e' : Env} {r : SV} (h : d e = .ok r e') : sAsg (.n i) d e = .ok .nx (setE e' i r) := by
  unfold sAsg
  rw [h, bind_ok]
section
variable {s0 s1 s2 s3 s4 s5 s6 s7 s8 s9 s10 s11 s12 s13 : SV}
theorem inner5 {q : List Int} (hq : Good q) : ∀ (os : List (List Int)) (acc : List SV), (∀ o ∈ os, Good o) → acc.length + os.length ≤ 1000 →
    compL (.n 5) [5] (tAll T (callN Fs 14 14) []) (dAnd (dCmp T (callN Fs 14 14) 1 (oS 5) (oS 4)) (dCall (callN Fs 14 14) 18 (aOwn 4 (aOwn 5 aNil)))) (os.map ivRow) acc [s0, s1, s2, s3, .fz (ivRow q), .und, s6, s7, s8, s9, s10, s11, s12, s13] =
      .ok (acc ++ os.map fun o => .fz (.bl (!decide (o = q) && fit q o))) [s0, s1, s2, s3, .fz (ivRow q), .und, s6, s7, s8, s9, s10, s11, s12, s13]
  | [], acc, _, _ => by rw [List.map_nil, List.map_nil, List.append_nil]; rfl
  | o :: os, acc, h, hl => by
    have ho := h o List.mem_cons_self
    have hl' : acc.length + os.length + 1 ≤ 1000 := by simp at hl; omega
    have c18 : callN Fs 14 14 18 [.fz (ivRow q), .fz (ivRow o)] = _ := easierR 13 hq ho
    have fe : (dAnd (dCmp T (callN Fs 14 14) 1 (oS 5) (oS 4)) (dCall (callN Fs 14 14) 18 (aOwn 4 (aOwn 5 aNil)))) [s0, s1, s2, s3, .fz (ivRow q), .fz (ivRow o), s6, s7, s8, s9, s10, s11, s12, s13] = .ok (.fz (.bl (!decide (o = q) && fit q o))) [s0, s1, s2, s3, .fz (ivRow q), .fz (ivRow o), s6, s7, s8, s9, s10, s11, s12, s13] := by
      cases e : decide (o = q) <;> simp only [sSeq, sRet, sIf, sEx, sPas, sAsg, dIte, dAnd, dOr, dNot, dVar, tst, oE, dCmp, looked2, looked, oS, getE_0, getE_s, bind_ok, OV.at, SV.flat, SV.frz, dLst, lNil, eqR, metG_nil, clsS, retO_some, veq_int, veq_bl, veq_row, len4, dec4, fits, List.length_nil, nl, List.map_nil, List.all_nil, SV.frzL, Bool.and_self, truthR, truth, dTup, lCons, dSub, dBin, thaw, dBlt, osCons, osNil, atAll, blt0_lst, blt0_tup, blt15, binop, subS, subV, bindT, bindT.bindTs, setE_0, setE_s, List.length_cons, Bool.not_false, Bool.not_true, Nat.ble, dCon, cmpop, dCall, aOwn, aVal, aNil, called, owns, nodupN, called.go, List.map_cons, AV.sv, back, idx4_0, idx4_1, idx4_2, idx4_3, List.any_nil, Bool.and_true, beq_self_eq_true, blt5_row, nl_frz, nl_rw, veqR ho hq, e, c18, Bool.true_and, Bool.false_and]
    rw [List.map_cons, compL_true (ok := tAll T (callN Fs 14 14) []) (acc := acc) (e1 := [s0, s1, s2, s3, .fz (ivRow q), .fz (ivRow o), s6, s7, s8, s9, s10, s11, s12, s13]) (e2 := [s0, s1, s2, s3, .fz (ivRow q), .fz (ivRow o), s6, s7, s8, s9, s10, s11, s12, s13]) rfl rfl fe (by omega)]
    exact (inner5 hq os (acc ++ [.fz (.bl (!decide (o = q) && fit q o))]) (fun p hp => h p (List.mem_cons_of_mem _ hp)) (by simp; omega)).trans (by rw [List.append_assoc] <;> rfl)
theorem cond5 {rs : List (List Int)} (hr : ∀ o ∈ rs, Good o) (hl : rs.length ≤ 7) {q : List Int} (hq : Good q) :
    tAll T (callN Fs 14 14) [(oE (dNot T (callN Fs 14 14) (oE (dBlt T (callN Fs 14 14) 3 (osCons (oE (dLc T (callN Fs 14 14) (dAnd (dCmp T (callN Fs 14 14) 1 (oS 5) (oS 4)) (dCall (callN Fs 14 14) 18 (aOwn 4 (aOwn 5 aNil)))) (.n 5) (iOne 0 (oS 2)) [] [5])) osNil)))))] [s0, s1, .fz (.lst (rs.map ivRow)), s3, .fz (ivRow q), s5, s6, s7, s8, s9, s10, s11, s12, s13] = .ok (!(rs.any fun o => !decide (o = q) && fit q o)) [s0, s1, .fz (.lst (rs.map ivRow)), s3, .fz (ivRow q), .und, s6, s7, s8, s9, s10, s11, s12, s13] := by
  have ic := inner5 (s0 := s0) (s1 := s1) (s2 := .fz (.lst (rs.map ivRow))) (s3 := s3) (s6 := s6) (s7 := s7) (s8 := s8) (s9 := s9) (s10 := s10) (s11 := s11) (s12 := s12) (s13 := s13) hq rs [] hr (by simp; omega)
  rw [List.nil_append] at ic
  have lc : dLc T (callN Fs 14 14) (dAnd (dCmp T (callN Fs 14 14) 1 (oS 5) (oS 4)) (dCall (callN Fs 14 14) 18 (aOwn 4 (aOwn 5 aNil)))) (.n 5) (iOne 0 (oS 2)) [] [5] [s0, s1, .fz (.lst (rs.map ivRow)), s3, .fz (ivRow q), s5, s6, s7, s8, s9, s10, s11, s12, s13] = .ok (.ol (rs.map fun o => .fz (.bl (!decide (o = q) && fit q o)))) [s0, s1, .fz (.lst (rs.map ivRow)), s3, .fz (ivRow q), .und, s6, s7, s8, s9, s10, s11, s12, s13] := by
    unfold dLc
    rw [show iOne 0 (oS 2) [s0, s1, .fz (.lst (rs.map ivRow)), s3, .fz (ivRow q), s5, s6, s7, s8, s9, s10, s11, s12, s13] = .ok (rs.map ivRow) [s0, s1, .fz (.lst (rs.map ivRow)), s3, .fz (ivRow q), s5, s6, s7, s8, s9, s10, s11, s12, s13] from rfl, bind_ok]
    rw [show wipe [5] [s0, s1, .fz (.lst (rs.map ivRow)), s3, .fz (ivRow q), s5, s6, s7, s8, s9, s10, s11, s12, s13] = [s0, s1, .fz (.lst (rs.map ivRow)), s3, .fz (ivRow q), .und, s6, s7, s8, s9, s10, s11, s12, s13] from rfl, ic]
    rfl
  have b3 := blt3_rows (fun o => !decide (o = q) && fit q o) rs
  generalize dLc T (callN Fs 14 14) (dAnd (dCmp T (callN Fs 14 14) 1 (oS 5) (oS 4)) (dCall (callN Fs 14 14) 18 (aOwn 4 (aOwn 5 aNil)))) (.n 5) (iOne 0 (oS 2)) [] [5] = D at lc ⊢
  simp only [tAll, sSeq, sRet, sIf, sEx, sPas, sAsg, dIte, dAnd, dOr, dNot, dVar, tst, oE, dCmp, looked2, looked, oS, getE_0, getE_s, bind_ok, OV.at, SV.flat, SV.frz, dLst, lNil, eqR, metG_nil, clsS, retO_some, veq_int, veq_bl, veq_row, len4, dec4, fits, List.length_nil, nl, List.map_nil, List.all_nil, SV.frzL, Bool.and_self, truthR, truth, dTup, lCons, dSub, dBin, thaw, dBlt, osCons, osNil, atAll, blt0_lst, blt0_tup, blt15, binop, subS, subV, bindT, bindT.bindTs, setE_0, setE_s, List.length_cons, Bool.not_false, Bool.not_true, Nat.ble, dCon, cmpop, dCall, aOwn, aVal, aNil, called, owns, nodupN, called.go, List.map_cons, AV.sv, back, idx4_0, idx4_1, idx4_2, idx4_3, List.any_nil, Bool.and_true, beq_self_eq_true, blt5_row, nl_frz, nl_rw, lc, b3]
  cases rs.any (fun o => !decide (o = q) && fit q o) <;> rfl
theorem outer5 {rs : List (List Int)} (hr : ∀ o ∈ rs, Good o) (hl : rs.length ≤ 7) : ∀ (ss : List (List Int)) (acc : List SV) (s5 : SV), (∀ o ∈ ss, Good o) → acc.length + ss.length ≤ 1000 → ∃ s5' : SV,
    compL (.n 4) [4] (tAll T (callN Fs 14 14) [(oE (dNot T (callN Fs 14 14) (oE (dBlt T (callN Fs 14 14) 3 (osCons (oE (dLc T (callN Fs 14 14) (dAnd (dCmp T (callN Fs 14 14) 1 (oS 5) (oS 4)) (dCall (callN Fs 14 14) 18 (aOwn 4 (aOwn 5 aNil)))) (.n 5) (iOne 0 (oS 2)) [] [5])) osNil)))))]) (dVar 4) (ss.map ivRow) acc [s0, s1, .fz (.lst (rs.map ivRow)), s3, .und, s5, s6, s7, s8, s9, s10, s11, s12, s13] =
      .ok (acc ++ (least ss rs).map (fun q => SV.fz (ivRow q))) [s0, s1, .fz (.lst (rs.map ivRow)), s3, .und, s5', s6, s7, s8, s9, s10, s11, s12, s13]
  | [], acc, s5, _, _ => ⟨s5, by rw [List.map_nil, least, List.filter_nil, List.map_nil, List.append_nil]; rfl⟩
  | q :: ss, acc, s5, h, hl2 => by
    have hq := h q List.mem_cons_self
    have ce := cond5 (s0 := s0) (s1 := s1) (s3 := s3) (s5 := s5) (s6 := s6) (s7 := s7) (s8 := s8) (s9 := s9) (s10 := s10) (s11 := s11) (s12 := s12) (s13 := s13) hr hl hq
    have hl' : acc.length + ss.length + 1 ≤ 1000 := by simp at hl2; omega
    cases e : rs.any (fun o => !decide (o = q) && fit q o) with
    | true =>
      have el : least (q :: ss) rs = least ss rs := by
        unfold least
        rw [List.filter_cons, e]
        rfl
      rw [e] at ce
      have ih := outer5 hr hl ss acc .und (fun p hp => h p (List.mem_cons_of_mem _ hp)) (by omega)
      cases ih with | intro s5' ih =>
      refine ⟨s5', ?_⟩
      rw [List.map_cons, el, compL_false (e1 := [s0, s1, .fz (.lst (rs.map ivRow)), s3, .fz (ivRow q), s5, s6, s7, s8, s9, s10, s11, s12, s13]) rfl ce]
      exact ih
    | false =>
      have el : least (q :: ss) rs = q :: least ss rs := by
        unfold least
        rw [List.filter_cons, e]
        rfl
      rw [e] at ce
      have ih := outer5 hr hl ss (acc ++ [.fz (ivRow q)]) .und (fun p hp => h p (List.mem_cons_of_mem _ hp)) (by simp; omega)
      cases ih with | intro s5' ih =>
      refine ⟨s5', ?_⟩
      rw [List.map_cons, el, compL_true (acc := acc) (f := dVar 4) (e1 := [s0, s1, .fz (.lst (rs.map ivRow)), s3, .fz (ivRow q), s5, s6, s7, s8, s9, s10, s11, s12, s13]) (e3 := [s0, s1, .fz (.lst (rs.map ivRow)), s3, .fz (ivRow q), .und, s6, s7, s8, s9, s10, s11, s12, s13]) (y := .fz (ivRow q)) rfl ce rfl (by omega)]
      exact ih.trans (by rw [List.append_assoc] <;> rfl)
theorem part3 {rs : List (List Int)} (hr : ∀ o ∈ rs, Good o) (h1 : 1 ≤ rs.length) (hl : rs.length ≤ 7) : ∃ s5' : SV, (sAsg (.n 8) (dLc T (callN Fs 14 14) (dVar 4) (.n 4) (iOne 0 (oE (dSSet (oS 2)))) [(oE (dNot T (callN Fs 14 14) (oE (dBlt T (callN Fs 14 14) 3 (osCons (oE (dLc T (callN Fs 14 14) (dAnd (dCmp T (callN Fs 14 14) 1 (oS 5) (oS 4)) (dCall (callN Fs 14 14) 18 (aOwn 4 (aOwn 5 aNil)))) (.n 5) (iOne 0 (oS 2)) [] [5])) osNil)))))] [4])) [s0, s1, .fz (.lst (rs.map ivRow)), s3, s4, s5, s6, s7, s8, s9, s10, s11, s12, s13] =
    .ok .nx [s0, s1, .fz (.lst (rs.map ivRow)), s3, .und, s5', s6, s7, .ol ((least (S rs) (S rs)).map (fun q => SV.fz (ivRow q))), s9, s10, s11, s12, s13] := by
  have ss := sset_rows hr h1 hl
  have fr := frzL_rows (S rs)
  have it : iOne 0 (oE (dSSet (oS 2))) [s0, s1, .fz (.lst (rs.map ivRow)), s3, s4, s5, s6, s7, s8, s9, s10, s11, s12, s13] = .ok ((S rs).map ivRow) [s0, s1, .fz (.lst (rs.map ivRow)), s3, s4, s5, s6, s7, s8, s9, s10, s11, s12, s13] := by
    simp only [dSSet, iOne, gone, itV, sSeq, sRet, sIf, sEx, sPas, sAsg, dIte, dAnd, dOr, dNot, dVar, tst, oE, dCmp, looked2, looked, oS, getE_0, getE_s, bind_ok, OV.at, SV.flat, SV.frz, dLst, lNil, eqR, metG_nil, clsS, retO_some, veq_int, veq_bl, veq_row, len4, dec4, fits, List.length_nil, nl, List.map_nil, List.all_nil, SV.frzL, Bool.and_self, truthR, truth, dTup, lCons, dSub, dBin, thaw, dBlt, osCons, osNil, atAll, blt0_lst, blt0_tup, blt15, binop, subS, subV, bindT, bindT.bindTs, setE_0, setE_s, List.length_cons, Bool.not_false, Bool.not_true, Nat.ble, dCon, cmpop, dCall, aOwn, aVal, aNil, called, owns, nodupN, called.go, List.map_cons, AV.sv, back, idx4_0, idx4_1, idx4_2, idx4_3, List.any_nil, Bool.and_true, beq_self_eq_true, blt5_row, nl_frz, nl_rw, ss, fr]
  have lS := S_len (rs := rs)
  have oc := outer5 (s0 := s0) (s1 := s1) (s3 := s3) (s6 := s6) (s7 := s7) (s8 := s8) (s9 := s9) (s10 := s10) (s11 := s11) (s12 := s12) (s13 := s13) hr hl (S rs) [] s5 (fun q hq => hr q (S_mem.mp hq)) (by simp; omega)
  cases oc with | intro s5' oc =>
  refine ⟨s5', ?_⟩
  rw [List.nil_append, least_S] at oc
  exact sAsg_ok (dLc_ok it oc)
theorem binop_rows (a : List (List Int)) (h : a.length ≤ 500) : binop 0 (.lst (a.map ivRow)) (.lst (a.map ivRow)) = some (.ol ((a ++ a).map (fun q => SV.fz (ivRow q)))) := by
  unfold binop
  dsimp only
  rw [show Nat.ble ((a.map ivRow).length + (a.map ivRow).length) 1000000 = true from Nat.ble_eq.mpr (by rw [List.length_map]; omega)]
  dsimp only
  rw [← List.map_append, nl_rows]
  rfl
theorem blt5_lst (a : List (List Int)) : bltV 5 [.lst (a.map ivRow)] = some (.ol (a.map (fun q => SV.fz (ivRow q)))) := congrArg some (nl_rows a)
theorem part4 {rs : List (List Int)} (hr : ∀ o ∈ rs, Good o) (hl : rs.length ≤ 7) :
    (sIf T (callN Fs 14 14) (oE (dOr (dCmp T (callN Fs 14 14) 1 (oE (dBlt T (callN Fs 14 14) 5 (osCons (oE (dCall (callN Fs 14 14) 10 (aOwn 2 aNil))) osNil))) (oS 8)) (dOr (dCmp T (callN Fs 14 14) 1 (oE (dBlt T (callN Fs 14 14) 5 (osCons (oE (dCall (callN Fs 14 14) 10 (aVal (dLst lNil) aNil))) osNil))) (oE (dLst lNil))) (dCmp T (callN Fs 14 14) 1 (oE (dBlt T (callN Fs 14 14) 5 (osCons (oE (dCall (callN Fs 14 14) 10 (aVal (dBin 0 (oS 8) (oS 8)) aNil))) osNil))) (oS 8))))) (sRet (dCon (.bl false))) sPas) [s0, s1, .fz (.lst (rs.map ivRow)), s3, s4, s5, s6, s7, .ol ((least (S rs) (S rs)).map (fun q => SV.fz (ivRow q))), s9, s10, s11, s12, s13] = .ok .nx [s0, s1, .fz (.lst (rs.map ivRow)), s3, s4, s5, s6, s7, .ol ((least (S rs) (S rs)).map (fun q => SV.fz (ivRow q))), s9, s10, s11, s12, s13] := by
  have c1 : callN Fs 14 14 10 [.fz (.lst (rs.map ivRow))] = _ := leastOf_ev 9 hr (by omega)
  have c2 : callN Fs 14 14 10 [.fz (.lst [])] = .ok (.ol [], [.fz (.lst [])]) [] := by kernel_rfl
  have lS := S_len (rs := rs)
  have lL : (least (S rs) (S rs)).length ≤ (S rs).length := List.length_filter_le _ _
  have gL : ∀ q ∈ least (S rs) (S rs) ++ least (S rs) (S rs), Good q := fun q hq => hr q (S_mem.mp (least_sub ((List.mem_append.mp hq).elim id id)))
  have c3 : callN Fs 14 14 10 [.fz (.lst ((least (S rs) (S rs) ++ least (S rs) (S rs)).map ivRow))] = _ := leastOf_ev 9 gL (by simp; omega)
  rw [least_twice] at c3
  have bo := binop_rows (least (S rs) (S rs)) (by omega)
  have fr := frzL_rows (least (S rs) (S rs))
  have fr2 := frzL_rows (least (S rs) (S rs) ++ least (S rs) (S rs))
  have af := all_isF (least (S rs) (S rs))
  have vq := veq_rows (least (S rs) (S rs))
  have vn : veq (.lst []) (.lst []) = some true := by kernel_rfl
  have b5 := blt5_lst (least (S rs) (S rs))
  have b5n : bltV 5 [.lst []] = some (.ol []) := rfl
  have d1 : dBlt T (callN Fs 14 14) 5 (osCons (oE (dCall (callN Fs 14 14) 10 (aOwn 2 aNil))) osNil) [s0, s1, .fz (.lst (rs.map ivRow)), s3, s4, s5, s6, s7, .ol ((least (S rs) (S rs)).map (fun q => SV.fz (ivRow q))), s9, s10, s11, s12, s13] = .ok (.ol ((least (S rs) (S rs)).map (fun q => SV.fz (ivRow q)))) [s0, s1, .fz (.lst (rs.map ivRow)), s3, s4, s5, s6, s7, .ol ((least (S rs) (S rs)).map (fun q => SV.fz (ivRow q))), s9, s10, s11, s12, s13] := by
    simp only [sSeq, sRet, sIf, sEx, sPas, sAsg, dIte, dAnd, dOr, dNot, dVar, tst, oE, dCmp, looked2, looked, oS, getE_0, getE_s, bind_ok, OV.at, SV.flat, SV.frz, dLst, lNil, eqR, metG_nil, clsS, retO_some, veq_int, veq_bl, veq_row, len4, dec4, fits, List.length_nil, nl, List.map_nil, List.all_nil, SV.frzL, Bool.and_self, truthR, truth, dTup, lCons, dSub, dBin, thaw, dBlt, osCons, osNil, atAll, blt0_lst, blt0_tup, blt15, binop, subS, subV, bindT, bindT.bindTs, setE_0, setE_s, List.length_cons, Bool.not_false, Bool.not_true, Nat.ble, dCon, cmpop, dCall, aOwn, aVal, aNil, called, owns, nodupN, called.go, List.map_cons, AV.sv, back, idx4_0, idx4_1, idx4_2, idx4_3, List.any_nil, Bool.and_true, beq_self_eq_true, blt5_row, nl_frz, nl_rw, c1, fr, b5]
  have d2 : dBlt T (callN Fs 14 14) 5 (osCons (oE (dCall (callN Fs 14 14) 10 (aVal (dLst lNil) aNil))) osNil) [s0, s1, .fz (.lst (rs.map ivRow)), s3, s4, s5, s6, s7, .ol ((least (S rs) (S rs)).map (fun q => SV.fz (ivRow q))), s9, s10, s11, s12, s13] = .ok (.ol []) [s0, s1, .fz (.lst (rs.map ivRow)), s3, s4, s5, s6, s7, .ol ((least (S rs) (S rs)).map (fun q => SV.fz (ivRow q))), s9, s10, s11, s12, s13] := by
    simp only [sSeq, sRet, sIf, sEx, sPas, sAsg, dIte, dAnd, dOr, dNot, dVar, tst, oE, dCmp, looked2, looked, oS, getE_0, getE_s, bind_ok, OV.at, SV.flat, SV.frz, dLst, lNil, eqR, metG_nil, clsS, retO_some, veq_int, veq_bl, veq_row, len4, dec4, fits, List.length_nil, nl, List.map_nil, List.all_nil, SV.frzL, Bool.and_self, truthR, truth, dTup, lCons, dSub, dBin, thaw, dBlt, osCons, osNil, atAll, blt0_lst, blt0_tup, blt15, binop, subS, subV, bindT, bindT.bindTs, setE_0, setE_s, List.length_cons, Bool.not_false, Bool.not_true, Nat.ble, dCon, cmpop, dCall, aOwn, aVal, aNil, called, owns, nodupN, called.go, List.map_cons, AV.sv, back, idx4_0, idx4_1, idx4_2, idx4_3, List.any_nil, Bool.and_true, beq_self_eq_true, blt5_row, nl_frz, nl_rw, c2, b5n]
  have d3a : dBin 0 (oS 8) (oS 8) [s0, s1, .fz (.lst (rs.map ivRow)), s3, s4, s5, s6, s7, .ol ((least (S rs) (S rs)).map (fun q => SV.fz (ivRow q))), s9, s10, s11, s12, s13] = .ok (.ol ((least (S rs) (S rs) ++ least (S rs) (S rs)).map (fun q => SV.fz (ivRow q)))) [s0, s1, .fz (.lst (rs.map ivRow)), s3, s4, s5, s6, s7, .ol ((least (S rs) (S rs)).map (fun q => SV.fz (ivRow q))), s9, s10, s11, s12, s13] := by
    unfold dBin
    simp only [looked2, oS, getE_0, getE_s, bind_ok, OV.at, SV.flat, af, SV.frz, fr, bo, retO_some]
  have d3 : dBlt T (callN Fs 14 14) 5 (osCons (oE (dCall (callN Fs 14 14) 10 (aVal (dBin 0 (oS 8) (oS 8)) aNil))) osNil) [s0, s1, .fz (.lst (rs.map ivRow)), s3, s4, s5, s6, s7, .ol ((least (S rs) (S rs)).map (fun q => SV.fz (ivRow q))), s9, s10, s11, s12, s13] = .ok (.ol ((least (S rs) (S rs)).map (fun q => SV.fz (ivRow q)))) [s0, s1, .fz (.lst (rs.map ivRow)), s3, s4, s5, s6, s7, .ol ((least (S rs) (S rs)).map (fun q => SV.fz (ivRow q))), s9, s10, s11, s12, s13] := by
    generalize dBin 0 (oS 8) (oS 8) = D at d3a ⊢
    simp only [sSeq, sRet, sIf, sEx, sPas, sAsg, dIte, dAnd, dOr, dNot, dVar, tst, oE, dCmp, looked2, looked, oS, getE_0, getE_s, bind_ok, OV.at, SV.flat, SV.frz, dLst, lNil, eqR, metG_nil, clsS, retO_some, veq_int, veq_bl, veq_row, len4, dec4, fits, List.length_nil, nl, List.map_nil, List.all_nil, SV.frzL, Bool.and_self, truthR, truth, dTup, lCons, dSub, dBin, thaw, dBlt, osCons, osNil, atAll, blt0_lst, blt0_tup, blt15, binop, subS, subV, bindT, bindT.bindTs, setE_0, setE_s, List.length_cons, Bool.not_false, Bool.not_true, Nat.ble, dCon, cmpop, dCall, aOwn, aVal, aNil, called, owns, nodupN, called.go, List.map_cons, AV.sv, back, idx4_0, idx4_1, idx4_2, idx4_3, List.any_nil, Bool.and_true, beq_self_eq_true, blt5_row, nl_frz, nl_rw, d3a, fr2, c3, fr, b5]
  generalize dBlt T (callN Fs 14 14) 5 (osCons (oE (dCall (callN Fs 14 14) 10 (aOwn 2 aNil))) osNil) = D1 at d1 ⊢
  generalize dBlt T (callN Fs 14 14) 5 (osCons (oE (dCall (callN Fs 14 14) 10 (aVal (dLst lNil) aNil))) osNil) = D2 at d2 ⊢
  generalize dBlt T (callN Fs 14 14) 5 (osCons (oE (dCall (callN Fs 14 14) 10 (aVal (dBin 0 (oS 8) (oS 8)) aNil))) osNil) = D3 at d3 ⊢
  simp only [sSeq, sRet, sIf, sEx, sPas, sAsg, dIte, dAnd, dOr, dNot, dVar, tst, oE, dCmp, looked2, looked, oS, getE_0, getE_s, bind_ok, OV.at, SV.flat, SV.frz, dLst, lNil, eqR, metG_nil, clsS, retO_some, veq_int, veq_bl, veq_row, len4, dec4, fits, List.length_nil, nl, List.map_nil, List.all_nil, SV.frzL, Bool.and_self, truthR, truth, dTup, lCons, dSub, dBin, thaw, dBlt, osCons, osNil, atAll, blt0_lst, blt0_tup, blt15, binop, subS, subV, bindT, bindT.bindTs, setE_0, setE_s, List.length_cons, Bool.not_false, Bool.not_true, Nat.ble, dCon, cmpop, dCall, aOwn, aVal, aNil, called, owns, nodupN, called.go, List.map_cons, AV.sv, back, idx4_0, idx4_1, idx4_2, idx4_3, List.any_nil, Bool.and_true, beq_self_eq_true, blt5_row, nl_frz, nl_rw, d1, d2, d3, fr, af, vq, vn]
end
end LW

end
section
set_option maxRecDepth 100000
set_option maxHeartbeats 1000000
namespace LW
open Vy
section
variable {s0 s1 s2 s3 s4 s5 s6 s7 s8 s9 s10 s11 s12 s13 : SV}
theorem fit16 {m : List Int} (hm : Good m) : ∀ (rs : List (List Int)) (acc : List SV), (∀ o ∈ rs, Good o) → acc.length + rs.length ≤ 1000 →
    compL (.n 9) [9] (tAll T (callN Fs 14 14) []) (dCall (callN Fs 14 14) 16 (aOwn 7 (aOwn 9 aNil))) (rs.map ivRow) acc [s0, s1, s2, s3, s4, s5, s6, .fz (ivRow m), s8, .und, s10, s11, s12, s13] = .ok (acc ++ rs.map fun q => .fz (.bl (fit m q))) [s0, s1, s2, s3, s4, s5, s6, .fz (ivRow m), s8, .und, s10, s11, s12, s13]
  | [], acc, _, _ => by rw [List.map_nil, List.map_nil, List.append_nil]; rfl
  | q :: rs, acc, h, hl => by
    have hq := h q List.mem_cons_self
    have hl' : acc.length + rs.length + 1 ≤ 1000 := by simp at hl; omega
    have c16 : callN Fs 14 14 16 [.fz (ivRow m), .fz (ivRow q)] = _ := fitsR 13 hm hq
    have fe : dCall (callN Fs 14 14) 16 (aOwn 7 (aOwn 9 aNil)) [s0, s1, s2, s3, s4, s5, s6, .fz (ivRow m), s8, .fz (ivRow q), s10, s11, s12, s13] = .ok (.fz (.bl (fit m q))) [s0, s1, s2, s3, s4, s5, s6, .fz (ivRow m), s8, .fz (ivRow q), s10, s11, s12, s13] := by
      simp only [sSeq, sRet, sIf, sEx, sPas, sAsg, dIte, dAnd, dOr, dNot, dVar, tst, oE, dCmp, looked2, looked, oS, getE_0, getE_s, bind_ok, OV.at, SV.flat, SV.frz, dLst, lNil, eqR, metG_nil, clsS, retO_some, veq_int, veq_bl, veq_row, len4, dec4, fits, List.length_nil, nl, List.map_nil, List.all_nil, SV.frzL, Bool.and_self, truthR, truth, dTup, lCons, dSub, dBin, thaw, dBlt, osCons, osNil, atAll, blt0_lst, blt0_tup, blt15, binop, subS, subV, bindT, bindT.bindTs, setE_0, setE_s, List.length_cons, Bool.not_false, Bool.not_true, Nat.ble, dCon, cmpop, dCall, aOwn, aVal, aNil, called, owns, nodupN, called.go, List.map_cons, AV.sv, back, idx4_0, idx4_1, idx4_2, idx4_3, List.any_nil, Bool.and_true, beq_self_eq_true, blt5_row, nl_frz, nl_rw, c16]
    rw [List.map_cons, compL_true (ok := tAll T (callN Fs 14 14) []) (acc := acc) (e1 := [s0, s1, s2, s3, s4, s5, s6, .fz (ivRow m), s8, .fz (ivRow q), s10, s11, s12, s13]) (e2 := [s0, s1, s2, s3, s4, s5, s6, .fz (ivRow m), s8, .fz (ivRow q), s10, s11, s12, s13]) rfl rfl fe (by omega)]
    exact (fit16 hm rs (acc ++ [.fz (.bl (fit m q))]) (fun p hp => h p (List.mem_cons_of_mem _ hp)) (by simp; omega)).trans (by rw [List.append_assoc] <;> rfl)
variable {rs : List (List Int)} {m : List Int}
theorem k1 (hr : ∀ o ∈ rs, Good o) (hl : rs.length ≤ 7) (hm : Good m) : dCall (callN Fs 14 14) 12 (aOwn 7 (aOwn 2 aNil)) [s0, s1, .fz (.lst (rs.map ivRow)), s3, s4, s5, s6, .fz (ivRow m), s8, s9, s10, s11, s12, s13] = .ok (.fz (.bl (rs.any fun q => fit m q))) [s0, s1, .fz (.lst (rs.map ivRow)), s3, s4, s5, s6, .fz (ivRow m), s8, s9, s10, s11, s12, s13] := by
  have c : callN Fs 14 14 12 [.fz (ivRow m), .fz (.lst (rs.map ivRow))] = _ := any_ev 9 hm hr (by omega)
  simp only [sSeq, sRet, sIf, sEx, sPas, sAsg, dIte, dAnd, dOr, dNot, dVar, tst, oE, dCmp, looked2, looked, oS, getE_0, getE_s, bind_ok, OV.at, SV.flat, SV.frz, dLst, lNil, eqR, metG_nil, clsS, retO_some, veq_int, veq_bl, veq_row, len4, dec4, fits, List.length_nil, nl, List.map_nil, List.all_nil, SV.frzL, Bool.and_self, truthR, truth, dTup, lCons, dSub, dBin, thaw, dBlt, osCons, osNil, atAll, blt0_lst, blt0_tup, blt15, binop, subS, subV, bindT, bindT.bindTs, setE_0, setE_s, List.length_cons, Bool.not_false, Bool.not_true, Nat.ble, dCon, cmpop, dCall, aOwn, aVal, aNil, called, owns, nodupN, called.go, List.map_cons, AV.sv, back, idx4_0, idx4_1, idx4_2, idx4_3, List.any_nil, Bool.and_true, beq_self_eq_true, blt5_row, nl_frz, nl_rw, c]
theorem k3 (hr : ∀ o ∈ rs, Good o) (hl : rs.length ≤ 7) (hm : Good m) : dBlt T (callN Fs 14 14) 3 (osCons (oE (dLc T (callN Fs 14 14) (dCall (callN Fs 14 14) 16 (aOwn 7 (aOwn 9 aNil))) (.n 9) (iOne 0 (oS 2)) [] [9])) osNil) [s0, s1, .fz (.lst (rs.map ivRow)), s3, s4, s5, s6, .fz (ivRow m), s8, s9, s10, s11, s12, s13] = .ok (.fz (.bl (rs.any fun q => fit m q))) [s0, s1, .fz (.lst (rs.map ivRow)), s3, s4, s5, s6, .fz (ivRow m), s8, .und, s10, s11, s12, s13] := by
  have fc := fit16 (s0 := s0) (s1 := s1) (s2 := .fz (.lst (rs.map ivRow))) (s3 := s3) (s4 := s4) (s5 := s5) (s6 := s6) (s8 := s8) (s10 := s10) (s11 := s11) (s12 := s12) (s13 := s13) hm rs [] hr (by simp; omega)
  rw [List.nil_append] at fc
  have lc : dLc T (callN Fs 14 14) (dCall (callN Fs 14 14) 16 (aOwn 7 (aOwn 9 aNil))) (.n 9) (iOne 0 (oS 2)) [] [9] [s0, s1, .fz (.lst (rs.map ivRow)), s3, s4, s5, s6, .fz (ivRow m), s8, s9, s10, s11, s12, s13] = .ok (.ol (rs.map fun q => .fz (.bl (fit m q)))) [s0, s1, .fz (.lst (rs.map ivRow)), s3, s4, s5, s6, .fz (ivRow m), s8, .und, s10, s11, s12, s13] := dLc_ok (e1 := [s0, s1, .fz (.lst (rs.map ivRow)), s3, s4, s5, s6, .fz (ivRow m), s8, s9, s10, s11, s12, s13]) rfl fc
  have b3 := blt3_rows (fun q => fit m q) rs
  generalize dLc T (callN Fs 14 14) (dCall (callN Fs 14 14) 16 (aOwn 7 (aOwn 9 aNil))) (.n 9) (iOne 0 (oS 2)) [] [9] = D at lc ⊢
  simp only [sSeq, sRet, sIf, sEx, sPas, sAsg, dIte, dAnd, dOr, dNot, dVar, tst, oE, dCmp, looked2, looked, oS, getE_0, getE_s, bind_ok, OV.at, SV.flat, SV.frz, dLst, lNil, eqR, metG_nil, clsS, retO_some, veq_int, veq_bl, veq_row, len4, dec4, fits, List.length_nil, nl, List.map_nil, List.all_nil, SV.frzL, Bool.and_self, truthR, truth, dTup, lCons, dSub, dBin, thaw, dBlt, osCons, osNil, atAll, blt0_lst, blt0_tup, blt15, binop, subS, subV, bindT, bindT.bindTs, setE_0, setE_s, List.length_cons, Bool.not_false, Bool.not_true, Nat.ble, dCon, cmpop, dCall, aOwn, aVal, aNil, called, owns, nodupN, called.go, List.map_cons, AV.sv, back, idx4_0, idx4_1, idx4_2, idx4_3, List.any_nil, Bool.and_true, beq_self_eq_true, blt5_row, nl_frz, nl_rw, lc, b3]
theorem gl (hr : ∀ o ∈ rs, Good o) : ∀ q ∈ least (S rs) (S rs), Good q := fun q hq => hr q (S_mem.mp (least_sub hq))
theorem ll (hl : rs.length ≤ 7) : (least (S rs) (S rs)).length ≤ 500 := by
  have := S_len (rs := rs)
  have : (least (S rs) (S rs)).length ≤ (S rs).length := List.length_filter_le _ _
  omega
theorem k4 (hr : ∀ o ∈ rs, Good o) (hl : rs.length ≤ 7) (hm : Good m) (h8 : s8 = .ol ((least (S rs) (S rs)).map (fun q => SV.fz (ivRow q))) ∨ s8 = .fz (.lst ((least (S rs) (S rs)).map ivRow))) : dCall (callN Fs 14 14) 12 (aOwn 7 (aOwn 8 aNil)) [s0, s1, .fz (.lst (rs.map ivRow)), s3, s4, s5, s6, .fz (ivRow m), s8, .und, s10, s11, s12, s13] = .ok (.fz (.bl (rs.any fun q => fit m q))) [s0, s1, .fz (.lst (rs.map ivRow)), s3, s4, s5, s6, .fz (ivRow m), .fz (.lst ((least (S rs) (S rs)).map ivRow)), .und, s10, s11, s12, s13] := by
  rw [least_any hr hm]
  rcases h8 with e | e
  · rw [e]
    have c : callN Fs 14 14 12 [.fz (ivRow m), .ol ((least (S rs) (S rs)).map (fun q => SV.fz (ivRow q)))] = _ := any_evO 9 hm (gl hr) (ll hl)
    simp only [sSeq, sRet, sIf, sEx, sPas, sAsg, dIte, dAnd, dOr, dNot, dVar, tst, oE, dCmp, looked2, looked, oS, getE_0, getE_s, bind_ok, OV.at, SV.flat, SV.frz, dLst, lNil, eqR, metG_nil, clsS, retO_some, veq_int, veq_bl, veq_row, len4, dec4, fits, List.length_nil, nl, List.map_nil, List.all_nil, SV.frzL, Bool.and_self, truthR, truth, dTup, lCons, dSub, dBin, thaw, dBlt, osCons, osNil, atAll, blt0_lst, blt0_tup, blt15, binop, subS, subV, bindT, bindT.bindTs, setE_0, setE_s, List.length_cons, Bool.not_false, Bool.not_true, Nat.ble, dCon, cmpop, dCall, aOwn, aVal, aNil, called, owns, nodupN, called.go, List.map_cons, AV.sv, back, idx4_0, idx4_1, idx4_2, idx4_3, List.any_nil, Bool.and_true, beq_self_eq_true, blt5_row, nl_frz, nl_rw, c]
  · rw [e]
    have c : callN Fs 14 14 12 [.fz (ivRow m), .fz (.lst ((least (S rs) (S rs)).map ivRow))] = _ := any_ev 9 hm (gl hr) (ll hl)
    simp only [sSeq, sRet, sIf, sEx, sPas, sAsg, dIte, dAnd, dOr, dNot, dVar, tst, oE, dCmp, looked2, looked, oS, getE_0, getE_s, bind_ok, OV.at, SV.flat, SV.frz, dLst, lNil, eqR, metG_nil, clsS, retO_some, veq_int, veq_bl, veq_row, len4, dec4, fits, List.length_nil, nl, List.map_nil, List.all_nil, SV.frzL, Bool.and_self, truthR, truth, dTup, lCons, dSub, dBin, thaw, dBlt, osCons, osNil, atAll, blt0_lst, blt0_tup, blt15, binop, subS, subV, bindT, bindT.bindTs, setE_0, setE_s, List.length_cons, Bool.not_false, Bool.not_true, Nat.ble, dCon, cmpop, dCall, aOwn, aVal, aNil, called, owns, nodupN, called.go, List.map_cons, AV.sv, back, idx4_0, idx4_1, idx4_2, idx4_3, List.any_nil, Bool.and_true, beq_self_eq_true, blt5_row, nl_frz, nl_rw, c]
theorem k6 (hm : Good m) : dCall (callN Fs 14 14) 12 (aOwn 7 (aVal (dLst lNil) aNil)) [s0, s1, .fz (.lst (rs.map ivRow)), s3, s4, s5, s6, .fz (ivRow m), s8, s9, s10, s11, s12, s13] = .ok (.fz (.bl false)) [s0, s1, .fz (.lst (rs.map ivRow)), s3, s4, s5, s6, .fz (ivRow m), s8, s9, s10, s11, s12, s13] := by
  have c : callN Fs 14 14 12 [.fz (ivRow m), .fz (.lst [])] = _ := any_ev 9 (rs := []) hm (fun _ z => nomatch z) (by simp)
  simp only [sSeq, sRet, sIf, sEx, sPas, sAsg, dIte, dAnd, dOr, dNot, dVar, tst, oE, dCmp, looked2, looked, oS, getE_0, getE_s, bind_ok, OV.at, SV.flat, SV.frz, dLst, lNil, eqR, metG_nil, clsS, retO_some, veq_int, veq_bl, veq_row, len4, dec4, fits, List.length_nil, nl, List.map_nil, List.all_nil, SV.frzL, Bool.and_self, truthR, truth, dTup, lCons, dSub, dBin, thaw, dBlt, osCons, osNil, atAll, blt0_lst, blt0_tup, blt15, binop, subS, subV, bindT, bindT.bindTs, setE_0, setE_s, List.length_cons, Bool.not_false, Bool.not_true, Nat.ble, dCon, cmpop, dCall, aOwn, aVal, aNil, called, owns, nodupN, called.go, List.map_cons, AV.sv, back, idx4_0, idx4_1, idx4_2, idx4_3, List.any_nil, Bool.and_true, beq_self_eq_true, blt5_row, nl_frz, nl_rw, c, List.any_nil]
theorem cond7 (hr : ∀ o ∈ rs, Good o) (hl : rs.length ≤ 7) (hm : Good m) (h8 : s8 = .ol ((least (S rs) (S rs)).map (fun q => SV.fz (ivRow q))) ∨ s8 = .fz (.lst ((least (S rs) (S rs)).map ivRow))) : (sIf T (callN Fs 14 14) (oE (dOr (dCmp T (callN Fs 14 14) 1 (oE (dCall (callN Fs 14 14) 12 (aOwn 7 (aOwn 2 aNil)))) (oE (dBlt T (callN Fs 14 14) 3 (osCons (oE (dLc T (callN Fs 14 14) (dCall (callN Fs 14 14) 16 (aOwn 7 (aOwn 9 aNil))) (.n 9) (iOne 0 (oS 2)) [] [9])) osNil)))) (dOr (dCmp T (callN Fs 14 14) 1 (oE (dCall (callN Fs 14 14) 12 (aOwn 7 (aOwn 8 aNil)))) (oE (dCall (callN Fs 14 14) 12 (aOwn 7 (aOwn 2 aNil))))) (dCall (callN Fs 14 14) 12 (aOwn 7 (aVal (dLst lNil) aNil)))))) (sRet (dCon (.bl false))) sPas) [s0, s1, .fz (.lst (rs.map ivRow)), s3, s4, s5, s6, .fz (ivRow m), s8, s9, s10, s11, s12, s13] = .ok .nx [s0, s1, .fz (.lst (rs.map ivRow)), s3, s4, s5, s6, .fz (ivRow m), .fz (.lst ((least (S rs) (S rs)).map ivRow)), .und, s10, s11, s12, s13] := by
  have e1 := k1  (s0 := s0) (s1 := s1) (s3 := s3) (s4 := s4) (s5 := s5) (s6 := s6) (s10 := s10) (s11 := s11) (s12 := s12) (s13 := s13) (s8 := s8) (s9 := s9) hr hl hm
  have e3 := k3  (s0 := s0) (s1 := s1) (s3 := s3) (s4 := s4) (s5 := s5) (s6 := s6) (s10 := s10) (s11 := s11) (s12 := s12) (s13 := s13) (s8 := s8) (s9 := s9) hr hl hm
  have e4 := k4  (s0 := s0) (s1 := s1) (s3 := s3) (s4 := s4) (s5 := s5) (s6 := s6) (s10 := s10) (s11 := s11) (s12 := s12) (s13 := s13) hr hl hm h8
  have e5 := k1  (s0 := s0) (s1 := s1) (s3 := s3) (s4 := s4) (s5 := s5) (s6 := s6) (s10 := s10) (s11 := s11) (s12 := s12) (s13 := s13) (s8 := .fz (.lst ((least (S rs) (S rs)).map ivRow))) (s9 := .und) hr hl hm
  have e6 := k6  (s0 := s0) (s1 := s1) (s3 := s3) (s4 := s4) (s5 := s5) (s6 := s6) (s10 := s10) (s11 := s11) (s12 := s12) (s13 := s13) (rs := rs) (s8 := .fz (.lst ((least (S rs) (S rs)).map ivRow))) (s9 := .und) hm
  generalize dCall (callN Fs 14 14) 12 (aOwn 7 (aOwn 2 aNil)) = D1 at e1 e5 ⊢
  generalize dBlt T (callN Fs 14 14) 3 (osCons (oE (dLc T (callN Fs 14 14) (dCall (callN Fs 14 14) 16 (aOwn 7 (aOwn 9 aNil))) (.n 9) (iOne 0 (oS 2)) [] [9])) osNil) = D3 at e3 ⊢
  generalize dCall (callN Fs 14 14) 12 (aOwn 7 (aOwn 8 aNil)) = D4 at e4 ⊢
  generalize dCall (callN Fs 14 14) 12 (aOwn 7 (aVal (dLst lNil) aNil)) = D6 at e6 ⊢
  simp only [sSeq, sRet, sIf, sEx, sPas, sAsg, dIte, dAnd, dOr, dNot, dVar, tst, oE, dCmp, looked2, looked, oS, getE_0, getE_s, bind_ok, OV.at, SV.flat, SV.frz, dLst, lNil, eqR, metG_nil, clsS, retO_some, veq_int, veq_bl, veq_row, len4, dec4, fits, List.length_nil, nl, List.map_nil, List.all_nil, SV.frzL, Bool.and_self, truthR, truth, dTup, lCons, dSub, dBin, thaw, dBlt, osCons, osNil, atAll, blt0_lst, blt0_tup, blt15, binop, subS, subV, bindT, bindT.bindTs, setE_0, setE_s, List.length_cons, Bool.not_false, Bool.not_true, Nat.ble, dCon, cmpop, dCall, aOwn, aVal, aNil, called, owns, nodupN, called.go, List.map_cons, AV.sv, back, idx4_0, idx4_1, idx4_2, idx4_3, List.any_nil, Bool.and_true, beq_self_eq_true, blt5_row, nl_frz, nl_rw, e1, e3, e4, e5, e6]
def Inv7 (s0 s4 s5 s6 s10 s11 s12 s13 : SV) (sc : List Int) (rs : List (List Int)) (e : Env) : Prop := ∃ (j : Int) (s3 s7 s8 s9 : SV), (s8 = .ol ((least (S rs) (S rs)).map (fun q => SV.fz (ivRow q))) ∨ s8 = .fz (.lst ((least (S rs) (S rs)).map ivRow))) ∧
  e = [s0, dr sc j, .fz (.lst (rs.map ivRow)), s3, s4, s5, s6, s7, s8, s9, s10, s11, s12, s13]
theorem st7 {sc : List Int} (hs : sc.length ≤ 63) {i : Int} : wq ((sAsg (.n 7) (dCall (callN Fs 14 14) 17 (aOwn 1 aNil))) [s0, dr sc i, s2, s3, s4, s5, s6, s7, s8, s9, s10, s11, s12, s13]) (fun f e' => f = .nx ∧ ∃ (m : List Int) (j : Int), Good m ∧ e' = [s0, dr sc j, s2, s3, s4, s5, s6, .fz (ivRow m), s8, s9, s10, s11, s12, s13]) noE := by
  have q1 := four_draw 10 hs i (Q := fun r _ => ∃ (m : List Int) (j : Int), Good m ∧ r.1 = .fz (ivRow m) ∧ back [.own 1] r.2 [s0, dr sc i, s2, s3, s4, s5, s6, s7, s8, s9, s10, s11, s12, s13] = [s0, dr sc j, s2, s3, s4, s5, s6, s7, s8, s9, s10, s11, s12, s13]) (E := noE) fun q j hq => ⟨q, j, hq, rfl, rfl⟩
  have q3 := call_wp (C := callN Fs 14 14) (f := 17) (a := aOwn 1 aNil) (as := [.own 1]) (e := [s0, dr sc i, s2, s3, s4, s5, s6, s7, s8, s9, s10, s11, s12, s13]) (e' := [s0, dr sc i, s2, s3, s4, s5, s6, s7, s8, s9, s10, s11, s12, s13]) (Q := fun r e => ∃ (m : List Int) (j : Int), Good m ∧ r = .fz (ivRow m) ∧ e = [s0, dr sc j, s2, s3, s4, s5, s6, s7, s8, s9, s10, s11, s12, s13]) (E := noE) (vs := [dr sc i]) rfl rfl rfl q1.h
  unfold sAsg
  refine wq_bind.mpr (wq_mono q3 (fun r e q => ?_) fun _ _ _ z => z)
  refine ok_wp ?_
  cases q with | intro m q => cases q with | intro j q =>
  refine ⟨rfl, m, j, q.1, ?_⟩
  rw [q.2.1, q.2.2]
  rfl
theorem turn7 {sc : List Int} (hs : sc.length ≤ 63) (hr : ∀ o ∈ rs, Good o) (hl : rs.length ≤ 7) {j : Int} (h8 : s8 = .ol ((least (S rs) (S rs)).map (fun q => SV.fz (ivRow q))) ∨ s8 = .fz (.lst ((least (S rs) (S rs)).map ivRow))) :
    WP (sSeq (sAsg (.n 7) (dCall (callN Fs 14 14) 17 (aOwn 1 aNil))) ((sIf T (callN Fs 14 14) (oE (dOr (dCmp T (callN Fs 14 14) 1 (oE (dCall (callN Fs 14 14) 12 (aOwn 7 (aOwn 2 aNil)))) (oE (dBlt T (callN Fs 14 14) 3 (osCons (oE (dLc T (callN Fs 14 14) (dCall (callN Fs 14 14) 16 (aOwn 7 (aOwn 9 aNil))) (.n 9) (iOne 0 (oS 2)) [] [9])) osNil)))) (dOr (dCmp T (callN Fs 14 14) 1 (oE (dCall (callN Fs 14 14) 12 (aOwn 7 (aOwn 8 aNil)))) (oE (dCall (callN Fs 14 14) 12 (aOwn 7 (aOwn 2 aNil))))) (dCall (callN Fs 14 14) 12 (aOwn 7 (aVal (dLst lNil) aNil)))))) (sRet (dCon (.bl false))) sPas)) [s0, dr sc j, .fz (.lst (rs.map ivRow)), s3, s4, s5, s6, s7, s8, s9, s10, s11, s12, s13]) (fun f e' => f = .nx ∧ Inv7 s0 s4 s5 s6 s10 s11 s12 s13 sc rs e') noE := by
  refine ⟨seq_wp (Q1 := fun _ e' => ∃ (m : List Int) (j : Int), Good m ∧ e' = [s0, dr sc j, .fz (.lst (rs.map ivRow)), s3, s4, s5, s6, .fz (ivRow m), s8, s9, s10, s11, s12, s13]) (st7 hs) fun e' q => ?_⟩
  cases q with | intro m q => cases q with | intro j' q =>
  rw [q.2, cond7 hr hl q.1 h8]
  exact ok_wp ⟨rfl, j', s3, .fz (ivRow m), _, .und, .inr rfl, rfl⟩
theorem part5 {sc : List Int} (hs : sc.length ≤ 63) (hr : ∀ o ∈ rs, Good o) (hl : rs.length ≤ 7) {e : Env} (h : Inv7 s0 s4 s5 s6 s10 s11 s12 s13 sc rs e) :
    WP ((sFr (.n 3) (iRng1 (oE (dCon (.int 4)))) (sSeq (sAsg (.n 7) (dCall (callN Fs 14 14) 17 (aOwn 1 aNil))) (sIf T (callN Fs 14 14) (oE (dOr (dCmp T (callN Fs 14 14) 1 (oE (dCall (callN Fs 14 14) 12 (aOwn 7 (aOwn 2 aNil)))) (oE (dBlt T (callN Fs 14 14) 3 (osCons (oE (dLc T (callN Fs 14 14) (dCall (callN Fs 14 14) 16 (aOwn 7 (aOwn 9 aNil))) (.n 9) (iOne 0 (oS 2)) [] [9])) osNil)))) (dOr (dCmp T (callN Fs 14 14) 1 (oE (dCall (callN Fs 14 14) 12 (aOwn 7 (aOwn 8 aNil)))) (oE (dCall (callN Fs 14 14) 12 (aOwn 7 (aOwn 2 aNil))))) (dCall (callN Fs 14 14) 12 (aOwn 7 (aVal (dLst lNil) aNil)))))) (sRet (dCon (.bl false))) sPas))) e) (fun f e' => f = .nx ∧ Inv7 s0 s4 s5 s6 s10 s11 s12 s13 sc rs e') noE := by
  have it : iRng1 (oE (dCon (.int 4))) e = .ok (rangeV (4 : Int).toNat 0) e := rng_ok rfl (by omega) (by omega)
  refine ⟨?_⟩
  unfold sFr
  rw [it, bind_ok]
  refine (for_wp (Inv := Inv7 s0 s4 s5 s6 s10 s11 s12 s13 sc rs) _ (fun x hx e' he => ?_) e h).h
  cases he with | intro j he => cases he with | intro s3 he => cases he with | intro s7 he => cases he with | intro s8 he => cases he with | intro s9 he =>
  rw [he.2]
  exact ⟨_, rfl, turn7 (s3 := .fz x) (s7 := s7) (s9 := s9) hs hr hl he.1⟩
end
theorem math (sc : List Int) (hs : sc.length ≤ 63) : wpR (b19 (callN Fs 14 14) (.fz (.lst (sc.map .int)) :: (List.replicate 12 .und ++ [.tb]))) (fun f _ => f = .ret (.fz (.bl true))) fun _ _ _ => False := by
  rw [← wq_eq]
  show wq (sSeq _ (sSeq _ (sSeq _ (sSeq _ (sSeq _ (sSeq _ (sSeq (p7 (callN Fs 14 (6 + 8))) (sSeq (p8 (callN Fs 14 (6 + 8))) p9))))))) [.fz (.lst (sc.map .int)), .und, .und, .und, .und, .und, .und, .und, .und, .und, .und, .und, .und, .tb]) (fun f _ => f = .ret (.fz (.bl true))) noE
  refine seq_ok (e' := [.fz (.lst (sc.map .int)), dr sc 0, .und, .und, .und, .und, .und, .und, .und, .und, .und, .und, .und, .tb]) (by kernel_rfl) ?_
  refine seq_wp (Q1 := fun _ e' => ∃ (rs : List (List Int)) (j : Int), 1 ≤ rs.length ∧ rs.length ≤ 7 ∧ (∀ q ∈ rs, Good q) ∧ e' = .fz (.lst (sc.map .int)) :: dr sc j :: .ol (rs.map (fun q => SV.fz (ivRow q))) :: .und :: [.und, .und, .und, .und, .und, .und, .und, .und, .und, .tb]) (part1 hs (.fz (.lst (sc.map .int))) [.und, .und, .und, .und, .und, .und, .und, .und, .und, .tb]).h fun e1 h1 => ?_
  cases h1 with | intro rs h1 => cases h1 with | intro j h1 =>
  rw [h1.2.2.2]
  refine seq_wp (Q1 := fun _ e' => InvO (.fz (.lst (sc.map .int))) .und .und .und .und .und .und .tb sc rs e') (part2 hs h1.2.2.1).h fun e2 h2 => ?_
  cases h2 with | intro j2 h2 => cases h2 with | intro s4 h2 => cases h2 with | intro s5 h2 => cases h2 with | intro s6 h2 => cases h2 with | intro s7 h2 =>
  rw [h2]
  cases part3 (s0 := .fz (.lst (sc.map .int))) (s1 := dr sc j2) (s3 := .und) (s4 := s4) (s5 := s5) (s6 := s6) (s7 := s7) (s8 := .und) (s9 := .und) (s10 := .und) (s11 := .und) (s12 := .und) (s13 := .tb) h1.2.2.1 h1.1 h1.2.1 with | intro s5' e3 =>
  refine seq_ok e3 ?_
  refine seq_ok (part4 h1.2.2.1 h1.2.1) ?_
  refine seq_wp (Q1 := fun _ e' => Inv7 (.fz (.lst (sc.map .int))) .und s5' s6 .und .und .und .tb sc rs e') (part5 hs h1.2.2.1 h1.2.1 ⟨j2, .und, s7, _, .und, .inl rfl, rfl⟩).h fun e5 h5 => ?_
  cases h5 with | intro j5 h5 => cases h5 with | intro t3 h5 => cases h5 with | intro t7 h5 => cases h5 with | intro t8 h5 => cases h5 with | intro t9 h5 =>
  rw [h5.2]
  exact isT_wp (last3 6 _ _ _ _ _ _ _ _ _ _)
end LW

end

theorem PySem.Challenge.cw_stepfree_k01_whole_needs_holds : PySem.Challenge.rw_stepfree_k01_whole_needs.Holds :=
  ends LW.math
