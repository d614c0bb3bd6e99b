import PyProof.Rows.All
import Wide.All
import OpenK.AllK
import Wide.FinOn
import PySem.Str
import HandS.ForMost
import HandS.Exc
import HandS.ExcOwn
import HandS.TupAny
import HandS.Deep
import HandS.Flow
import HandS.TupLe
import HandS.ForSpec
import HandS.SortRule
import HandS.SortInts
import HandS.IsInst
import HandS.TupSets
import HandS.Defaults
import HandS.Small
import HandS.Zip
import HandS.DictComp
import KE.GoesEnum
import KE.GoesMore
import KE.GoesEnumKw
import KE.KUnpackStar
import PyProof.ReprRoads
import KE.KItemsList
import KE.DataMinMax
import HandS.SortKw
import HandS.DictTup
import KE.SortData
import KE.DataFind
import KE.SortKeyHeap
import HandS.Ends
import HandS.HeadHook2
import HandS.HeadEnd
import HandS.Head2
import PySem.Challenge.RW_pathfolios_k72_by_their_names
set_option Elab.async false
set_option linter.all false
section
set_option linter.all false
namespace Pf
inductive PV where
  | non | bl (b : Bool) | int (i : Int) | str (s : List Nat)
  | tup (xs : List PV) | lst (xs : List PV) | dic (kvs : List (PV × PV))
  | loc (n : Nat) | fn (i : Nat) | cls (i : Nat)
  | clo (i : Nat) (env : List (Option PV))
  | exo (c : Nat) (fs : List (List Nat × PV))
  deriving Inhabited, Repr
inductive PO where
  | lst (xs : List PV) | dic (kvs : List (PV × PV)) | ins (c : Nat) (fs : List (List Nat × PV)) | frz (o : PO) | any
  deriving Inhabited, Repr
abbrev Sto := List PO
abbrev Env := List (Option PV)
structure Exn where
  c : Nat
  fs : List (List Nat × PV)
  deriving Inhabited, Repr
inductive Rs (α : Type) where
  | ok (a : α) (M : Sto) | ex (e : Exn) (M : Sto) | no (w : String)
  deriving Inhabited, Repr
def Rs.bind {α β : Type} (r : Rs α) (f : α → Sto → Rs β) : Rs β :=
  match r with
  | .ok a M => f a M
  | .ex e M => .ex e M
  | .no w => .no w
def seq : List Nat → List Nat → Bool
  | [], [] => true
  | a :: r, b :: s => match Nat.beq a b with
    | true => seq r s
    | false => false
  | _, _ => false
def slt : List Nat → List Nat → Bool
  | [], [] => false
  | [], _ :: _ => true
  | _ :: _, [] => false
  | a :: r, b :: s => match Nat.blt a b with
    | true => true
    | false => match Nat.beq a b with
      | true => slt r s
      | false => false
mutual
def eqV : PV → PV → Bool
  | .non, .non => true
  | .bl a, .bl b => a == b
  | .int i, .int j => decide (i = j)
  | .bl a, .int j => decide ((if a then (1 : Int) else 0) = j)
  | .int i, .bl b => decide (i = (if b then (1 : Int) else 0))
  | .str a, .str b => seq a b
  | .tup xs, .tup ys => eqL xs ys
  | .lst xs, .lst ys => eqL xs ys
  | .loc m, .loc n => Nat.beq m n
  | .fn i, .fn j => Nat.beq i j
  | .cls i, .cls j => Nat.beq i j
  | _, _ => false
def eqL : List PV → List PV → Bool
  | [], [] => true
  | x :: xs, y :: ys => match eqV x y with
    | true => eqL xs ys
    | false => false
  | _, _ => false
end
mutual
def ltV : PV → PV → Option Bool
  | .int i, .int j => some (decide (i < j))
  | .bl a, .bl b => some (!a && b)
  | .str a, .str b => some (slt a b)
  | .tup xs, .tup ys => ltL xs ys
  | .lst xs, .lst ys => ltL xs ys
  | _, _ => none
def ltL : List PV → List PV → Option Bool
  | [], [] => some false
  | [], _ :: _ => some true
  | _ :: _, [] => some false
  | x :: xs, y :: ys => match eqV x y with
    | true => ltL xs ys
    | false => ltV x y
end
mutual
def okD : Nat → PV → Bool
  | _, .non => true
  | _, .bl _ => true
  | _, .int _ => true
  | _, .str s => s.all fun c => Nat.blt c 128
  | 0, _ => false
  | d + 1, .tup xs => okL d xs
  | d + 1, .lst xs => okL d xs
  | _, _ => false
def okL : Nat → List PV → Bool
  | _, [] => true
  | d, x :: xs => match okD d x with
    | true => okL d xs
    | false => false
end
def scalV : PV → PV → Bool
  | .non, .non => true | .non, .int _ => true | .int _, .non => true | .non, .bl _ => true | .bl _, .non => true | .non, .str _ => true | .str _, .non => true
  | .int _, .int _ => true | .bl _, .bl _ => true | .str _, .str _ => true
  | .int _, .str _ => true | .str _, .int _ => true | .bl _, .str _ => true | .str _, .bl _ => true
  | _, _ => false
def eqD (a b : PV) : Option Bool := match scalV a b || (okD 60 a && okD 60 b) with
  | true => some (eqV a b)
  | false => none
def keyOk : PV → Bool
  | .int _ => true
  | .str _ => true
  | _ => false
def dget (k : PV) : List (PV × PV) → Option PV
  | [] => none
  | (a, b) :: r => match eqV a k with
    | true => some b
    | false => dget k r
def drep (k v : PV) : List (PV × PV) → List (PV × PV)
  | [] => []
  | (a, b) :: r => match eqV a k with
    | true => (a, v) :: drep k v r
    | false => (a, b) :: drep k v r
def dput (k v : PV) (kvs : List (PV × PV)) : List (PV × PV) := match (dget k kvs).isSome with
  | true => drep k v kvs
  | false => kvs ++ [(k, v)]
def ddel (k : PV) : List (PV × PV) → List (PV × PV)
  | [] => []
  | (a, b) :: r => match eqV a k with
    | true => r
    | false => (a, b) :: ddel k r
def fget {α : Type} (k : List Nat) : List (List Nat × α) → Option α
  | [] => none
  | (a, b) :: r => match seq a k with
    | true => some b
    | false => fget k r
def fput (k : List Nat) (v : PV) : List (List Nat × PV) → List (List Nat × PV)
  | [] => [(k, v)]
  | (a, b) :: r => match seq a k with
    | true => (a, v) :: r
    | false => (a, b) :: fput k v r
def strI (i : Int) : List Nat := match i with
  | .ofNat n => (Nat.toDigits 10 n).map Char.toNat
  | .negSucc n => 45 :: (Nat.toDigits 10 (n + 1)).map Char.toNat
def joinS (sep : List Nat) : List (List Nat) → List Nat
  | [] => []
  | [a] => a
  | a :: b :: r => a ++ (sep ++ joinS sep (b :: r))
def plainC (c : Nat) : Bool := (Nat.ble 32 c && Nat.ble c 126) && (!(Nat.beq c 39) && !(Nat.beq c 92))
def reprS (s : List Nat) : Option (List Nat) := match s.all plainC with
  | true => some (39 :: (s ++ [39]))
  | false => none
mutual
def reprV : PV → Option (List Nat)
  | .non => some [78, 111, 110, 101]
  | .bl true => some [84, 114, 117, 101]
  | .bl false => some [70, 97, 108, 115, 101]
  | .int i => match Nat.blt i.natAbs.log2 1920 with
    | true => some (strI i)
    | false => none
  | .str s => reprS s
  | .tup xs => match reprL xs with
    | none => none
    | some ts => match ts with
      | [t] => some (40 :: (t ++ [44, 41]))
      | _ => some (40 :: (joinS [44, 32] ts ++ [41]))
  | .lst xs => match reprL xs with
    | none => none
    | some ts => some (91 :: (joinS [44, 32] ts ++ [93]))
  | _ => none
def reprL : List PV → Option (List (List Nat))
  | [] => some []
  | x :: xs => match reprV x with
    | none => none
    | some t => (reprL xs).map (t :: ·)
end
def reprO (d : PV) : Option PV := match isSeq d && okD 60 d with
  | true => (reprV d).bind fun t => match Nat.ble t.length 16777216 with
    | true => some (.str t)
    | false => none
  | false => none
where
  isSeq : PV → Bool
    | .tup _ => true
    | .lst _ => true
    | _ => false
def splitC (c : Nat) : List Nat → List (List Nat)
  | [] => [[]]
  | a :: r => match Nat.beq a c with
    | true => [] :: splitC c r
    | false => match splitC c r with
      | [] => [[a]]
      | x :: xs => (a :: x) :: xs
def preS : List Nat → List Nat → Bool
  | [], _ => true
  | _ :: _, [] => false
  | a :: r, b :: s => match Nat.beq a b with
    | true => preS r s
    | false => false
def subS (a : List Nat) : List Nat → Bool
  | [] => match a with
    | [] => true
    | _ :: _ => false
  | b :: s => match preS a (b :: s) with
    | true => true
    | false => subS a s
def intS (s : List Nat) : Option Int :=
  let go (t : List Nat) : Option Nat := match t with
    | [] => none
    | _ => t.foldl (fun o c => o.bind fun n => if 48 ≤ c ∧ c ≤ 57 then some (n * 10 + (c - 48)) else none) (some 0)
  match s with
  | 45 :: t => (go t).map fun n => -(n : Int)
  | t => (go t).map fun n => (n : Int)
def deref (M : Sto) (v : PV) : PV := match v with
  | .loc n => match M[n]? with
    | some (.lst xs) => .lst xs
    | some (.dic kvs) => .dic kvs
    | some (.frz (.dic kvs)) => .dic kvs
    | some (.frz (.lst xs)) => .lst xs
    | _ => v
  | _ => v
def derefW (M : Sto) (v : PV) : PV := match v with
  | .loc n => match M[n]? with
    | some (.lst xs) => .lst xs
    | some (.dic kvs) => .dic kvs
    | _ => v
  | _ => v
def mapO {α β : Type} (f : α → Option β) : List α → Option (List β)
  | [] => some []
  | x :: xs => match f x with
    | none => none
    | some y => (mapO f xs).map (y :: ·)
def snap (M : Sto) : Nat → PV → Option PV
  | 0, _ => none
  | f + 1, v => match deref M v with
    | .tup xs => (mapO (snap M f) xs).map .tup
    | .lst xs => (mapO (snap M f) xs).map .lst
    | .dic kvs => (mapO (fun kv => (snap M f kv.2).map fun y => (kv.1, y)) kvs).map .dic
    | .non => some .non
    | .bl b => some (.bl b)
    | .int i => some (.int i)
    | .str s => some (.str s)
    | .fn i => some (.fn i)
    | .cls i => some (.cls i)
    | _ => none
mutual
def below (n : Nat) : PV → Bool
  | .tup xs => belowL n xs
  | .lst xs => belowL n xs
  | .dic kvs => belowD n kvs
  | .loc m => Nat.blt m n
  | .clo _ e => belowE n e
  | .exo _ fs => belowF n fs
  | _ => true
def belowL (n : Nat) : List PV → Bool
  | [] => true
  | x :: xs => match below n x with
    | true => belowL n xs
    | false => false
def belowD (n : Nat) : List (PV × PV) → Bool
  | [] => true
  | (k, v) :: r => match below n v with
    | true => belowD n r
    | false => false
def belowE (n : Nat) : List (Option PV) → Bool
  | [] => true
  | none :: r => belowE n r
  | some v :: r => match below n v with
    | true => belowE n r
    | false => false
def belowF (n : Nat) : List (List Nat × PV) → Bool
  | [] => true
  | (_, v) :: r => match below n v with
    | true => belowF n r
    | false => false
end
def belowO (n : Nat) : PO → Bool
  | .lst xs => belowL n xs
  | .dic kvs => belowD n kvs
  | .ins _ fs => belowF n fs
  | .frz o => belowO n o
  | .any => true
def belowM (n : Nat) : Nat → Sto → Bool
  | 0, _ => true
  | _ + 1, [] => true
  | k + 1, o :: M => match belowO n o with
    | true => belowM n k M
    | false => false
def gcV (n : Nat) (v : PV) (M : Sto) : Sto :=
  match Nat.blt n M.length with
  | false => M
  | true => match below n v && belowM n n M with
    | true => M.take n
    | false => M
def gcF (b : Bool) (n : Nat) (v : PV) (M : Sto) : Sto := match b with
  | true => gcV n v M
  | false => M
def fgtM : List Nat → Sto → Sto
  | [], M => M
  | i :: is, M => fgtM is (fgt1 M i)
where
  fgt1 : Sto → Nat → Sto
    | [], _ => []
    | _ :: r, 0 => .any :: r
    | x :: r, i + 1 => x :: fgt1 r i
inductive BOp where
  | add | sub | mul | fdiv | mod | pow | bor
  deriving Inhabited, Repr, DecidableEq
inductive COp where
  | eq | ne | lt | le | gt | ge | isN | notN | isin | notin | iss | isnt
  deriving Inhabited, Repr, DecidableEq
inductive Ty where
  | int | bool | str | tuple | list | dict | own (c : Nat)
  deriving Inhabited, Repr, DecidableEq
inductive BI where
  | len | all | any | sum | sum1 | max2 | min2 | maxL | minL | maxD | minD | tuple | list | dict | sorted | str | repr | int | sset | lset | isinst (t : Ty)
  deriving Inhabited, Repr, DecidableEq
inductive SM where
  | sitems | append | extend | insert | get | get2 | items | values | keys | pop | pop2 | popl | remove | setdefault | update | join | split | startswith | index
  deriving Inhabited, Repr, DecidableEq
mutual
inductive CE where
  | v (i : Nat) | cst (p : PV)
  | tup (es : CL) | lst (es : CL) | dic (ks es : CL)
  | lk (d e : CE) | mk (e : CE) | mkd (ks : List PV) (es : CL)
  | stuck
  | op (o : BOp) (a b : CE) | neg (a : CE)
  | cmp (o : COp) (a b : CE) | chn (o p : COp) (a b c : CE)
  | and (a b : CE) | or (a b : CE) | not (a : CE) | ite (c a b : CE)
  | call (f : Nat) (es : CL) (ks : List (List Nat))
  | callv (f : CE) (es : CL)
  | meth (o : CE) (m : List Nat) (es : CL) (ks : List (List Nat))
  | new (c : Nat) (es : CL) (ks : List (List Nat))
  | attr (o : CE) (f : List Nat)
  | idx (a b : CE) | sl (a : CE) (lo hi : CO)
  | bi (b : BI) (es : CL)
  | bis (b : BI) (s : CI)
  | sortk (e : CE) (k : CE)
  | sm (m : SM) (o : CE) (es : CL)
  | comp (wp : List Nat) (elt : CE) (gs : CG)
  | dcomp (wp : List Nat) (k v : CE) (gs : CG)
  | lam (f : Nat)
  deriving Inhabited
inductive CL where
  | nil | cons (e : CE) (es : CL)
inductive CO where
  | n | s (e : CE)
inductive CI where
  | e (e : CE) | rng (a : CE) | rng2 (a b : CE) | enum (es : CL) | enumz (es : CL) | zip (strict : Bool) (es : CL)
inductive CG where
  | nil | cons (t : CT) (s : CI) (c : CO) (r : CG)
inductive CT where
  | v (i : Nat) | tup (ts : CTs) | star (ts : CTs) (i : Nat) | attr (o : CE) (f : List Nat) | idx (a b : CE)
inductive CTs where
  | nil | cons (t : CT) (ts : CTs)
end
def CTs.len : CTs → Nat
  | .nil => 0
  | .cons _ ts => ts.len + 1
mutual
inductive CS where
  | asg (t : CT) (e : CE)
  | par (is : List Nat) (es : CL)
  | aug (o : BOp) (t : CT) (e : CE)
  | ex (e : CE)
  | ret (e : CE)
  | ite (c : CE) (a b : CB)
  | for_ (t : CT) (s : CI) (b : CB)
  | whl (c : CE) (b : CB)
  | raise (c : Nat) (es : CL)
  | reraise
  | try_ (b : CB) (hs : CH) (f : CB)
  | pass | brk | cont | stuck | fgt (is : List Nat)
inductive CB where
  | nil | cons (s : CS) (b : CB)
inductive CH where
  | nil | cons (cs : List Nat) (i : Option Nat) (b : CB) (r : CH)
end
structure Fn where
  nm : List Nat
  ps : List Nat
  pn : List (List Nat)
  np : Nat
  dv : List (Option PV)
  n : Nat
  body : CB
  gc : Bool := true
instance : Inhabited CB := ⟨.nil⟩
instance : Inhabited Fn := ⟨⟨[], [], [], 0, [], 0, .nil, true⟩⟩
structure Cl where
  nm : List Nat
  mro : List Nat
  ms : List (List Nat × Nat)
  fields : List (List Nat)
  deriving Inhabited
structure Prog where
  fns : List Fn
  cls : List Cl
  deriving Inhabited
abbrev Orc := Nat → Env → Sto → Rs PV
inductive Src where
  | pure (xs : List PV) | loc (n : Nat) | dks (n : Nat) | rng (lo : Int) (n : Nat) | enum (k : Int) (s : Src) | zip (st : Bool) (a b : Src) | zip3 (a b c : Src)
  deriving Inhabited, Repr
def Src.at (M : Sto) : Src → Nat → Option (Option PV)
  | .pure xs, i => some xs[i]?
  | .loc n, i => match M[n]? with
    | some (.lst xs) => some xs[i]?
    | _ => none
  | .dks n, i => match M[n]? with
    | some (.frz (.dic kvs)) => some (kvs[i]?.map (·.1))
    | _ => none
  | .rng lo n, i => some (match Nat.blt i n with
    | true => some (.int (lo + i))
    | false => none)
  | .enum k s, i => match s.at M i with
    | none => none
    | some none => some none
    | some (some x) => some (some (.tup [.int (k + i), x]))
  | .zip st a b, i => match a.at M i, b.at M i with
    | some (some x), some (some y) => some (some (.tup [x, y]))
    | some none, some none => some none
    | some none, some (some _) => match st with
      | true => none
      | false => some none
    | some (some _), some none => match st with
      | true => none
      | false => some none
    | _, _ => none
  | .zip3 a b c, i => match a.at M i, b.at M i, c.at M i with
    | some (some x), some (some y), some (some z) => some (some (.tup [x, y, z]))
    | some _, some _, some _ => some none
    | _, _, _ => none
def Src.len (M : Sto) : Src → Nat
  | .pure xs => xs.length
  | .loc n => match M[n]? with
    | some (.lst xs) => xs.length
    | _ => 0
  | .dks n => match M[n]? with
    | some (.frz (.dic kvs)) => kvs.length
    | _ => 0
  | .rng _ n => n
  | .enum _ s => s.len M
  | .zip _ a b => max (a.len M) (b.len M)
  | .zip3 a b c => max (a.len M) (max (b.len M) (c.len M))
def Src.all (M : Sto) (s : Src) : Nat → Nat → Option (List PV)
  | 0, _ => none
  | f + 1, i => match s.at M i with
    | none => none
    | some none => some []
    | some (some x) => (Src.all M s f (i + 1)).map (x :: ·)
def walk {β : Type} (s : Src) (f : PV → β → Sto → Rs β) : Nat → Nat → β → Sto → Rs β
  | 0, _, _, _ => .no "walk"
  | k + 1, i, b, M => match s.at M i with
    | none => .no "walk at"
    | some none => .ok b M
    | some (some x) => (f x b M).bind fun b M => walk s f k (i + 1) b M
inductive Fl where
  | nx (e : Env) | rt (v : PV) | bk (e : Env) | ct (e : Env)
  deriving Inhabited, Repr
def walkF (s : Src) (f : PV → Env → Sto → Rs Fl) : Nat → Nat → Env → Sto → Rs Fl
  | 0, _, _, _ => .no "walkF"
  | k + 1, i, e, M => match s.at M i with
    | none => .no "walkF at"
    | some none => .ok (.nx e) M
    | some (some x) => (f x e M).bind fun r M => match r with
      | .nx e => walkF s f k (i + 1) e M
      | .ct e => walkF s f k (i + 1) e M
      | .bk e => .ok (.nx e) M
      | .rt v => .ok (.rt v) M
def ofO {α : Type} (w : String) (o : Option α) (M : Sto) : Rs α := match o with
  | some a => .ok a M
  | none => .no w
def cap : Nat := 16777216
def fitO (n : Nat) (v : PV) : Option PV := match Nat.ble n cap with
  | true => some v
  | false => none
def opV (o : BOp) (x y : PV) : Option PV := match o, x, y with
  | .add, .int i, .int j => some (.int (i + j))
  | .add, .str a, .str b => fitO (a.length + b.length) (.str (a ++ b))
  | .add, .tup a, .tup b => fitO (a.length + b.length) (.tup (a ++ b))
  | .add, .lst a, .lst b => fitO (a.length + b.length) (.lst (a ++ b))
  | .sub, .int i, .int j => some (.int (i - j))
  | .mul, .int i, .int j => match (decide (-(2 ^ 64) < i) && decide (i < 2 ^ 64)) || (decide (-(2 ^ 64) < j) && decide (j < 2 ^ 64)) with
    | true => some (.int (i * j))
    | false => none
  | .fdiv, .int i, .int j => match decide (0 < j) && decide (j < 1073741824) with
    | true => some (.int (i / j))
    | false => none
  | .mod, .int i, .int j => match decide (0 < j) with
    | true => some (.int (i % j))
    | false => none
  | .pow, .int i, .int j => match (decide (0 ≤ j) && decide (j ≤ 1000)) && decide (i.natAbs < 2 ^ 64) with
    | true => some (.int (i ^ j.toNat))
    | false => none
  | .bor, .dic a, .dic b => some (.dic (b.foldl (fun d kv => dput kv.1 kv.2 d) a))
  | _, _, _ => none
def isInt : PV → Bool
  | .int _ => true
  | .bl _ => true
  | _ => false
def numOf : PV → Int
  | .int i => i
  | .bl true => 1
  | _ => 0
def memV (x : PV) : List PV → Bool
  | [] => false
  | y :: ys => match eqV y x with
    | true => true
    | false => memV x ys
def intsOf : List PV → Option (List Int)
  | [] => some []
  | .int i :: r => (intsOf r).map (i :: ·)
  | _ => none
def lexA (e r : Nat → Bool) (z : Bool) : Nat → Nat → Bool
  | _, 0 => z
  | i, k + 1 => if e i = true then lexA e r z (i + 1) k else r i
def leI (ns ms : List Int) : Bool := lexA (fun j => decide (ns.getD j 0 = ms.getD j 0)) (fun j => decide (ns.getD j 0 ≤ ms.getD j 0)) (decide (ns.length ≤ ms.length)) 0 (min ns.length ms.length)
def ltC (x y : PV) : Option Bool := match x, y with
  | .int i, .int j => some (decide (i < j))
  | .str a, .str b => some (slt a b)
  | _, _ => none
def leC (x y : PV) : Option Bool := match x, y with
  | .int i, .int j => some (decide (i ≤ j))
  | .tup xs, .tup ys => (intsOf xs).bind fun ns => (intsOf ys).map fun ms => leI ns ms
  | _, _ => none
def gtC (x y : PV) : Option Bool := match x, y with
  | .int i, .int j => some (decide (j < i))
  | _, _ => none
def geC (x y : PV) : Option Bool := match x, y with
  | .int i, .int j => some (decide (j ≤ i))
  | _, _ => none
def inD (x : PV) (ys : List PV) : Option Bool := match okD 60 x && okL 60 ys with
  | true => some (memV x ys)
  | false => none
def inV (M : Sto) (x y : PV) : Option Bool := match deref M y with
  | .str b => match x with
    | .str [c] => some (b.any (Nat.beq c))
    | _ => none
  | .dic kvs => match keyOk x with
    | true => some (dget x kvs).isSome
    | false => none
  | _ => (snap M 62 x).bind fun a => match snap M 62 y with
    | some (.tup ys) => inD a ys
    | some (.lst ys) => inD a ys
    | _ => none
def truV (x : PV) : Option Bool := match x with
  | .non => some false
  | .bl b => some b
  | .int i => some (i != 0)
  | .str s => match Nat.ble s.length cap with
    | true => some (!s.isEmpty)
    | false => none
  | .tup xs => some (!xs.isEmpty)
  | .lst xs => some (!xs.isEmpty)
  | .dic xs => some (!xs.isEmpty)
  | _ => none
def ixN (i : Int) (n : Nat) : Option Nat :=
  match decide (0 ≤ i) with
  | true => match Nat.blt i.toNat n with
    | true => some i.toNat
    | false => none
  | false => match decide (0 ≤ i + n) with
    | true => some (i + n).toNat
    | false => none
def ixV (o i : PV) : Option PV := match o with
  | .tup xs => match i with
    | .int k => (ixN k xs.length).bind fun j => xs[j]?
    | _ => none
  | .lst xs => match i with
    | .int k => (ixN k xs.length).bind fun j => xs[j]?
    | _ => none
  | .str s => match i with
    | .int k => match Nat.ble s.length cap with
      | true => (ixN k s.length).bind fun j => s[j]?.map fun c => .str [c]
      | false => none
    | _ => none
  | .dic kvs => match keyOk i with
    | true => dget i kvs
    | false => none
  | _ => none
def clampI (i : Int) (n : Nat) : Nat :=
  match decide (0 ≤ i) with
  | true => min i.toNat n
  | false => (i + n).toNat
def cutL {α : Type} (lo hi : Option Int) (xs : List α) : List α :=
  let a := match lo with
    | none => 0
    | some i => clampI i xs.length
  let b := match hi with
    | none => xs.length
    | some i => clampI i xs.length
  (xs.take b).drop a
def cutV (o : PV) (lo hi : Option Int) : Option PV := match o with
  | .tup xs => some (.tup (cutL lo hi xs))
  | .lst xs => some (.lst (cutL lo hi xs))
  | .str xs => match Nat.ble xs.length cap with
    | true => some (.str (cutL lo hi xs))
    | false => none
  | _ => none
def bndV : PV → Option (Option Int)
  | .non => some none
  | .int i => some (some i)
  | _ => none
def insK {α : Type} (le : α → α → Bool) (x : α) : List α → List α
  | [] => [x]
  | y :: ys => match le x y with
    | true => x :: y :: ys
    | false => y :: insK le x ys
def sortK {α : Type} (le : α → α → Bool) : List α → List α
  | [] => []
  | x :: xs => insK le x (sortK le xs)
def keysI : List (PV × PV) → Option (List (Int × PV))
  | [] => some []
  | (.int i, x) :: r => (keysI r).map ((i, x) :: ·)
  | _ => none
def keysS : List (PV × PV) → Option (List (List Nat × PV))
  | [] => some []
  | (.str s, x) :: r => (keysS r).map ((s, x) :: ·)
  | _ => none
def sortBy (ps : List (PV × PV)) : Option (List PV) := match keysS ps with
  | some qs => some ((sortK (fun p q => !slt q.1 p.1) qs).map (·.2))
  | none => none
def itemsI : List (PV × PV) → Option (List (Int × Int))
  | [] => some []
  | (.int i, .int j) :: r => (itemsI r).map ((i, j) :: ·)
  | _ => none
def leII (p q : Int × Int) : Bool := decide (p.1 < q.1 ∨ (p.1 = q.1 ∧ p.2 ≤ q.2))
def sitemsV (kvs : List (PV × PV)) : Option PV := (itemsI kvs).map fun ps => .lst ((sortK leII ps).map fun p => .tup [.int p.1, .int p.2])
def insR {α : Type} (lt : α → α → Bool) (x : α) : List α → List α
  | [] => [x]
  | y :: ys => match lt x y with
    | true => x :: y :: ys
    | false => y :: insR lt x ys
def sortR {α : Type} (lt : α → α → Bool) : List α → List α
  | [] => []
  | x :: xs => insR lt x (sortR lt xs)
def pairsOf : List PV → Option (List (Int × Int))
  | [] => some []
  | .tup [.int i, .int j] :: r => (pairsOf r).map ((i, j) :: ·)
  | _ => none
def ltI (i j : Int) : Bool := decide (i < j)
def ltII (p q : Int × Int) : Bool := match decide (p.1 = q.1) with
  | true => decide (p.2 < q.2)
  | false => decide (p.1 < q.1)
def inB (p : Int × Int) : Bool := (decide (0 ≤ p.1) && decide (p.1 < 4611686018427387904)) && (decide (0 ≤ p.2) && decide (p.2 < 4611686018427387904))
def sortV (xs : List PV) : Option (List PV) := match intsOf xs with
  | some ns => some ((sortR ltI ns).map .int)
  | none => match pairsOf xs with
    | some ps => match Nat.blt xs.length 64 && ps.all inB with
      | true => some ((sortR ltII ps).map fun p => .tup [.int p.1, .int p.2])
      | false => none
    | none => none
def dedup : List PV → List PV
  | [] => []
  | x :: xs => match memV x xs with
    | true => dedup xs
    | false => x :: dedup xs
def maxI : List Int → Option PV
  | [] => none
  | n :: ns => some (.int (ns.foldl max n))
def minI : List Int → Option PV
  | [] => none
  | n :: ns => some (.int (ns.foldl min n))
def maxV (xs : List PV) : Option PV := (intsOf xs).bind maxI
def minV (xs : List PV) : Option PV := (intsOf xs).bind minI
def seqOf : PV → Option (List PV)
  | .tup xs => some xs
  | .lst xs => some xs
  | _ => none
def dictOf : List PV → Option (List (PV × PV))
  | xs => xs.foldl (fun o x => o.bind fun d => match x with
    | .tup [k, v] => match keyOk k with
      | true => some (dput k v d)
      | false => none
    | .lst [k, v] => match keyOk k with
      | true => some (dput k v d)
      | false => none
    | _ => none) (some [])
def bools : List PV → Option (List Bool)
  | [] => some []
  | .bl b :: r => (bools r).map (b :: ·)
  | _ => none
def allB (xs : List PV) : Option Bool := (bools xs).map fun bs => bs.all id
def anyB (xs : List PV) : Option Bool := (bools xs).map fun bs => bs.any id
def sumI : List PV → Int → Option Int
  | [], a => some a
  | .int i :: r, a => sumI r (a + i)
  | .bl b :: r, a => sumI r (a + if b then 1 else 0)
  | _, _ => none
def strsOf : List PV → Option (List (List Nat))
  | [] => some []
  | .str s :: r => (strsOf r).map (s :: ·)
  | _ => none
def thingsOf : PV → Option (List PV)
  | .tup xs => some xs
  | .lst xs => some xs
  | .str s => some (s.map fun c => .str [c])
  | .dic kvs => some (kvs.map (·.1))
  | _ => none
inductive VT where
  | b (n : Nat) | c (n : Nat)
  deriving Inhabited, Repr
def tyN (M : Sto) (v : PV) : Option VT := match v with
  | .non => some (.b 0)
  | .bl _ => some (.b 1)
  | .int _ => some (.b 2)
  | .str _ => some (.b 3)
  | .tup _ => some (.b 4)
  | .lst _ => some (.b 5)
  | .dic _ => some (.b 6)
  | .loc n => match M[n]? with
    | some (.ins c _) => some (.c c)
    | some (.lst _) => some (.b 5)
    | some (.dic _) => some (.b 6)
    | some (.frz (.dic _)) => some (.b 6)
    | _ => none
  | _ => none
def tyB (a : Nat) (t : Ty) : Bool := match t with
  | .int => Nat.beq a 2 || Nat.beq a 1
  | .bool => Nat.beq a 1
  | .str => Nat.beq a 3
  | .tuple => Nat.beq a 4
  | .list => Nat.beq a 5
  | .dict => Nat.beq a 6
  | .own _ => false
def isTy (P : Prog) (M : Sto) (v : PV) (t : Ty) : Option Bool := match tyN M v with
  | none => none
  | some (.b a) => some (tyB a t)
  | some (.c c) => match t with
    | .own d => (P.cls[c]?).map fun k => k.mro.any (Nat.beq d)
    | _ => some false
def fgetN (k : List Nat) : List (List Nat × Nat) → Option Nat
  | [] => none
  | (a, b) :: r => match seq a k with
    | true => some b
    | false => fgetN k r
def methOf (P : Prog) (M : Sto) (o : PV) (m : List Nat) : Option Nat := match o with
  | .loc n => match M[n]? with
    | some (.ins c fs) => match fget m fs with
      | some _ => none
      | none => match P.cls[c]? with
        | some k => fgetN m k.ms
        | none => none
    | _ => none
  | _ => none
def nmEq : List Nat := [95, 95, 101, 113, 95, 95]
def nmLen : List Nat := [95, 95, 108, 101, 110, 95, 95]
def nmStr : List Nat := [95, 95, 115, 116, 114, 95, 95]
def nmInit : List Nat := [95, 95, 105, 110, 105, 116, 95, 95]
def lenV : PV → Option PV
  | .str s => match Nat.ble s.length cap with
    | true => some (.int s.length)
    | false => none
  | .tup xs => some (.int xs.length)
  | .lst xs => some (.int xs.length)
  | .dic xs => some (.int xs.length)
  | _ => none
def listOf : PV → Option (List PV)
  | .lst xs => some xs
  | _ => none
def maxD (d : PV) (g : List PV → Option PV) (xs : List PV) : Option PV := match xs with
  | [] => some d
  | _ => g xs
def strV : PV → Option PV
  | .int i => some (.str (strI i))
  | .str s => some (.str s)
  | _ => none
def intV : PV → Option PV
  | .int i => some (.int i)
  | .bl b => some (.int (if b then 1 else 0))
  | .str s => (intS s).map .int
  | _ => none
def int2 (g : Int → Int → Int) : List PV → Option PV
  | [.int i, .int j] => some (.int (g i j))
  | _ => none
def one (g : PV → Option PV) : List PV → Option PV
  | [x] => g x
  | _ => none
def two (g : PV → PV → Option PV) : List PV → Option PV
  | [x, y] => g x y
  | _ => none
def dictV : PV → Option PV
  | .dic kvs => some (.dic kvs)
  | y => ((thingsOf y).bind dictOf).map .dic
def noOwn (b : Option Nat) (o : Option PV) : Option PV := match b with
  | some _ => none
  | none => o
def biO (P : Prog) (b : BI) (vs : List PV) (M : Sto) : Option PV := match b with
  | .len => one (fun x => noOwn (methOf P M x nmLen) (lenV (derefW M x))) vs
  | .all => one (fun x => (listOf (deref M x)).bind fun xs => (allB xs).map .bl) vs
  | .any => one (fun x => (listOf (deref M x)).bind fun xs => (anyB xs).map .bl) vs
  | .sum => one (fun x => (listOf (deref M x)).bind fun xs => (sumI xs 0).map .int) vs
  | .sum1 => two (fun x a => match a with
    | .int a => (listOf (deref M x)).bind fun xs => (sumI xs a).map .int
    | _ => none) vs
  | .max2 => int2 (fun i j => if j > i then j else i) vs
  | .min2 => int2 (fun i j => if j < i then j else i) vs
  | .maxL => one (fun x => (listOf (deref M x)).bind maxV) vs
  | .minL => one (fun x => (listOf (deref M x)).bind minV) vs
  | .maxD => two (fun x d => (listOf (deref M x)).bind (maxD d maxV)) vs
  | .minD => two (fun x d => (listOf (deref M x)).bind (maxD d minV)) vs
  | .tuple => one (fun x => (seqOf (deref M x)).map .tup) vs
  | .list => one (fun x => (seqOf (deref M x)).map .lst) vs
  | .dict => one (fun x => dictV (deref M x)) vs
  | .sorted => one (fun x => ((listOf (deref M x)).bind sortV).map .lst) vs
  | .sset => one (fun x => ((thingsOf (deref M x)).bind fun xs => sortV (dedup xs)).map .lst) vs
  | .lset => one (fun x => (thingsOf (deref M x)).map fun xs => .int (dedup xs).length) vs
  | .str => one (fun x => noOwn (methOf P M x nmStr) (strV x)) vs
  | .repr => one (fun x => (snap M 62 x).bind reprO) vs
  | .int => one intV vs
  | .isinst t => one (fun x => (isTy P M x t).map .bl) vs
def setAt {α : Type} : List α → Nat → α → List α
  | [], _, _ => []
  | _ :: r, 0, y => y :: r
  | x :: r, i + 1, y => x :: setAt r i y
def remV (x : PV) : List PV → Option (List PV)
  | [] => none
  | y :: ys => match eqV y x with
    | true => some ys
    | false => (remV x ys).map (y :: ·)
def ofA (r : Option Sto) : Rs PV := match r with
  | some M => .ok .non M
  | none => .no "method"
def appV (o x : PV) (M : Sto) : Option Sto := match o with
  | .loc n => match M[n]? with
    | some (.lst xs) => match Nat.blt xs.length cap with
      | true => some (setAt M n (.lst (xs ++ [x])))
      | false => none
    | _ => none
  | _ => none
def smV (m : SM) (o : PV) (vs : List PV) (M : Sto) : Rs PV := match m, vs with
  | .sitems, [] => match derefW M o with
    | .dic kvs => match sitemsV kvs with
      | some x => .ok x M
      | none => .no "sorted items"
    | _ => .no "sorted items"
  | .append, [x] => ofA (appV o x M)
  | .extend, [x] => match o, thingsOf (deref M x) with
    | .loc n, some ys => match M[n]? with
      | some (.lst xs) => .ok .non (setAt M n (.lst (xs ++ ys)))
      | _ => .no "extend"
    | _, _ => .no "extend to what stands"
  | .insert, [.int i, x] => match o with
    | .loc n => match M[n]? with
      | some (.lst xs) => .ok .non (setAt M n (.lst (xs.take (clampI i xs.length) ++ x :: xs.drop (clampI i xs.length))))
      | _ => .no "insert"
    | _ => .no "insert to what stands"
  | .remove, [x] => match o with
    | .loc n => match M[n]? with
      | some (.lst xs) => match okD 60 x && okL 60 xs with
        | true => match remV x xs with
          | some ys => .ok .non (setAt M n (.lst ys))
          | none => .no "remove: not there"
        | false => .no "remove of such things"
      | _ => .no "remove"
    | _ => .no "remove of what stands"
  | .popl, [] => match o with
    | .loc n => match M[n]? with
      | some (.lst xs) => match xs.getLast? with
        | some y => .ok y (setAt M n (.lst xs.dropLast))
        | none => .no "pop: empty"
      | _ => .no "pop"
    | _ => .no "pop of what stands"
  | .get, [k] => match deref M o with
    | .dic kvs => match keyOk k with
      | true => .ok ((dget k kvs).getD .non) M
      | false => .no "get key"
    | _ => .no "get"
  | .get2, [k, d] => match deref M o with
    | .dic kvs => match keyOk k with
      | true => .ok ((dget k kvs).getD d) M
      | false => .no "get key"
    | _ => .no "get2"
  | .items, [] => match deref M o with
    | .dic kvs => .ok (.lst (kvs.map fun kv => .tup [kv.1, kv.2])) M
    | _ => .no "items"
  | .keys, [] => match deref M o with
    | .dic kvs => .ok (.lst (kvs.map (·.1))) M
    | _ => .no "keys"
  | .values, [] => match deref M o with
    | .dic kvs => .ok (.lst (kvs.map (·.2))) M
    | _ => .no "values"
  | .pop, [k] => match o with
    | .loc n => match M[n]? with
      | some (.dic kvs) => match dget k kvs with
        | some v => .ok v (setAt M n (.dic (ddel k kvs)))
        | none => .no "pop: not there"
      | _ => .no "pop"
    | _ => .no "pop of what stands"
  | .pop2, [k, d] => match o with
    | .loc n => match M[n]? with
      | some (.dic kvs) => match dget k kvs with
        | some v => .ok v (setAt M n (.dic (ddel k kvs)))
        | none => .ok d M
      | _ => .no "pop2"
    | _ => .no "pop2 of what stands"
  | .setdefault, [k, d] => match o with
    | .loc n => match M[n]? with
      | some (.dic kvs) => match dget k kvs with
        | some v => .ok v M
        | none => .ok d (setAt M n (.dic (dput k d kvs)))
      | _ => .no "setdefault"
    | _ => .no "setdefault of what stands"
  | .update, [x] => match o, deref M x with
    | .loc n, .dic more => match M[n]? with
      | some (.dic kvs) => .ok .non (setAt M n (.dic (more.foldl (fun d kv => dput kv.1 kv.2 d) kvs)))
      | _ => .no "update"
    | _, _ => .no "update of what stands"
  | .join, [x] => match o, (thingsOf (deref M x)).bind strsOf with
    | .str sep, some ss => .ok (.str (joinS sep ss)) M
    | _, _ => .no "join"
  | .split, [.str [c]] => match o with
    | .str s => .ok (.lst ((splitC c s).map .str)) M
    | _ => .no "split"
  | .startswith, [.str a] => match o with
    | .str s => .ok (.bl (preS a s)) M
    | _ => .no "startswith"
  | _, _ => .no "method"
def newO (o : PO) (M : Sto) : Rs PV := .ok (.loc M.length) (M ++ [o])
def bindGo {α : Type} (kv : List (List Nat × α)) : List (List Nat) → List (Option α) → List α → Option (List α)
  | [], _, [] => some []
  | [], _, _ :: _ => none
  | _ :: ps, _ :: ds, x :: w => (bindGo kv ps ds w).map (x :: ·)
  | p :: ps, d :: ds, [] => match fget p kv with
    | some x => (bindGo kv ps ds []).map (x :: ·)
    | none => match d with
      | some x => (bindGo kv ps ds []).map (x :: ·)
      | none => none
  | _ :: _, [], _ => none
def ksOk (pn : List (List Nat)) : List (List Nat) → Bool
  | [] => true
  | k :: ks => match pn.any (seq k) && !(ks.any (seq k)) with
    | true => ksOk pn ks
    | false => false
def bindPs (f : Fn) (vs : List PV) (ks : List (List Nat)) : Option (List PV) :=
  match Nat.ble ks.length vs.length && Nat.ble (vs.length - ks.length) f.np && ksOk (f.pn.drop (vs.length - ks.length)) ks with
  | true => bindGo (ks.zip (vs.drop (vs.length - ks.length))) f.pn f.dv (vs.take (vs.length - ks.length))
  | false => none
def putSl : List Nat → List PV → Env → Env
  | i :: is, x :: xs, e => putSl is xs (setAt e i (some x))
  | _, _, e => e
def callF (P : Prog) (o : Orc) (f : Nat) (vs : List PV) (ks : List (List Nat)) (M : Sto) : Rs PV :=
  match P.fns[f]? with
  | none => .no "no def"
  | some d => match bindPs d vs ks with
    | none => .no "binding"
    | some ws => o f (putSl d.ps ws (List.replicate d.n none)) M
def callV (P : Prog) (o : Orc) (v : PV) (vs : List PV) (M : Sto) : Rs PV := match v with
  | .fn f => callF P o f vs [] M
  | .clo f env => match P.fns[f]? with
    | none => .no "no def"
    | some d => match Nat.beq d.ps.length vs.length with
      | true => o f (putSl d.ps vs env) M
      | false => .no "closure's arguments"
  | _ => .no "called: no def"
def wipe : List Nat → Env → Env
  | [], e => e
  | i :: is, e => wipe is (setAt e i none)
def Rs.nox {α : Type} : Rs α → Rs α
  | .ex _ _ => .no "an exception in =="
  | r => r
def sameC (M : Sto) (x y : PV) : Bool := match tyN M x, tyN M y with
  | some (.c a), some (.c b) => Nat.beq a b
  | _, _ => false
def onlyB (r : PV) (M : Sto) : Rs PV := match r with
  | .bl b => .ok (.bl b) M
  | _ => .no "=="
def cmpR (P : Prog) (o : Orc) (c : COp) (x y : PV) (M : Sto) : Rs PV :=
  match c with
  | .eq => match methOf P M x nmEq with
    | some f => match sameC M x y with
      | true => (callF P o f [x, y] [] M).nox.bind onlyB
      | false => .no "== of unlike"
    | none => match methOf P M y nmEq with
      | some _ => .no "== turned"
      | none => match snap M 62 x, snap M 62 y with
        | some a, some b => ofO "==" ((eqD a b).map .bl) M
        | _, _ => .no "=="
  | .ne => match methOf P M x nmEq with
    | some _ => .no "own !="
    | none => match methOf P M y nmEq with
      | some _ => .no "own !="
      | none => match snap M 62 x, snap M 62 y with
        | some a, some b => ofO "!=" ((eqD a b).map fun c => .bl (!c)) M
        | _, _ => .no "!="
  | .isin => ofO "in" ((inV M x y).map .bl) M
  | .notin => ofO "not in" ((inV M x y).map fun b => .bl (!b)) M
  | .lt => ofO "<" ((ltC (deref M x) (deref M y)).map .bl) M
  | .le => ofO "<=" ((leC (deref M x) (deref M y)).map .bl) M
  | .gt => ofO ">" ((gtC (deref M x) (deref M y)).map .bl) M
  | .ge => ofO ">=" ((geC (deref M x) (deref M y)).map .bl) M
  | .isN => .ok (.bl (match x with | .non => true | _ => false)) M
  | .notN => .ok (.bl (match x with | .non => false | _ => true)) M
  | .iss => .no "is"
  | .isnt => .no "is not"
def attrR (M : Sto) (x : PV) (f : List Nat) : Rs PV := match x with
  | .loc n => match M[n]? with
    | some (.ins _ fs) => ofO "attribute" (fget f fs) M
    | _ => .no "attribute"
  | .exo _ fs => ofO "attribute" (fget f fs) M
  | _ => .no "attribute"
def setAttr (M : Sto) (x : PV) (f : List Nat) (v : PV) : Option Sto := match x with
  | .loc n => match M[n]? with
    | some (.ins c fs) => match Nat.blt fs.length 1000 with
      | true => some (setAt M n (.ins c (fput f v fs)))
      | false => none
    | _ => none
  | _ => none
def setItem (M : Sto) (x i v : PV) : Option Sto := match x with
  | .loc n => match M[n]? with
    | some (.lst xs) => match i with
      | .int k => match ixN k xs.length with
        | some j => some (setAt M n (.lst (setAt xs j v)))
        | none => none
      | _ => none
    | some (.dic kvs) => match keyOk i && Nat.blt kvs.length cap with
      | true => some (setAt M n (.dic (dput i v kvs)))
      | false => none
    | _ => none
  | _ => none
def biR (P : Prog) (b : BI) (vs : List PV) (M : Sto) : Rs PV := ofO "builtin" (biO P b vs M) M
def keysBy (P : Prog) (o : Orc) (k : PV) : List PV → Sto → Rs (List (PV × PV))
  | [], M => .ok [] M
  | x :: xs, M => (callV P o k [x] M).bind fun y M => (keysBy P o k xs M).bind fun r M => .ok ((y, x) :: r) M
def lockN (M : Sto) (v : PV) : Option Nat := match v with
  | .loc n => match M[n]? with
    | some (.dic _) => some n
    | _ => none
  | _ => none
def lockD (M : Sto) (n : Nat) : Sto := match M[n]? with
  | some (.dic kvs) => setAt M n (.frz (.dic kvs))
  | _ => M
def unlockR (n : Nat) (x : PV) (M : Sto) : Rs PV := match M[n]? with
  | some (.frz (.dic kvs)) => .ok x (setAt M n (.dic kvs))
  | _ => .no "unlocked"
def mkR (x : PV) (M : Sto) : Rs PV := match x with
  | .lst xs => newO (.lst xs) M
  | .dic kvs => newO (.dic kvs) M
  | _ => .no "mk"
def mkdR (ks xs : List PV) (n : Nat) (M : Sto) : Rs PV := match M[n]? with
  | some (.dic []) => .ok (.loc n) (setAt M n (.dic ((ks.zip xs).foldl (fun d kv => dput kv.1 kv.2 d) [])))
  | _ => .no "mkd"
def opRs (p : BOp) (x y : PV) (M : Sto) : Rs PV := ofO "operator" (opV p (derefW M x) (derefW M y)) M
def negR (x : PV) (M : Sto) : Rs PV := match x with
  | .int i => .ok (.int (-i)) M
  | _ => .no "-"
def boolR (x : PV) (M : Sto) : Rs Bool := match x with
  | .bl b => .ok b M
  | _ => .no "no truth"
def tstR (x : PV) (M : Sto) : Rs Bool := ofO "truth" (truV (derefW M x)) M
def ixR (x y : PV) (M : Sto) : Rs PV := ofO "index" (ixV (deref M x) y) M
def slR (x : PV) (l h : Option Int) (M : Sto) : Rs PV := ofO "slice" (cutV (deref M x) l h) M
def bndR (x : PV) (M : Sto) : Rs (Option Int) := match x with
  | .int i => .ok (some i) M
  | _ => .no "a bound"
def srcR (x : PV) (M : Sto) : Rs Src := match x with
  | .loc n => match M[n]? with
    | some (.lst _) => .ok (.loc n) M
    | some (.frz (.dic _)) => .ok (.dks n) M
    | _ => .no "walked"
  | .tup xs => .ok (.pure xs) M
  | .lst xs => .ok (.pure xs) M
  | .str s => .ok (.pure (s.map fun c => .str [c])) M
  | _ => .no "walked"
def inR (i : Int) : Bool := decide (-(2 ^ 62) ≤ i) && decide (i < 2 ^ 62)
def rngR (x : PV) (M : Sto) : Rs Src := match x with
  | .int j => match inR j with
    | true => .ok (.rng 0 j.toNat) M
    | false => .no "a great range"
  | _ => .no "range"
def rng2R (x y : PV) (M : Sto) : Rs Src := match x, y with
  | .int i, .int j => match inR i && inR j with
    | true => .ok (.rng i (j - i).toNat) M
    | false => .no "a great range"
  | _, _ => .no "range"
def seqS (M : Sto) (x : PV) : Option Src := match x with
  | .tup xs => some (.pure xs)
  | .lst xs => some (.pure xs)
  | .loc n => match M[n]? with
    | some (.lst _) => some (.loc n)
    | _ => none
  | _ => none
def enumR (vs : List PV) (M : Sto) : Rs Src := match vs with
  | [x] => match seqS M x with
    | some s => .ok (.enum 0 s) M
    | none => .no "enumerate"
  | [x, y] => match y with
    | .int k => match inR k with
      | true => match seqS M x with
        | some s => .ok (.enum k s) M
        | none => .no "enumerate"
      | false => .no "enumerate"
    | _ => .no "enumerate"
  | _ => .no "enumerate"
def zipR (st : Bool) (vs : List PV) (M : Sto) : Rs Src := match vs with
  | [x, y] => match seqS M x with
    | some s => match seqS M y with
      | some t => .ok (.zip st s t) M
      | none => .no "zip"
    | none => .no "zip"
  | _ => .no "zip"
def enumzR (vs : List PV) (M : Sto) : Rs Src := match vs with
  | [x, y] => match seqS M x with
    | some s => match seqS M y with
      | some t => .ok (.enum 0 (.zip false s t)) M
      | none => .no "zip"
    | none => .no "zip"
  | _ => .no "zip"
def accR (acc : List PV) (y : PV) (M : Sto) : Rs (List PV) := match Nat.blt acc.length cap with
  | true => .ok (acc ++ [y]) M
  | false => .no "a great list"
def dAcc (acc : List PV) (x y : PV) (M : Sto) : Rs (List PV) := match acc with
  | [.dic kvs] => match keyOk x && Nat.blt kvs.length cap with
    | true => .ok [.dic (dput x y kvs)] M
    | false => .no "a dict's key"
  | _ => .no "a dict"
def dFin (acc : List PV) (M : Sto) : Rs PV := match acc with
  | [.dic kvs] => .ok (.dic kvs) M
  | _ => .no "a dict"
def isLst (x : PV) : Bool := match x with
  | .lst _ => true
  | _ => false
def isDic (x : PV) : Bool := match x with
  | .dic _ => true
  | _ => false
def isStr (x : PV) : Bool := match x with
  | .str _ => true
  | _ => false
def smOk (m : SM) (x : PV) (M : Sto) : Bool := match m with
  | .sitems => isDic (derefW M x) | .append => isLst (deref M x) | .extend => isLst (deref M x) | .insert => isLst (deref M x) | .remove => isLst (deref M x) | .popl => isLst (deref M x) | .index => isLst (deref M x)
  | .get => isDic (derefW M x) | .get2 => isDic (derefW M x) | .items => isDic (derefW M x) | .values => isDic (derefW M x) | .keys => isDic (derefW M x) | .pop => isDic (derefW M x) | .pop2 => isDic (derefW M x)
  | .setdefault => isDic (derefW M x) | .update => isDic (derefW M x)
  | .join => isStr x | .split => isStr x | .startswith => isStr x
def putR : List (Nat × PV) → Env → Env
  | [], e => e
  | p :: r, e => putR r (setAt e p.1 (some p.2))
def parR (is : List Nat) (xs : List PV) (env : Env) (M : Sto) : Rs Fl := match Nat.beq is.length xs.length with
  | true => .ok (.nx (putR (is.zip xs).reverse env)) M
  | false => .no "par"
def putA (env : Env) (ov : PV) (f : List Nat) (x : PV) (M : Sto) : Rs Env := match setAttr M ov f x with
  | some M => .ok env M
  | none => .no "store to an attribute"
def putI (env : Env) (ov iv x : PV) (M : Sto) : Rs Env := match setItem M ov iv x with
  | some M => .ok env M
  | none => .no "store to an item"
def augR (p : BOp) (i : Nat) (x y : PV) (env : Env) (M : Sto) : Rs Fl := match x, y with
  | .int a, .int b => match p with
    | .add => .ok (.nx (setAt env i (some (.int (a + b))))) M
    | .sub => .ok (.nx (setAt env i (some (.int (a - b))))) M
    | _ => .no "augmented"
  | _, _ => .no "augmented"
def newR (P : Prog) (o : Orc) (c : Nat) (vs : List PV) (ks : List (List Nat)) (M : Sto) : Rs PV := match P.cls[c]? with
  | none => .no "no class"
  | some k => match fgetN nmInit k.ms with
    | none => .no "no __init__"
    | some f => (callF P o f (.loc M.length :: vs) ks (M ++ [.ins c []])).bind fun r M' => match r with
      | .non => .ok (.loc M.length) M'
      | _ => .no "__init__"
section
variable (P : Prog) (o : Orc)
mutual
def evE (env : Env) : CE → Sto → Rs PV
  | .v i, M => match env[i]? with
    | some (some x) => .ok x M
    | _ => .no "unset"
  | .cst p, M => .ok p M
  | .tup es, M => (evL env es M).bind fun xs M => .ok (.tup xs) M
  | .lst es, M => (evL env es M).bind fun xs M => .ok (.lst xs) M
  | .dic ks es, M => (evL env ks M).bind fun ks M => (evL env es M).bind fun xs M => .ok (.dic ((ks.zip xs).foldl (fun d kv => dput kv.1 kv.2 d) [])) M
  | .lk d e, M => match evE env d M with
    | .ok v _ => match lockN M v with
      | some n => (evE env e (lockD M n)).nox.bind (unlockR n)
      | none => .no "locked"
    | _ => .no "locked"
  | .mk e, M => (evE env e M).bind mkR
  | .mkd ks es, M => (evL env es (M ++ [.dic []])).bind fun xs M1 => mkdR ks xs M.length M1
  | .stuck, M => .no "stuck"
  | .op p a b, M => (evE env a M).bind fun x M => (evE env b M).bind fun y M => opRs p x y M
  | .neg a, M => (evE env a M).bind negR
  | .cmp c a b, M => (evE env a M).bind fun x M => (evE env b M).bind fun y M => cmpR P o c x y M
  | .chn c d a b e, M => (evE env a M).bind fun x M => (evE env b M).bind fun y M => (cmpR P o c x y M).bind fun r M => (boolR r M).bind fun t M => match t with
    | true => (evE env e M).bind fun z M => cmpR P o d y z M
    | false => .ok (.bl false) M
  | .and a b, M => (evE env a M).bind fun x M => (tstR x M).bind fun t M => match t with
    | true => evE env b M
    | false => .ok x M
  | .or a b, M => (evE env a M).bind fun x M => (tstR x M).bind fun t M => match t with
    | true => .ok x M
    | false => evE env b M
  | .not a, M => (evE env a M).bind fun x M => (tstR x M).bind fun t M => .ok (.bl (!t)) M
  | .ite c a b, M => (evE env c M).bind fun x M => (tstR x M).bind fun t M => match t with
    | true => evE env a M
    | false => evE env b M
  | .call f es ks, M => (evL env es M).bind fun vs M => callF P o f vs ks M
  | .callv f es, M => (evE env f M).bind fun g M => (evL env es M).bind fun vs M => callV P o g vs M
  | .meth a m es ks, M => (evE env a M).bind fun x M => match methOf P M x m with
    | some f => (evL env es M).bind fun vs M => callF P o f (x :: vs) ks M
    | none => .no "no method"
  | .new c es ks, M => (evL env es M).bind fun vs M => newR P o c vs ks M
  | .attr a f, M => (evE env a M).bind fun x M => attrR M x f
  | .idx a b, M => (evE env a M).bind fun x M => (evE env b M).bind fun y M => ixR x y M
  | .sl a lo hi, M => (evE env a M).bind fun x M => (evO env lo M).bind fun l M => (evO env hi M).bind fun h M => slR x l h M
  | .bi b es, M => (evL env es M).bind fun vs M => biR P b vs M
  | .bis b s, M => (evI env s M).bind fun sv M => match Src.all M sv (sv.len M + 1) 0 with
    | none => .no "walk of things"
    | some xs => biR P b [.lst xs] M
  | .sortk e k, M => (evE env e M).bind fun x M => (evE env k M).bind fun kf M => match listOf (deref M x) with
    | none => .no "sorted"
    | some xs => (keysBy P o kf xs M).bind fun ps M => ofO "sorted by" ((sortBy ps).map .lst) M
  | .sm m a es, M => (evE env a M).bind fun x M => match smOk m x M with
    | true => (evL env es M).bind fun vs M => smV m x vs M
    | false => .no "a method of another"
  | .comp wp elt gs, M => (evG (fun env M (acc : List PV) => (evE env elt M).bind (accR acc)) (wipe wp env) env gs M []).bind fun xs M => .ok (.lst xs) M
  | .dcomp wp k v gs, M => (evG (fun env M (acc : List PV) => (evE env k M).bind fun x M => (evE env v M).bind fun y M => dAcc acc x y M) (wipe wp env) env gs M [.dic []]).bind dFin
  | .lam f, M => .ok (.clo f env) M
def evL (env : Env) : CL → Sto → Rs (List PV)
  | .nil, M => .ok [] M
  | .cons e es, M => (evE env e M).bind fun x M => (evL env es M).bind fun xs M => .ok (x :: xs) M
def evO (env : Env) : CO → Sto → Rs (Option Int)
  | .n, M => .ok none M
  | .s e, M => (evE env e M).bind bndR
def evI (env : Env) : CI → Sto → Rs Src
  | .e e, M => (evE env e M).bind srcR
  | .rng a, M => (evE env a M).bind rngR
  | .rng2 a b, M => (evE env a M).bind fun x M => (evE env b M).bind fun y M => rng2R x y M
  | .enum es, M => (evL env es M).bind enumR
  | .enumz es, M => (evL env es M).bind enumzR
  | .zip st es, M => (evL env es M).bind (zipR st)
def evG (f : Env → Sto → List PV → Rs (List PV)) (env out : Env) : CG → Sto → List PV → Rs (List PV)
  | .nil, M, acc => f env M acc
  | .cons t s c r, M, acc => (evI out s M).bind fun sv M =>
    (walk sv (fun x (acc : List PV) M => (evT env t x M).bind fun env M => match c with
      | .n => evG f env env r M acc
      | .s e => (evE env e M).bind fun b M => (tstR b M).bind fun t M => match t with
        | true => evG f env env r M acc
        | false => .ok acc M) (sv.len M + 1) 0 acc M)
def evT (env : Env) : CT → PV → Sto → Rs Env
  | .v i, x, M => .ok (setAt env i (some x)) M
  | .tup ts, x, M => match seqOf (deref M x) with
    | some xs => match Nat.beq ts.len xs.length with
      | true => evTs env ts xs M
      | false => .no "unpacked: how many"
    | none => .no "unpacked"
  | .star ts i, x, M => match deref M x with
    | .tup xs => match Nat.ble ts.len xs.length && Nat.ble xs.length 16384 with
      | true => (evTs env ts (xs.take ts.len) M).bind fun env M => .ok (setAt env i (some (.lst (xs.drop ts.len)))) M
      | false => .no "unpacked: how many"
    | _ => .no "unpacked"
  | .attr a f, x, M => (evE env a M).bind fun ov M => putA env ov f x M
  | .idx a b, x, M => (evE env a M).bind fun ov M => (evE env b M).bind fun iv M => putI env ov iv x M
def evTs (env : Env) : CTs → List PV → Sto → Rs Env
  | .nil, [], M => .ok env M
  | .cons t ts, x :: xs, M => (evT env t x M).bind fun env M => evTs env ts xs M
  | _, _, _ => .no "unpacked: how many"
end
def whileF : Nat → (Env → Sto → Rs Bool) → (Env → Sto → Rs Fl) → Env → Sto → Rs Fl
  | 0, _, _, _, _ => .no "while"
  | k + 1, c, f, e, M => (c e M).bind fun b M => match b with
    | false => .ok (.nx e) M
    | true => (f e M).bind fun r M => match r with
      | .nx e => whileF k c f e M
      | .ct e => whileF k c f e M
      | .bk e => .ok (.nx e) M
      | .rt v => .ok (.rt v) M
def WF : Nat := 100000
def handles (cs : List Nat) (e : Exn) : Bool := match P.cls[e.c]? with
  | none => false
  | some k => cs.any fun c => k.mro.any (Nat.beq c)
mutual
def evS (h : Option Exn) (env : Env) : CS → Sto → Rs Fl
  | .asg t e, M => (evE P o env e M).bind fun x M => (evT P o env t x M).bind fun env M => .ok (.nx env) M
  | .par is es, M => (evL P o env es M).bind fun xs M => parR is xs env M
  | .aug p t e, M => match t with
    | .v i => match env[i]? with
      | some (some x) => (evE P o env e M).bind fun y M => augR p i x y env M
      | _ => .no "unset"
    | .attr a f => (evE P o env a M).bind fun ov M => (attrR M ov f).bind fun x M => (evE P o env e M).bind fun y M => match opV p (derefW M x) (derefW M y) with
      | some z => match setAttr M ov f z with
        | some M => .ok (.nx env) M
        | none => .no "store to an attribute"
      | none => .no "operator"
    | .idx a b => (evE P o env a M).bind fun ov M => (evE P o env b M).bind fun iv M => match ixV (deref M ov) iv with
      | some x => (evE P o env e M).bind fun y M => match opV p (derefW M x) (derefW M y) with
        | some z => match setItem M ov iv z with
          | some M => .ok (.nx env) M
          | none => .no "store to an item"
        | none => .no "operator"
      | none => .no "index"
    | _ => .no "augmented"
  | .ex e, M => (evE P o env e M).bind fun _ M => .ok (.nx env) M
  | .ret e, M => (evE P o env e M).bind fun x M => .ok (.rt x) M
  | .ite c a b, M => (evE P o env c M).bind fun x M => (tstR x M).bind fun t M => match t with
    | true => evB h env a M
    | false => evB h env b M
  | .for_ t s b, M => (evI P o env s M).bind fun sv M =>
      walkF sv (fun x env M => (evT P o env t x M).bind fun env M => evB h env b M) (sv.len M + 1) 0 env M
  | .whl c b, M => whileF WF (fun env M => (evE P o env c M).bind tstR) (fun env M => evB h env b M) env M
  | .raise c es, M => (evL P o env es M).bind fun vs M => match P.cls[c]? with
    | none => .no "no class"
    | some k => match Nat.beq k.fields.length vs.length with
      | true => .ex ⟨c, k.fields.zip vs⟩ M
      | false => .no "exception's fields"
  | .reraise, M => match h with
    | some e => .ex e M
    | none => .no "reraise"
  | .try_ b hs f, M =>
    let r := match evB h env b M with
      | .ex e M => evH h env hs e M
      | r => r
    match f with
    | .nil => r
    | _ => match r with
      | .ok (.nx env) M => evB h env f M
      | .ok (.rt v) M => (evB h env f M).bind fun q M => match q with
        | .nx _ => .ok (.rt v) M
        | _ => .no "finally"
      | .ok _ _ => .no "finally"
      | .ex e M => (evB h env f M).bind fun q M => match q with
        | .nx _ => .ex e M
        | _ => .no "finally"
      | .no w => .no w
  | .pass, M => .ok (.nx env) M
  | .stuck, M => .no "stuck"
  | .fgt is, M => .ok (.nx env) (fgtM is M)
  | .brk, M => .ok (.bk env) M
  | .cont, M => .ok (.ct env) M
def evB (h : Option Exn) (env : Env) : CB → Sto → Rs Fl
  | .nil, M => .ok (.nx env) M
  | .cons s b, M => (evS h env s M).bind fun r M => match r with
    | .nx env => evB h env b M
    | r => .ok r M
def evH (h : Option Exn) (env : Env) : CH → Exn → Sto → Rs Fl
  | .nil, e, M => .ex e M
  | .cons cs i b r, e, M => match handles P cs e with
    | true => match i with
      | none => evB (some e) env b M
      | some i => (evB (some e) (setAt env i (some (.exo e.c e.fs))) b M).bind fun q M => match q with
        | .nx env => .ok (.nx (setAt env i none)) M
        | q => .ok q M
    | false => evH h env r e M
end
end
def runC (P : Prog) : Nat → Orc
  | 0, _, _, _ => .no "depth"
  | k + 1, f, env, M => match P.fns[f]? with
    | none => .no "no def"
    | some d => match evB P (runC P k) none env d.body M with
      | .ok (.rt v) M' => .ok v (gcF d.gc M.length v M')
      | .ok (.nx _) M' => .ok .non (gcF d.gc M.length .non M')
      | .ok _ _ => .no "break"
      | .ex e M' => .ex e (gcF d.gc M.length (.exo e.c e.fs) M')
      | .no w => .no w
def runF (P : Prog) (k f : Nat) (vs : List PV) : Rs PV := callF P (runC P k) f vs [] []
end Pf
end
section
set_option Elab.async false
set_option linter.all false
set_option maxRecDepth 100000
set_option maxHeartbeats 4000000
namespace Pf
open PySem PySem.Spec PyProof.Rows L2
def sv (l : List Nat) : Str := ⟨l.toArray⟩
theorem sv_inj {a b : List Nat} (h : sv a = sv b) : a = b := by
  have := congrArg (fun s : Str => s.cps.toList) h
  simpa [sv] using this
theorem seq_iff : ∀ {a b : List Nat}, seq a b = true ↔ a = b
  | [], [] => by simp [seq]
  | [], _ :: _ => by simp [seq]
  | _ :: _, [] => by simp [seq]
  | a :: r, b :: s => by
    unfold seq
    cases e : Nat.beq a b with
    | true =>
      have := Nat.eq_of_beq_eq_true e
      subst this
      simp [seq_iff]
    | false =>
      have : a ≠ b := fun q => by subst q; rw [Nat.beq_refl] at e; cases e
      simp [this]
structure Sta where
  K : PySem.W.Frag
  cA : Nat → Addr
  fA : Nat → Addr
  own : Nat → Bool
  hid : Addr → Prop
def Nh (S : Sta) (ρ : List Addr) (a : Addr) : Prop := a ∉ ρ ∧ ¬ S.hid a
section
variable (S : Sta) (H : Hp) (ρ : List Addr)
def RTup (a : Addr) (vs : List V) : Prop := (H a = some (.tup vs) ∧ Nh S ρ a) ∨
  ∃ (o : Obj) (its : Array Value) (n : Nat), S.K.lookup a = some o ∧ o.cls = .type "tuple" ∧ o.data = .seq its n ∧ its.size ≤ sizeLine ∧ Vals vs its.toList
def RLst (a : Addr) (vs : List V) : Prop := H a = some (.lst vs) ∧ Nh S ρ a
def keyP : PV → Option Key
  | .int i => some (.inl i)
  | .str s => some (.inr (sv s))
  | _ => none
mutual
def Rep : PV → V → Prop
  | .non, x => x = .non
  | .bl b, x => x = .bl b
  | .int i, x => x = .int i
  | .str s, x => x = .str (sv s)
  | .tup xs, x => ∃ a vs, x = .ref a ∧ RTup S H ρ a vs ∧ RepL xs vs
  | .lst xs, x => ∃ a vs, x = .ref a ∧ RLst S H ρ a vs ∧ RepL xs vs
  | .dic kvs, x => ∃ a ks, x = .ref a ∧ (H a = some (.dK ks) ∧ Nh S ρ a) ∧ RepD kvs ks
  | .loc n, x => ∃ a, x = .ref a ∧ ρ[n]? = some a
  | .fn i, x => x = .ref (S.fA i)
  | .cls i, x => x = .ref (S.cA i)
  | .clo _ _, _ => False
  | .exo _ _, _ => False
def RepL : List PV → List V → Prop
  | [], vs => vs = []
  | x :: xs, vs => ∃ v ws, vs = v :: ws ∧ Rep x v ∧ RepL xs ws
def RepD : List (PV × PV) → List (Key × V) → Prop
  | [], ks => ks = []
  | (k, x) :: r, ks => ∃ q v ws, ks = (q, v) :: ws ∧ keyP k = some q ∧ Rep x v ∧ RepD r ws
end
def RepF : List (List Nat × PV) → List (Str × V) → Prop
  | [], fs => fs = []
  | (k, x) :: r, fs => ∃ v ws, fs = (sv k, v) :: ws ∧ Rep S H ρ x v ∧ RepF r ws
def RepH : PO → HO → Prop
  | .lst xs, o => ∃ vs, o = .lst vs ∧ RepL S H ρ xs vs
  | .dic kvs, o => ∃ ks, o = .dK ks ∧ RepD S H ρ kvs ks
  | .ins c fs, o => ∃ dx vs, o = .ins (S.cA c) dx vs ∧ S.own c = true ∧ RepF S H ρ fs vs
  | .frz p, o => ∃ ob u, o = .frz ob u ∧ RepH p u
  | .any, _ => True
def RepM : Sto → List Addr → Prop
  | [], as => as = []
  | p :: M, as => ∃ a r o, as = a :: r ∧ H a = some o ∧ RepH S H ρ p o ∧ RepM M r
structure Abs (M : Sto) : Prop where
  m : RepM S H ρ M ρ
  nd : ρ.Nodup
  hd : ∀ a, S.hid a → H a ≠ none
def RepE (env : Env) (σ : List (Option V)) : Prop := env.length = σ.length ∧ ∀ (i : Nat) (v : PV), env[i]? = some (some v) → ∃ x : V, (σ : List (Option V))[i]? = some (some x) ∧ Rep S H ρ v x
end
structure Ext (ρ : List Addr) (H : Hp) (ρ' : List Addr) (H' : Hp) : Prop where
  pre : ∃ l, ρ' = ρ ++ l ∧ ∀ a ∈ l, H a = none
  keep : ∀ a o, H a = some o → a ∉ ρ → H' a = some o
  dom : ∀ a, H a ≠ none → H' a ≠ none
  frz : ∀ a o u, H a = some (.frz o u) → H' a = some (.frz o u)
section
variable {S : Sta} {H H' H2 : Hp} {ρ ρ' ρ2 : List Addr}
theorem Ext.refl : Ext ρ H ρ H := ⟨⟨[], by simp, by simp⟩, fun _ _ h _ => h, fun _ h => h, fun _ _ _ h => h⟩
theorem Ext.mem (x : Ext ρ H ρ' H') {a : Addr} (h : a ∈ ρ) : a ∈ ρ' := by
  obtain ⟨l, e, _⟩ := x.pre
  rw [e]; exact List.mem_append_left _ h
theorem Ext.nmem (x : Ext ρ H ρ' H') {a : Addr} {o : HO} (h : H a = some o) (n : a ∉ ρ) : a ∉ ρ' := by
  obtain ⟨l, e, f⟩ := x.pre
  rw [e]
  intro m
  rcases List.mem_append.mp m with m | m
  · exact n m
  · rw [f a m] at h; cases h
theorem Ext.trans (x : Ext ρ H ρ' H') (y : Ext ρ' H' ρ2 H2) : Ext ρ H ρ2 H2 := by
  obtain ⟨l, e, f⟩ := x.pre
  obtain ⟨k, e2, f2⟩ := y.pre
  refine ⟨⟨l ++ k, by rw [e2, e, List.append_assoc], fun a ha => ?_⟩, fun a o h n => y.keep a o (x.keep a o h n) (x.nmem h n), fun a h => y.dom a (x.dom a h), fun a o u h => y.frz a o u (x.frz a o u h)⟩
  rcases List.mem_append.mp ha with m | m
  · exact f a m
  · cases q : H a with
    | none => rfl
    | some o => exact absurd (f2 a m) (x.dom a (by rw [q]; exact fun z => by cases z))
theorem Ext.get (x : Ext ρ H ρ' H') {n : Nat} {a : Addr} (h : ρ[n]? = some a) : ρ'[n]? = some a := by
  obtain ⟨l, e, _⟩ := x.pre
  rw [e, List.getElem?_append_left (List.getElem?_eq_some_iff.mp h).1]
  exact h
theorem Ext.at (x : Ext ρ H ρ' H') {a : Addr} {u : HO} (h : H a = some u) (n : Nh S ρ a) : H' a = some u ∧ Nh S ρ' a := ⟨x.keep _ _ h n.1, x.nmem h n.1, n.2⟩
theorem RTup.ext (x : Ext ρ H ρ' H') {a : Addr} {vs : List V} (h : RTup S H ρ a vs) : RTup S H' ρ' a vs := by
  rcases h with ⟨h, n⟩ | h
  · exact .inl (x.at h n)
  · exact .inr h
theorem RLst.ext (x : Ext ρ H ρ' H') {a : Addr} {vs : List V} (h : RLst S H ρ a vs) : RLst S H' ρ' a vs := x.at h.1 h.2
mutual
theorem Rep.ext (x : Ext ρ H ρ' H') : ∀ (p : PV) {v : V}, Rep S H ρ p v → Rep S H' ρ' p v
  | .non, _, h => h
  | .bl _, _, h => h
  | .int _, _, h => h
  | .str _, _, h => h
  | .tup xs, _, h => by
    obtain ⟨a, vs, e, t, r⟩ := h
    exact ⟨a, vs, e, t.ext x, RepL.ext x xs r⟩
  | .lst xs, _, h => by
    obtain ⟨a, vs, e, t, r⟩ := h
    exact ⟨a, vs, e, t.ext x, RepL.ext x xs r⟩
  | .dic kvs, _, h => by
    obtain ⟨a, ks, e, ⟨t, n⟩, r⟩ := h
    exact ⟨a, ks, e, x.at t n, RepD.ext x kvs r⟩
  | .loc _, _, h => by
    obtain ⟨a, e, q⟩ := h
    exact ⟨a, e, x.get q⟩
  | .fn _, _, h => h
  | .cls _, _, h => h
  | .clo _ _, _, h => h
  | .exo _ _, _, h => h
theorem RepL.ext (x : Ext ρ H ρ' H') : ∀ (ps : List PV) {vs : List V}, RepL S H ρ ps vs → RepL S H' ρ' ps vs
  | [], _, h => h
  | p :: ps, _, h => by
    obtain ⟨v, ws, e, r, t⟩ := h
    exact ⟨v, ws, e, Rep.ext x p r, RepL.ext x ps t⟩
theorem RepD.ext (x : Ext ρ H ρ' H') : ∀ (ps : List (PV × PV)) {vs : List (Key × V)}, RepD S H ρ ps vs → RepD S H' ρ' ps vs
  | [], _, h => h
  | (k, p) :: ps, _, h => by
    obtain ⟨q, v, ws, e, hk, r, t⟩ := h
    exact ⟨q, v, ws, e, hk, Rep.ext x p r, RepD.ext x ps t⟩
end
theorem RepF.ext (x : Ext ρ H ρ' H') : ∀ (ps : List (List Nat × PV)) {vs : List (Str × V)}, RepF S H ρ ps vs → RepF S H' ρ' ps vs
  | [], _, h => h
  | (k, p) :: ps, _, h => by
    obtain ⟨v, ws, e, r, t⟩ := h
    exact ⟨v, ws, e, Rep.ext x p r, RepF.ext x ps t⟩
theorem RepH.ext (x : Ext ρ H ρ' H') : ∀ (p : PO) {o : HO}, RepH S H ρ p o → RepH S H' ρ' p o
  | .lst xs, _, h => by
    obtain ⟨vs, e, r⟩ := h
    exact ⟨vs, e, RepL.ext x _ r⟩
  | .dic kvs, _, h => by
    obtain ⟨ks, e, r⟩ := h
    exact ⟨ks, e, RepD.ext x _ r⟩
  | .ins c fs, _, h => by
    obtain ⟨dx, vs, e, w, r⟩ := h
    exact ⟨dx, vs, e, w, RepF.ext x _ r⟩
  | .frz p, _, h => by
    obtain ⟨ob, u, e, r⟩ := h
    exact ⟨ob, u, e, RepH.ext x p r⟩
  | .any, _, h => h
theorem RepE.ext (x : Ext ρ H ρ' H') {env : Env} {σ : List (Option V)} (h : RepE S H ρ env σ) : RepE S H' ρ' env σ :=
  ⟨h.1, fun i v e => by
    obtain ⟨y, e1, r⟩ := h.2 i v e
    exact ⟨y, e1, Rep.ext x v r⟩⟩
def Post {α : Type} (S : Sta) (ρ : List Addr) (H : Hp) (r : Rs α) (okP : α → Sto → List Addr → Hp → Prop) (exP : Exn → Sto → List Addr → Hp → Prop) : Prop :=
  match r with
  | .ok v M' => ∀ ρ' H', Ext ρ H ρ' H' → Abs S H' ρ' M' → okP v M' ρ' H'
  | .ex e M' => ∀ ρ' H', Ext ρ H ρ' H' → Abs S H' ρ' M' → exP e M' ρ' H'
  | .no _ => False
theorem Post.bind {α β : Type} {r : Rs α} {f : α → Sto → Rs β} {okP : β → Sto → List Addr → Hp → Prop} {exP : Exn → Sto → List Addr → Hp → Prop} (h : Post S ρ H (r.bind f) okP exP) :
    Post S ρ H r (fun v M1 ρ1 H1 => Post S ρ1 H1 (f v M1) okP exP) exP := by
  cases r with
  | ok v M1 =>
    intro ρ1 H1 x1 A1
    have h' : Post S ρ H (f v M1) okP exP := h
    cases q : f v M1 with
    | ok w M2 =>
      rw [q] at h'
      exact fun ρ2 H2 x2 A2 => h' ρ2 H2 (x1.trans x2) A2
    | ex e M2 =>
      rw [q] at h'
      exact fun ρ2 H2 x2 A2 => h' ρ2 H2 (x1.trans x2) A2
    | no w =>
      rw [q] at h'
      exact h'
  | ex e M1 => exact h
  | no w => exact h
theorem Post.imp {α : Type} {r : Rs α} {okP okQ : α → Sto → List Addr → Hp → Prop} {exP exQ : Exn → Sto → List Addr → Hp → Prop} (h : Post S ρ H r okP exP)
    (f : ∀ v M ρ' H', r = .ok v M → Ext ρ H ρ' H' → Abs S H' ρ' M → okP v M ρ' H' → okQ v M ρ' H') (g : ∀ e M ρ' H', Ext ρ H ρ' H' → Abs S H' ρ' M → exP e M ρ' H' → exQ e M ρ' H') : Post S ρ H r okQ exQ := by
  cases r with
  | ok v M1 => exact fun ρ' H' x A => f v M1 ρ' H' rfl x A (h ρ' H' x A)
  | ex e M1 => exact fun ρ' H' x A => g e M1 ρ' H' x A (h ρ' H' x A)
  | no w => exact h
theorem Post.now {α : Type} {v : α} {M : Sto} {okP : α → Sto → List Addr → Hp → Prop} {exP : Exn → Sto → List Addr → Hp → Prop} (h : Post S ρ H (.ok v M) okP exP) (A : Abs S H ρ M) : okP v M ρ H := h ρ H Ext.refl A
theorem RepM.get : ∀ {M : Sto} {as : List Addr} {n : Nat} {p : PO}, RepM S H ρ M as → M[n]? = some p → ∃ a o, as[n]? = some a ∧ H a = some o ∧ RepH S H ρ p o
  | [], _, _, _, _, h => by simp at h
  | q :: M, _, 0, p, ⟨a, r, o, e, ha, hr, _⟩, h => by
    simp at h; subst h; subst e
    exact ⟨a, o, rfl, ha, hr⟩
  | q :: M, _, n + 1, p, ⟨a, r, o, e, _, _, t⟩, h => by
    subst e
    simpa using RepM.get (n := n) t (by simpa using h)
theorem RepM.len : ∀ {M : Sto} {as : List Addr}, RepM S H ρ M as → M.length = as.length
  | [], _, h => by subst h; rfl
  | _ :: M, _, ⟨a, r, o, e, _, _, t⟩ => by subst e; simp [RepM.len t]
theorem RepM.mem : ∀ {M : Sto} {as : List Addr} {a : Addr}, RepM S H ρ M as → a ∈ as → ∃ o, H a = some o
  | [], _, _, h, m => by subst h; cases m
  | _ :: M, _, b, ⟨a, r, o, e, ha, _, t⟩, m => by
    subst e
    rcases List.mem_cons.mp m with q | q
    · subst q; exact ⟨o, ha⟩
    · exact RepM.mem t q
theorem Abs.get {M : Sto} (A : Abs S H ρ M) {n : Nat} {p : PO} (h : M[n]? = some p) : ∃ a o, ρ[n]? = some a ∧ H a = some o ∧ RepH S H ρ p o := A.m.get h
theorem Abs.len {M : Sto} (A : Abs S H ρ M) : M.length = ρ.length := A.m.len
theorem Abs.fresh {M : Sto} (A : Abs S H ρ M) {a : Addr} (h : H a = none) : Nh S ρ a := by
  refine ⟨fun m => ?_, fun z => A.hd a z h⟩
  obtain ⟨o, e⟩ := A.m.mem m
  rw [h] at e; cases e
theorem RepM.imp {H' : Hp} {ρ' : List Addr} (f : ∀ p o, RepH S H ρ p o → RepH S H' ρ' p o) : ∀ {M : Sto} {as : List Addr}, RepM S H ρ M as → (∀ a ∈ as, ∀ o, H a = some o → H' a = some o) → RepM S H' ρ' M as
  | [], _, h, _ => h
  | _ :: M, _, ⟨a, r, o, e, ha, hr, t⟩, k => by
    subst e
    exact ⟨a, r, o, rfl, k a List.mem_cons_self o ha, f _ _ hr, RepM.imp f t fun b hb => k b (List.mem_cons_of_mem _ hb)⟩
theorem RepM.app {p : PO} {a : Addr} {o : HO} : ∀ {M : Sto} {as : List Addr}, RepM S H ρ M as → H a = some o → RepH S H ρ p o → RepM S H ρ (M ++ [p]) (as ++ [a])
  | [], _, h, ha, hr => by subst h; exact ⟨a, [], o, rfl, ha, hr, rfl⟩
  | _ :: M, _, ⟨b, r, q, e, hb, hq, t⟩, ha, hr => by
    subst e
    exact ⟨b, r ++ [a], q, rfl, hb, hq, RepM.app t ha hr⟩
theorem ext_new {p : Addr} {o : HO} (h : H p = none) : Ext ρ H ρ (upd H p o) :=
  ⟨⟨[], by simp, by simp⟩, fun a q e _ => by rw [upd_ne (ne_of_none e h)]; exact e, fun a q => by
    unfold upd
    split
    · exact fun z => by cases z
    · exact q, fun a q u e => by rw [upd_ne (ne_of_none e h)]; exact e⟩
theorem abs_new {M : Sto} (A : Abs S H ρ M) {p : Addr} {o : HO} (h : H p = none) : Abs S (upd H p o) ρ M :=
  ⟨A.m.imp (fun q u r => RepH.ext (ext_new h) q r) fun a ha u e => by rw [upd_ne (ne_of_none e h)]; exact e, A.nd, fun a z => (ext_new (ρ := ρ) h).dom a (A.hd a z)⟩
theorem ext_loc {p : Addr} {o : HO} (h : H p = none) : Ext ρ H (ρ ++ [p]) (upd H p o) :=
  ⟨⟨[p], rfl, fun a ha => by rw [List.mem_singleton.mp ha]; exact h⟩, fun a q e _ => by rw [upd_ne (ne_of_none e h)]; exact e, fun a q => by
    unfold upd
    split
    · exact fun z => by cases z
    · exact q, fun a q u e => by rw [upd_ne (ne_of_none e h)]; exact e⟩
theorem abs_loc {M : Sto} (A : Abs S H ρ M) {p : Addr} {o : HO} {q : PO} (h : H p = none) (r : RepH S (upd H p o) (ρ ++ [p]) q o) : Abs S (upd H p o) (ρ ++ [p]) (M ++ [q]) :=
  ⟨RepM.app (A.m.imp (fun q u r => RepH.ext (ext_loc h) q r) fun a ha u e => by rw [upd_ne (ne_of_none e h)]; exact e) upd_same r,
    List.nodup_append.mpr ⟨A.nd, by simp, fun a ha b hb => by
      rw [List.mem_singleton.mp hb]
      intro e
      subst e
      exact (A.fresh h).1 ha⟩, fun a z => (ext_loc (ρ := ρ) h).dom a (A.hd a z)⟩
theorem ext_write {M : Sto} {a : Addr} {o w : HO} (hm : a ∈ ρ) (ho : H a = some w) (nz : ∀ ob u, w ≠ .frz ob u := by (intro _ _ z; cases z)) : Ext ρ H ρ (upd H a o) :=
  ⟨⟨[], by simp, by simp⟩, fun b q e n => by rw [upd_ne (fun z => n (by rw [z]; exact hm))]; exact e, fun b q => by
    unfold upd
    split
    · exact fun z => by cases z
    · exact q, fun b ob u e => by rw [upd_ne (fun z => by rw [z, ho] at e; exact nz _ _ (Option.some.inj e))]; exact e⟩
theorem RepM.set {H' : Hp} {ρ' : List Addr} {q : PO} {u : HO} : ∀ {M : Sto} {as : List Addr} {n : Nat} {a : Addr}, RepM S H ρ M as → as.Nodup → as[n]? = some a → (∀ p o, RepH S H ρ p o → RepH S H' ρ' p o) → (∀ b o, b ≠ a → H b = some o → H' b = some o) →
    H' a = some u → RepH S H' ρ' q u → RepM S H' ρ' (setAt M n q) as
  | [], _, _, _, h, _, e, _, _, _, _ => by subst h; simp at e
  | _ :: M, _, 0, a, ⟨b, r, o, e, hb, hq, t⟩, nd, h, f, k, hu, hr => by
    subst e
    simp at h; subst h
    have hn := (List.nodup_cons.mp nd).1
    exact ⟨b, r, u, rfl, hu, hr, RepM.imp f t fun c hc o e => k c o (fun z => hn (by rw [← z]; exact hc)) e⟩
  | _ :: M, _, n + 1, a, ⟨b, r, o, e, hb, hq, t⟩, nd, h, f, k, hu, hr => by
    subst e
    have h' : r[n]? = some a := by simpa using h
    have hn := (List.nodup_cons.mp nd).1
    have hba : b ≠ a := fun z => hn (by rw [z]; exact List.mem_of_getElem? h')
    exact ⟨b, r, o, rfl, k b o hba hb, f _ _ hq, RepM.set t (List.nodup_cons.mp nd).2 h' f k hu hr⟩
theorem abs_write {M : Sto} (A : Abs S H ρ M) {n : Nat} {a : Addr} {o w : HO} {q : PO} (h : ρ[n]? = some a) (ho : H a = some w) (r : RepH S H ρ q o) (nz : ∀ ob u, w ≠ .frz ob u := by (intro _ _ z; cases z)) : Abs S (upd H a o) ρ (setAt M n q) := by
  have x : Ext ρ H ρ (upd H a o) := ext_write (M := M) (List.mem_of_getElem? h) ho nz
  exact ⟨RepM.set A.m A.nd h (fun p u r => RepH.ext x p r) (fun b u hb e => by rw [upd_ne hb]; exact e) upd_same (RepH.ext x q r), A.nd, fun a z => x.dom a (A.hd a z)⟩
end
def Sta.wh (S : Sta) (h : Addr → Prop) : Sta := ⟨S.K, S.cA, S.fA, S.own, h⟩
section
variable {S : Sta} {H H2 : Hp} {ρ ρ2 : List Addr} {h1 h2 : Addr → Prop}
structure Mv (S : Sta) (h1 : Addr → Prop) (H : Hp) (ρ : List Addr) (h2 : Addr → Prop) (H2 : Hp) (ρ2 : List Addr) : Prop where
  pre : ∀ (n : Nat) (a : Addr), ρ[n]? = some a → ρ2[n]? = some a
  kp : ∀ a o, H a = some o → Nh (S.wh h1) ρ a → H2 a = some o ∧ Nh (S.wh h2) ρ2 a
theorem RTup.mv (m : Mv S h1 H ρ h2 H2 ρ2) {a : Addr} {vs : List V} (h : RTup (S.wh h1) H ρ a vs) : RTup (S.wh h2) H2 ρ2 a vs := by
  rcases h with ⟨h, n⟩ | h
  · exact .inl (m.kp _ _ h n)
  · exact .inr h
mutual
theorem Rep.mv (m : Mv S h1 H ρ h2 H2 ρ2) : ∀ (p : PV) {v : V}, Rep (S.wh h1) H ρ p v → Rep (S.wh h2) H2 ρ2 p v
  | .non, _, h => h
  | .bl _, _, h => h
  | .int _, _, h => h
  | .str _, _, h => h
  | .tup xs, _, h => by
    obtain ⟨a, vs, e, t, r⟩ := h
    exact ⟨a, vs, e, t.mv m, RepL.mv m xs r⟩
  | .lst xs, _, h => by
    obtain ⟨a, vs, e, t, r⟩ := h
    exact ⟨a, vs, e, m.kp _ _ t.1 t.2, RepL.mv m xs r⟩
  | .dic kvs, _, h => by
    obtain ⟨a, ks, e, ⟨t, n⟩, r⟩ := h
    exact ⟨a, ks, e, m.kp _ _ t n, RepD.mv m kvs r⟩
  | .loc _, _, h => by
    obtain ⟨a, e, q⟩ := h
    exact ⟨a, e, m.pre _ _ q⟩
  | .fn _, _, h => h
  | .cls _, _, h => h
  | .clo _ _, _, h => h
  | .exo _ _, _, h => h
theorem RepL.mv (m : Mv S h1 H ρ h2 H2 ρ2) : ∀ (ps : List PV) {vs : List V}, RepL (S.wh h1) H ρ ps vs → RepL (S.wh h2) H2 ρ2 ps vs
  | [], _, h => h
  | p :: ps, _, h => by
    obtain ⟨v, ws, e, r, t⟩ := h
    exact ⟨v, ws, e, Rep.mv m p r, RepL.mv m ps t⟩
theorem RepD.mv (m : Mv S h1 H ρ h2 H2 ρ2) : ∀ (ps : List (PV × PV)) {vs : List (Key × V)}, RepD (S.wh h1) H ρ ps vs → RepD (S.wh h2) H2 ρ2 ps vs
  | [], _, h => h
  | (k, p) :: ps, _, h => by
    obtain ⟨q, v, ws, e, hk, r, t⟩ := h
    exact ⟨q, v, ws, e, hk, Rep.mv m p r, RepD.mv m ps t⟩
end
theorem RepF.mv (m : Mv S h1 H ρ h2 H2 ρ2) : ∀ (ps : List (List Nat × PV)) {vs : List (Str × V)}, RepF (S.wh h1) H ρ ps vs → RepF (S.wh h2) H2 ρ2 ps vs
  | [], _, h => h
  | (k, p) :: ps, _, h => by
    obtain ⟨v, ws, e, r, t⟩ := h
    exact ⟨v, ws, e, Rep.mv m p r, RepF.mv m ps t⟩
theorem RepH.mv (m : Mv S h1 H ρ h2 H2 ρ2) : ∀ (p : PO) {o : HO}, RepH (S.wh h1) H ρ p o → RepH (S.wh h2) H2 ρ2 p o
  | .lst xs, _, h => by
    obtain ⟨vs, e, r⟩ := h
    exact ⟨vs, e, RepL.mv m _ r⟩
  | .dic kvs, _, h => by
    obtain ⟨vs, e, r⟩ := h
    exact ⟨vs, e, RepD.mv m _ r⟩
  | .ins c fs, _, h => by
    obtain ⟨dx, vs, e, w, r⟩ := h
    exact ⟨dx, vs, e, w, RepF.mv m _ r⟩
  | .frz p, _, h => by
    obtain ⟨ob, u, e, r⟩ := h
    exact ⟨ob, u, e, RepH.mv m p r⟩
  | .any, _, h => h
theorem RepE.mv (m : Mv S h1 H ρ h2 H2 ρ2) {env : Env} {σ : List (Option V)} (h : RepE (S.wh h1) H ρ env σ) : RepE (S.wh h2) H2 ρ2 env σ :=
  ⟨h.1, fun i v e => by
    obtain ⟨y, e1, r⟩ := h.2 i v e
    exact ⟨y, e1, Rep.mv m v r⟩⟩
theorem RepM.mv (m : Mv S h1 H ρ h2 H2 ρ2) : ∀ {M : Sto} {as : List Addr}, RepM (S.wh h1) H ρ M as → (∀ a ∈ as, ∀ o, H a = some o → H2 a = some o) → RepM (S.wh h2) H2 ρ2 M as
  | [], _, h, _ => h
  | _ :: M, _, ⟨a, r, o, e, ha, hr, t⟩, k => by
    subst e
    exact ⟨a, r, o, rfl, k a List.mem_cons_self o ha, RepH.mv m _ hr, RepM.mv m t fun b hb => k b (List.mem_cons_of_mem _ hb)⟩
theorem mv_ext {h : Addr → Prop} (x : Ext ρ H ρ2 H2) : Mv S h H ρ h H2 ρ2 :=
  ⟨fun _ _ e => x.get e, fun a o e n => ⟨x.keep a o e n.1, x.nmem e n.1, n.2⟩⟩
end
end Pf
end
section
set_option Elab.async false
set_option linter.all false
set_option maxRecDepth 100000
set_option maxHeartbeats 4000000
namespace Pf
open PySem PySem.Spec PyProof.Rows L2
theorem PE.imp {X : Cx} {e : Expr} {t t' : TE} (h : PE X e t) (f : ∀ σ H Q, t' σ H Q → t σ H Q) : PE X e t' :=
  ⟨fun pins s σ H Q I q => h.run pins s σ H Q I (f σ H Q q)⟩
theorem PT.imp {X : Cx} {e : Expr} {t t' : TT} (h : PT X e t) (f : ∀ σ H Q, t' σ H Q → t σ H Q) : PT X e t' :=
  ⟨fun pins s σ H Q I q => h.run pins s σ H Q I (f σ H Q q)⟩
theorem PA.imp {X : Cx} {es : List Expr} {t t' : TA} (h : PA X es t) (f : ∀ σ H Q, t' σ H Q → t σ H Q) : PA X es t' :=
  ⟨fun pos pins s σ H Q I q => h.run pos pins s σ H Q I (f σ H Q q)⟩
abbrev Den (α : Type) := Env → Sto → Rs α
def exW (S : Sta) (W : WX) (σ : L2.St) : Exn → Sto → List Addr → Hp → Prop := fun e _ ρ H => ∀ dx fs, H dx = some (.xd fs) → RepF S H ρ e.fs fs → W (.ref (S.cA e.c)) (some dx) σ H
abbrev WP := L2.St → Exn → Sto → List Addr → Hp → Prop
def tE (S : Sta) (Wx : WP) (d : Den PV) : TE := fun σ H Q => ∃ ρ M env, Abs S H ρ M ∧ RepE S H ρ env σ ∧
  Post S ρ H (d env M) (fun v _ ρ' H' => ∀ x, Rep S H' ρ' v x → Q x H') (Wx σ)
def tA (S : Sta) (Wx : WP) (d : Den (List PV)) : TA := fun σ H Q => ∃ ρ M env, Abs S H ρ M ∧ RepE S H ρ env σ ∧
  Post S ρ H (d env M) (fun v _ ρ' H' => ∀ x, RepL S H' ρ' v x → Q x H') (Wx σ)
def tT (S : Sta) (Wx : WP) (d : Den Bool) : TT := fun σ H Q => ∃ ρ M env, Abs S H ρ M ∧ RepE S H ρ env σ ∧
  Post S ρ H (d env M) (fun v _ ρ' H' => Q v H') (Wx σ)
section
variable {S : Sta} {Wx : WP} {X : Cx} {α : Type}
theorem tE_seq {d : Den PV} {k : PV → Sto → Rs α} {σ : L2.St} {H : Hp} {ρ : List Addr} {M : Sto} {env : Env} {okP : α → Sto → List Addr → Hp → Prop}
    (A : Abs S H ρ M) (e : RepE S H ρ env σ) (h : Post S ρ H ((d env M).bind k) okP (Wx σ)) :
    tE S Wx d σ H fun x H1 => ∃ v M1 ρ1, Abs S H1 ρ1 M1 ∧ RepE S H1 ρ1 env σ ∧ Ext ρ H ρ1 H1 ∧ Rep S H1 ρ1 v x ∧ Post S ρ1 H1 (k v M1) okP (Wx σ) :=
  ⟨ρ, M, env, A, e, h.bind.imp (fun v M1 ρ1 H1 _ x A1 P x' r => ⟨v, M1, ρ1, A1, e.ext x, x, r, P⟩) fun _ _ _ _ _ _ P => P⟩
theorem tA_seq {d : Den (List PV)} {k : List PV → Sto → Rs α} {σ : L2.St} {H : Hp} {ρ : List Addr} {M : Sto} {env : Env} {okP : α → Sto → List Addr → Hp → Prop}
    (A : Abs S H ρ M) (e : RepE S H ρ env σ) (h : Post S ρ H ((d env M).bind k) okP (Wx σ)) :
    tA S Wx d σ H fun x H1 => ∃ v M1 ρ1, Abs S H1 ρ1 M1 ∧ RepE S H1 ρ1 env σ ∧ Ext ρ H ρ1 H1 ∧ RepL S H1 ρ1 v x ∧ Post S ρ1 H1 (k v M1) okP (Wx σ) :=
  ⟨ρ, M, env, A, e, h.bind.imp (fun v M1 ρ1 H1 _ x A1 P x' r => ⟨v, M1, ρ1, A1, e.ext x, x, r, P⟩) fun _ _ _ _ _ _ P => P⟩
theorem tT_seq {d : Den Bool} {k : Bool → Sto → Rs α} {σ : L2.St} {H : Hp} {ρ : List Addr} {M : Sto} {env : Env} {okP : α → Sto → List Addr → Hp → Prop}
    (A : Abs S H ρ M) (e : RepE S H ρ env σ) (h : Post S ρ H ((d env M).bind k) okP (Wx σ)) :
    tT S Wx d σ H fun b H1 => ∃ M1 ρ1, Abs S H1 ρ1 M1 ∧ RepE S H1 ρ1 env σ ∧ Ext ρ H ρ1 H1 ∧ Post S ρ1 H1 (k b M1) okP (Wx σ) :=
  ⟨ρ, M, env, A, e, h.bind.imp (fun v M1 ρ1 H1 _ x A1 P => ⟨M1, ρ1, A1, e.ext x, x, P⟩) fun _ _ _ _ _ _ P => P⟩
theorem tE_mono {d : Den PV} {σ : L2.St} {H : Hp} {Q Q' : VK} (h : tE S Wx d σ H Q) (f : ∀ x H', Q x H' → Q' x H') : tE S Wx d σ H Q' := by
  obtain ⟨ρ, M, env, A, e, P⟩ := h
  exact ⟨ρ, M, env, A, e, P.imp (fun v M1 ρ1 H1 _ _ _ q x r => f x H1 (q x r)) fun _ _ _ _ _ _ q => q⟩
theorem tA_mono {d : Den (List PV)} {σ : L2.St} {H : Hp} {Q Q' : List V → Hp → Prop} (h : tA S Wx d σ H Q) (f : ∀ x H', Q x H' → Q' x H') : tA S Wx d σ H Q' := by
  obtain ⟨ρ, M, env, A, e, P⟩ := h
  exact ⟨ρ, M, env, A, e, P.imp (fun v M1 ρ1 H1 _ _ _ q x r => f x H1 (q x r)) fun _ _ _ _ _ _ q => q⟩
theorem tT_mono {d : Den Bool} {σ : L2.St} {H : Hp} {Q Q' : Bool → Hp → Prop} (h : tT S Wx d σ H Q) (f : ∀ x H', Q x H' → Q' x H') : tT S Wx d σ H Q' := by
  obtain ⟨ρ, M, env, A, e, P⟩ := h
  exact ⟨ρ, M, env, A, e, P.imp (fun v M1 ρ1 H1 _ _ _ q => f v H1 q) fun _ _ _ _ _ _ q => q⟩
variable {prog : Prog} {o : Orc}
theorem s_var {i : Nat} {x : Str} {pos : Pos} (hN : X.N[i]? = some x) (hv : Vis X.env.scope x) (hd : (x == ("__debug__" : Str)) = false) (hcd : (x == ("__classdict__" : Str)) = false) :
    PE X (.Name x pos) (tE S Wx fun env => evE prog o env (.v i)) :=
  PE.imp (pe_var hN hv hd hcd) fun σ H Q ⟨ρ, M, env, A, e, P⟩ => by
    have P : Post S ρ H (match env[i]? with
      | some (some x) => .ok x M
      | _ => .no "unset") _ _ := P
    split at P
    · rename_i v q
      obtain ⟨y, h1, r⟩ := e.2 i v q
      exact ⟨y, h1, P.now A y r⟩
    · exact P.elim
theorem s_int {i : Int} {j pos} : PE X (.Constant (.int i) j pos) (tE S Wx fun env => evE prog o env (.cst (.int i))) :=
  PE.imp pe_int fun σ H Q ⟨ρ, M, env, A, e, P⟩ => Post.now P A _ rfl
theorem s_bl {b : Bool} {j pos} : PE X (.Constant (.bool b) j pos) (tE S Wx fun env => evE prog o env (.cst (.bl b))) :=
  PE.imp pe_bl fun σ H Q ⟨ρ, M, env, A, e, P⟩ => Post.now P A _ rfl
theorem s_non {j pos} : PE X (.Constant .none j pos) (tE S Wx fun env => evE prog o env (.cst .non)) :=
  PE.imp pe_non fun σ H Q ⟨ρ, M, env, A, e, P⟩ => Post.now P A _ rfl
theorem s_str {l : List Nat} {j pos} : PE X (.Constant (.str (sv l)) j pos) (tE S Wx fun env => evE prog o env (.cst (.str l))) :=
  PE.imp pe_str fun σ H Q ⟨ρ, M, env, A, e, P⟩ => Post.now P A _ rfl
theorem s_glob {x : Str} {p : PV} {v : V} {u : Value} {pos : Pos} (hg : Gl X x) (hm : X.mg x = some u) (r : RelV v u) (hr : ∀ H ρ, Rep S H ρ p v) (hd : (x == ("__debug__" : Str)) = false) :
    PE X (.Name x pos) (tE S Wx fun env => evE prog o env (.cst p)) :=
  PE.imp (pe_glob hg hm r hd) fun σ H Q ⟨ρ, M, env, A, e, P⟩ => Post.now P A _ (hr _ _)
theorem s_nil : PA X [] (tA S Wx fun env => evL prog o env .nil) :=
  PA.imp pa_nil fun σ H Q ⟨ρ, M, env, A, e, P⟩ => Post.now P A _ rfl
theorem s_cons {e : Expr} {es : List Expr} {c : CE} {cs : CL} (h : PE X e (tE S Wx fun env => evE prog o env c)) (ht : PA X es (tA S Wx fun env => evL prog o env cs))
    (hs : starEach (e :: es) X.env = (false, eval e X.env) :: starEach es X.env) : PA X (e :: es) (tA S Wx fun env => evL prog o env (.cons c cs)) :=
  PA.imp (pa_cons h ht hs) fun σ H Q ⟨ρ, M, env, A, E, P⟩ => by
    refine tE_mono (tE_seq (d := fun env => evE prog o env c) A E P) fun x H1 ⟨v, M1, ρ1, A1, E1, x1, r1, P1⟩ => ?_
    refine tA_mono (tA_seq (d := fun env => evL prog o env cs) A1 E1 P1) fun xs H2 ⟨vs, M2, ρ2, A2, E2, x2, r2, P2⟩ => ?_
    exact P2.now A2 _ ⟨_, _, rfl, Rep.ext x2 v r1, r2⟩
theorem RTup.sq {H : Hp} {ρ : List Addr} {a : Addr} {vs : List V} (h : RTup S H ρ a vs) : SqT S.K H a vs := by
  rcases h with ⟨h, _⟩ | h
  · exact .inl (.inl h)
  · exact .inr h
theorem deref_loc {M : Sto} {v w : PV} (e : deref M v = w) (hw : ∀ n, w ≠ .loc n) : v = w ∨ ∃ n, v = .loc n ∧ ((∃ xs, w = .lst xs ∧ (M[n]? = some (.lst xs) ∨ M[n]? = some (.frz (.lst xs)))) ∨ ∃ kvs, w = .dic kvs ∧ (M[n]? = some (.dic kvs) ∨ M[n]? = some (.frz (.dic kvs)))) := by
  unfold deref at e
  split at e
  · rename_i n
    split at e
    · exact .inr ⟨n, rfl, .inl ⟨_, e.symm, .inl (by assumption)⟩⟩
    · exact .inr ⟨n, rfl, .inr ⟨_, e.symm, .inl (by assumption)⟩⟩
    · exact .inr ⟨n, rfl, .inr ⟨_, e.symm, .inr (by assumption)⟩⟩
    · exact .inr ⟨n, rfl, .inl ⟨_, e.symm, .inr (by assumption)⟩⟩
    · exact absurd e.symm (hw n)
  · exact .inl e
variable {H : Hp} {ρ : List Addr} {M : Sto} {v : PV} {x : V}
theorem d_lst {xs : List PV} (A : Abs S H ρ M) (r : Rep S H ρ v x) (e : deref M v = .lst xs) : ∃ a vs, x = .ref a ∧ SqL S.K H a vs ∧ RepL S H ρ xs vs := by
  rcases deref_loc e (fun n z => by cases z) with rfl | ⟨n, rfl, ⟨ys, q, g⟩ | ⟨_, q, _⟩⟩
  · obtain ⟨a, vs, e1, t, q⟩ := r
    exact ⟨a, vs, e1, .inl (.inl t.1), q⟩
  · cases q
    obtain ⟨a, e1, h1⟩ := r
    rcases g with g | g
    · obtain ⟨b, o, hb, ho, vs, e2, q⟩ := A.get g
      rw [h1] at hb; cases hb; subst e2
      exact ⟨a, vs, e1, .inl (.inl ho), q⟩
    · obtain ⟨b, o, hb, ho, ob, u, e2, vs, e3, q⟩ := A.get g
      rw [h1] at hb; cases hb; subst e2; subst e3
      exact ⟨a, vs, e1, .inl (.inr ⟨ob, ho⟩), q⟩
  · cases q
theorem d_tup {xs : List PV} (r : Rep S H ρ v x) (e : deref M v = .tup xs) : ∃ a vs, x = .ref a ∧ SqT S.K H a vs ∧ RepL S H ρ xs vs := by
  rcases deref_loc e (fun n z => by cases z) with rfl | ⟨n, rfl, ⟨ys, q, g⟩ | ⟨_, q, _⟩⟩
  · obtain ⟨a, vs, e1, t, q⟩ := r
    exact ⟨a, vs, e1, t.sq, q⟩
  · cases q
  · cases q
theorem d_dic {kvs : List (PV × PV)} (A : Abs S H ρ M) (r : Rep S H ρ v x) (e : deref M v = .dic kvs) : ∃ a ks, x = .ref a ∧ Rd H a (.dK ks) ∧ RepD S H ρ kvs ks := by
  rcases deref_loc e (fun n z => by cases z) with rfl | ⟨n, rfl, ⟨ys, q, g⟩ | ⟨ys, q, g⟩⟩
  · obtain ⟨a, ks, e1, t, q⟩ := r
    exact ⟨a, ks, e1, .inl t.1, q⟩
  · cases q
  · cases q
    obtain ⟨a, e1, h1⟩ := r
    rcases g with g | g
    · obtain ⟨b, o, hb, ho, vs, e2, q⟩ := A.get g
      rw [h1] at hb; cases hb; subst e2
      exact ⟨a, vs, e1, .inl ho, q⟩
    · obtain ⟨b, o, hb, ho, ob, u, e2, vs, e3, q⟩ := A.get g
      rw [h1] at hb; cases hb; subst e2; subst e3
      exact ⟨a, vs, e1, .inr ⟨ob, ho⟩, q⟩
theorem d_sc {w : PV} (r : Rep S H ρ v x) (e : deref M v = w) (hw : ∀ n, w ≠ .loc n) (hl : ∀ xs, w ≠ .lst xs) (hd : ∀ xs, w ≠ .dic xs) : Rep S H ρ w x := by
  rcases deref_loc e hw with rfl | ⟨n, rfl, ⟨ys, q, g⟩ | ⟨ys, q, g⟩⟩
  · exact r
  · exact absurd q (hl _)
  · exact absurd q (hd _)
theorem d_int {i : Int} (r : Rep S H ρ v x) (e : deref M v = .int i) : x = .int i := d_sc r e (fun _ z => by cases z) (fun _ z => by cases z) fun _ z => by cases z
theorem d_bl {i : Bool} (r : Rep S H ρ v x) (e : deref M v = .bl i) : x = .bl i := d_sc r e (fun _ z => by cases z) (fun _ z => by cases z) fun _ z => by cases z
theorem d_str {i : List Nat} (r : Rep S H ρ v x) (e : deref M v = .str i) : x = .str (sv i) := d_sc r e (fun _ z => by cases z) (fun _ z => by cases z) fun _ z => by cases z
theorem d_non (r : Rep S H ρ v x) (e : deref M v = .non) : x = .non := d_sc r e (fun _ z => by cases z) (fun _ z => by cases z) fun _ z => by cases z
theorem RepL.len : ∀ {xs : List PV} {vs : List V}, RepL S H ρ xs vs → xs.length = vs.length
  | [], _, h => by subst h; rfl
  | _ :: xs, _, ⟨v, ws, e, _, t⟩ => by subst e; simp [RepL.len t]
theorem RepL.get : ∀ {xs : List PV} {vs : List V} {i : Nat} {p : PV}, RepL S H ρ xs vs → xs[i]? = some p → ∃ w, vs[i]? = some w ∧ Rep S H ρ p w
  | [], _, _, _, _, h => by simp at h
  | q :: xs, _, 0, p, ⟨v, ws, e, r, t⟩, h => by subst e; simp at h; subst h; exact ⟨v, rfl, r⟩
  | q :: xs, _, i + 1, p, ⟨v, ws, e, r, t⟩, h => by subst e; simpa using RepL.get (i := i) t (by simpa using h)
theorem RepL.app : ∀ {xs ys : List PV} {vs ws : List V}, RepL S H ρ xs vs → RepL S H ρ ys ws → RepL S H ρ (xs ++ ys) (vs ++ ws)
  | [], _, _, _, h, k => by subst h; exact k
  | _ :: xs, _, _, _, ⟨v, us, e, r, t⟩, k => by subst e; exact ⟨v, us ++ _, rfl, r, RepL.app t k⟩
theorem RepL.drop : ∀ {xs : List PV} {vs : List V} (n : Nat), RepL S H ρ xs vs → RepL S H ρ (xs.drop n) (vs.drop n)
  | _, _, 0, h => h
  | [], _, n + 1, h => by subst h; exact rfl
  | _ :: xs, _, n + 1, ⟨v, us, e, r, t⟩ => by subst e; exact RepL.drop n t
theorem RepL.take : ∀ {xs : List PV} {vs : List V} (n : Nat), RepL S H ρ xs vs → RepL S H ρ (xs.take n) (vs.take n)
  | _, _, 0, h => rfl
  | [], _, n + 1, h => by subst h; exact rfl
  | _ :: xs, _, n + 1, ⟨v, us, e, r, t⟩ => by subst e; exact ⟨v, us.take n, rfl, r, RepL.take n t⟩
theorem rep_tup {xs : List PV} {vs : List V} {p : Addr} (A : Abs S H ρ M) (h : H p = none) (r : RepL S H ρ xs vs) : Rep S (upd H p (.tup vs)) ρ (.tup xs) (.ref p) :=
  ⟨p, vs, rfl, .inl ⟨upd_same, A.fresh h⟩, RepL.ext (ext_new h) xs r⟩
theorem rep_lst {xs : List PV} {vs : List V} {p : Addr} (A : Abs S H ρ M) (h : H p = none) (r : RepL S H ρ xs vs) : Rep S (upd H p (.lst vs)) ρ (.lst xs) (.ref p) :=
  ⟨p, vs, rfl, ⟨upd_same, A.fresh h⟩, RepL.ext (ext_new h) xs r⟩
theorem rep_dic {xs : List (PV × PV)} {vs : List (Key × V)} {p : Addr} (A : Abs S H ρ M) (h : H p = none) (r : RepD S H ρ xs vs) : Rep S (upd H p (.dK vs)) ρ (.dic xs) (.ref p) :=
  ⟨p, vs, rfl, ⟨upd_same, A.fresh h⟩, RepD.ext (ext_new h) xs r⟩
theorem rep_loc {p : Addr} {o : HO} (A : Abs S H ρ M) : Rep S (upd H p o) (ρ ++ [p]) (.loc M.length) (.ref p) :=
  ⟨p, rfl, by rw [A.len]; simp⟩
def r2 (S : Sta) (f : Sto → PV → PV → Option PV) : R2 := fun x y H Q => ∃ ρ M a b z, Abs S H ρ M ∧ Rep S H ρ a x ∧ Rep S H ρ b y ∧ f M a b = some z ∧
  ∀ ρ' H' z', Ext ρ H ρ' H' → Abs S H' ρ' M → Rep S H' ρ' z z' → Q z' H'
theorem OpR.imp {X : Cx} {f : Value → Value → Sem Value} {r r' : R2} (h : OpR X f r) (k : ∀ x y H Q, r' x y H Q → r x y H Q) : OpR X f r' :=
  fun pins s σ H x y v u Q I rx ry q => h pins s σ H x y v u Q I rx ry (k x y H Q q)
end
end Pf
end
section
set_option Elab.async false
set_option linter.all false
set_option maxRecDepth 100000
set_option maxHeartbeats 4000000
namespace Pf
open PySem PySem.Spec PyProof.Rows L2
section
variable {S : Sta} {Wx : WP} {X : Cx} {α : Type} {prog : Prog} {o : Orc} {H : Hp} {ρ : List Addr} {M : Sto} {v : PV} {x : V}
theorem derefW_of {M : Sto} {v w : PV} (e : derefW M v = w) : v = w ∨ ∃ n, v = .loc n ∧ ((∃ xs, w = .lst xs ∧ M[n]? = some (.lst xs)) ∨ ∃ kvs, w = .dic kvs ∧ M[n]? = some (.dic kvs)) := by
  unfold derefW at e
  split at e
  · rename_i n
    split at e
    · exact .inr ⟨n, rfl, .inl ⟨_, e.symm, by assumption⟩⟩
    · exact .inr ⟨n, rfl, .inr ⟨_, e.symm, by assumption⟩⟩
    · exact .inl e
  · exact .inl e
theorem w_lst {xs : List PV} (A : Abs S H ρ M) (r : Rep S H ρ v x) (e : derefW M v = .lst xs) : ∃ a vs, x = .ref a ∧ H a = some (.lst vs) ∧ RepL S H ρ xs vs := by
  rcases derefW_of e with rfl | ⟨n, rfl, ⟨ys, q, g⟩ | ⟨_, q, _⟩⟩
  · obtain ⟨a, vs, e1, t, q⟩ := r
    exact ⟨a, vs, e1, t.1, q⟩
  · cases q
    obtain ⟨a, e1, h1⟩ := r
    obtain ⟨b, o, hb, ho, vs, e2, q⟩ := A.get g
    rw [h1] at hb; cases hb; subst e2
    exact ⟨a, vs, e1, ho, q⟩
  · cases q
theorem w_dic {xs : List (PV × PV)} (A : Abs S H ρ M) (r : Rep S H ρ v x) (e : derefW M v = .dic xs) : ∃ a vs, x = .ref a ∧ H a = some (.dK vs) ∧ RepD S H ρ xs vs := by
  rcases derefW_of e with rfl | ⟨n, rfl, ⟨ys, q, g⟩ | ⟨_, q, g⟩⟩
  · obtain ⟨a, vs, e1, t, q⟩ := r
    exact ⟨a, vs, e1, t.1, q⟩
  · cases q
  · cases q
    obtain ⟨a, e1, h1⟩ := r
    obtain ⟨b, o, hb, ho, vs, e2, q⟩ := A.get g
    rw [h1] at hb; cases hb; subst e2
    exact ⟨a, vs, e1, ho, q⟩
theorem w_sc {w : PV} (r : Rep S H ρ v x) (e : derefW M v = w) (hl : ∀ xs, w ≠ .lst xs) (hd : ∀ xs, w ≠ .dic xs) : Rep S H ρ w x := by
  rcases derefW_of e with rfl | ⟨n, rfl, ⟨ys, q, g⟩ | ⟨ys, q, g⟩⟩
  · exact r
  · exact absurd q (hl _)
  · exact absurd q (hd _)
theorem w_int {i : Int} (r : Rep S H ρ v x) (e : derefW M v = .int i) : x = .int i := w_sc r e (fun _ z => by cases z) fun _ z => by cases z
theorem w_str {i : List Nat} (r : Rep S H ρ v x) (e : derefW M v = .str i) : x = .str (sv i) := w_sc r e (fun _ z => by cases z) fun _ z => by cases z
theorem w_tup {xs : List PV} (r : Rep S H ρ v x) (e : derefW M v = .tup xs) : ∃ a vs, x = .ref a ∧ RTup S H ρ a vs ∧ RepL S H ρ xs vs := w_sc r e (fun _ z => by cases z) fun _ z => by cases z
theorem fitO_some {n : Nat} {v z : PV} (h : fitO n v = some z) : n ≤ sizeLine ∧ v = z := by
  unfold fitO at h
  split at h
  · rename_i e
    have := Nat.le_of_ble_eq_true e
    exact ⟨by rw [sizeLine_eq]; exact this, Option.some.inj h⟩
  · cases h
theorem sv_app (a b : List Nat) : sv a ++ sv b = sv (a ++ b) := by
  show Str.append (sv a) (sv b) = _
  unfold Str.append sv
  simp
theorem sv_len (a : List Nat) : (sv a).length = a.length := by
  show (a.toArray).size = _
  simp
def opA : BOp → Operator
  | .add => .Add | .sub => .Sub | .mul => .Mult | .fdiv => .FloorDiv | .mod => .Mod | .pow => .Pow | .bor => .BitOr
theorem op_int {f : Value → Value → Sem Value} {C : Int → Int → Prop} {g : Int → Int → V} (h : OpR X f (rI C g)) {p : Int → Int → Int} (hg : ∀ i j, g i j = .int (p i j)) {a b z : PV} {y : V} {Q : VK} {i j : Int}
    (A : Abs S H ρ M) (ra : Rep S H ρ a x) (rb : Rep S H ρ b y) (ea : derefW M a = .int i) (eb : derefW M b = .int j) (hc : C i j) (ez : z = .int (p i j))
    (q : ∀ ρ' H' z', Ext ρ H ρ' H' → Abs S H' ρ' M → Rep S H' ρ' z z' → Q z' H') : rI C g x y H Q := by
  refine ⟨i, j, w_int ra ea, w_int rb eb, hc, ?_⟩
  rw [hg]
  exact q ρ H _ Ext.refl A (by rw [ez]; rfl)
theorem opR_add' (hK : X.K = S.K) : OpR X (binaryOp .Add) (r2 S fun M a b => opV .add (derefW M a) (derefW M b)) := by
  refine OpR.imp (OpR.or op_add (OpR.or op_add_str (OpR.or op_catA op_cat))) fun x y H Q ⟨ρ, M, a, b, z, A, ra, rb, e, q⟩ => ?_
  replace e : opV .add (derefW M a) (derefW M b) = some z := e
  generalize ea : derefW M a = a' at e
  generalize eb : derefW M b = b' at e
  cases a' <;> cases b' <;> first
    | (cases e; done)
    | skip
  · rename_i i j
    cases e
    exact .inl ⟨i, j, w_int ra ea, w_int rb eb, q ρ H _ Ext.refl A rfl⟩
  · rename_i i j
    obtain ⟨hz, rfl⟩ := fitO_some e
    refine .inr (.inl ⟨sv i, sv j, w_str ra ea, w_str rb eb, by rw [sv_len, sv_len]; exact hz, q ρ H _ Ext.refl A ?_⟩)
    rw [sv_app]; rfl
  · rename_i xs ys
    obtain ⟨hz, rfl⟩ := fitO_some e
    obtain ⟨p, vs, e1, t1, r1⟩ := w_tup ra ea
    obtain ⟨p2, ws, e2, t2, r2⟩ := w_tup rb eb
    refine .inr (.inr (.inl ⟨p, p2, vs, ws, e1, e2, by rw [hK]; exact t1.sq, by rw [hK]; exact t2.sq, by rw [← r1.len, ← r2.len]; exact hz, fun h0 => ?_, fun _ h0 => ?_, fun _ _ p3 hp => ?_⟩))
    · subst h0
      have : xs = [] := List.length_eq_zero_iff.mp (by rw [r1.len]; rfl)
      subst this
      exact q ρ H _ Ext.refl A ⟨p2, ws, rfl, t2, r2⟩
    · subst h0
      have : ys = [] := List.length_eq_zero_iff.mp (by rw [r2.len]; rfl)
      subst this
      exact q ρ H _ Ext.refl A ⟨p, vs, rfl, t1, by rw [List.append_nil]; exact r1⟩
    · exact q ρ _ _ (ext_new hp) (abs_new A hp) (rep_tup A hp (r1.app r2))
  · rename_i xs ys
    obtain ⟨hz, rfl⟩ := fitO_some e
    obtain ⟨p, vs, e1, t1, r1⟩ := w_lst A ra ea
    obtain ⟨p2, ws, e2, t2, r2⟩ := w_lst A rb eb
    exact .inr (.inr (.inr ⟨p, p2, vs, ws, e1, e2, t1, t2, by rw [← r1.len, ← r2.len]; exact hz, fun p3 hp => q ρ _ _ (ext_new hp) (abs_new A hp) (rep_lst A hp (r1.app r2))⟩))
theorem opR_int {p : BOp} {f : Value → Value → Sem Value} {C : Int → Int → Prop} {g : Int → Int → V} (h : OpR X f (rI C g)) {k : Int → Int → Int} (hg : ∀ i j, g i j = .int (k i j))
    (hp : ∀ a b z, opV p a b = some z → ∃ i j, a = .int i ∧ b = .int j ∧ C i j ∧ z = .int (k i j)) : OpR X f (r2 S fun M a b => opV p (derefW M a) (derefW M b)) := by
  refine OpR.imp h fun x y H Q ⟨ρ, M, a, b, z, A, ra, rb, e, q⟩ => ?_
  obtain ⟨i, j, e1, e2, hc, ez⟩ := hp _ _ _ e
  exact op_int h hg A ra rb e1 e2 hc ez q
theorem opR_sub : OpR X (binaryOp .Sub) (r2 S fun M a b => opV .sub (derefW M a) (derefW M b)) := by
  refine OpR.imp op_sub fun x y H Q ⟨ρ, M, a, b, z, A, ra, rb, e, q⟩ => ?_
  replace e : opV .sub (derefW M a) (derefW M b) = some z := e
  generalize ea : derefW M a = a' at e
  generalize eb : derefW M b = b' at e
  cases a' <;> cases b' <;> first
    | (cases e; done)
    | skip
  rename_i i j
  cases e
  exact ⟨i, j, w_int ra ea, w_int rb eb, q ρ H _ Ext.refl A rfl⟩
theorem opR_mul : OpR X (binaryOp .Mult) (r2 S fun M a b => opV .mul (derefW M a) (derefW M b)) :=
  opR_int op_mul (fun _ _ => rfl) fun a b z e => by
    cases a <;> cases b <;> first
      | (cases e; done)
      | skip
    rename_i i j
    have e : (match (decide (-(2 ^ 64) < i) && decide (i < 2 ^ 64)) || (decide (-(2 ^ 64) < j) && decide (j < 2 ^ 64)) with
      | true => some (PV.int (i * j))
      | false => none) = some z := e
    split at e
    · rename_i hb
      refine ⟨i, j, rfl, rfl, ?_, (Option.some.inj e).symm⟩
      rcases Bool.or_eq_true_iff.mp hb with q | q
      · have := Bool.and_eq_true_iff.mp q
        exact .inl ⟨of_decide_eq_true this.1, of_decide_eq_true this.2⟩
      · have := Bool.and_eq_true_iff.mp q
        exact .inr ⟨of_decide_eq_true this.1, of_decide_eq_true this.2⟩
    · cases e
theorem opR_mod : OpR X (binaryOp .Mod) (r2 S fun M a b => opV .mod (derefW M a) (derefW M b)) :=
  opR_int op_mod (fun _ _ => rfl) fun a b z e => by
    cases a <;> cases b <;> first
      | (cases e; done)
      | skip
    rename_i i j
    have e : (match decide (0 < j) with
      | true => some (PV.int (i % j))
      | false => none) = some z := e
    split at e
    · rename_i hb
      exact ⟨i, j, rfl, rfl, of_decide_eq_true hb, (Option.some.inj e).symm⟩
    · cases e
theorem opR_fdiv : OpR X (binaryOp .FloorDiv) (r2 S fun M a b => opV .fdiv (derefW M a) (derefW M b)) :=
  opR_int op_fdiv (fun _ _ => rfl) fun a b z e => by
    cases a <;> cases b <;> first
      | (cases e; done)
      | skip
    rename_i i j
    have e : (match decide (0 < j) && decide (j < 1073741824) with
      | true => some (PV.int (i / j))
      | false => none) = some z := e
    split at e
    · rename_i hb
      have := Bool.and_eq_true_iff.mp hb
      exact ⟨i, j, rfl, rfl, ⟨of_decide_eq_true this.1, of_decide_eq_true this.2⟩, (Option.some.inj e).symm⟩
    · cases e
theorem opR_pow : OpR X (binaryOp .Pow) (r2 S fun M a b => opV .pow (derefW M a) (derefW M b)) :=
  opR_int op_pow (fun _ _ => rfl) fun a b z e => by
    cases a <;> cases b <;> first
      | (cases e; done)
      | skip
    rename_i i j
    have e : (match (decide (0 ≤ j) && decide (j ≤ 1000)) && decide (i.natAbs < 2 ^ 64) with
      | true => some (PV.int (i ^ j.toNat))
      | false => none) = some z := e
    split at e
    · rename_i hb
      obtain ⟨h1, h2⟩ := Bool.and_eq_true_iff.mp hb
      obtain ⟨h3, h4⟩ := Bool.and_eq_true_iff.mp h1
      have h5 : j ≤ 1000 := of_decide_eq_true h4
      exact ⟨i, j, rfl, rfl, ⟨of_decide_eq_true h3, by omega, of_decide_eq_true h2⟩, (Option.some.inj e).symm⟩
    · cases e
def opOk : BOp → Bool
  | .bor => false
  | _ => true
theorem opR_all (hK : X.K = S.K) {p : BOp} (h : opOk p = true) : OpR X (binaryOp (opA p)) (r2 S fun M a b => opV p (derefW M a) (derefW M b)) := by
  cases p with
  | add => exact opR_add' hK
  | sub => exact opR_sub
  | mul => exact opR_mul
  | fdiv => exact opR_fdiv
  | mod => exact opR_mod
  | pow => exact opR_pow
  | bor => cases h
theorem s_op (hK : X.K = S.K) {p : BOp} (h : opOk p = true) {a b : Expr} {c d : CE} {pos : Pos} (ha : PE X a (tE S Wx fun env => evE prog o env c)) (hb : PE X b (tE S Wx fun env => evE prog o env d)) :
    PE X (.BinOp a (opA p) b pos) (tE S Wx fun env => evE prog o env (.op p c d)) :=
  PE.imp (pe_op (opR_all hK h) ha hb) fun σ H Q ⟨ρ, M, env, A, E, P⟩ => by
    refine tE_mono (tE_seq (d := fun env => evE prog o env c) A E P) fun x H1 ⟨v, M1, ρ1, A1, E1, x1, r1, P1⟩ => ?_
    refine tE_mono (tE_seq (d := fun env => evE prog o env d) A1 E1 P1) fun y H2 ⟨w, M2, ρ2, A2, E2, x2, r2, P2⟩ => ?_
    have P2 : Post S ρ2 H2 (ofO "operator" (opV p (derefW M2 v) (derefW M2 w)) M2) _ _ := P2
    cases e : opV p (derefW M2 v) (derefW M2 w) with
    | none =>
      rw [e] at P2
      exact P2.elim
    | some z =>
      rw [e] at P2
      exact ⟨ρ2, M2, v, w, z, A2, Rep.ext x2 v r1, r2, e, fun ρ' H' z' x3 A3 r3 => P2 ρ' H' x3 A3 z' r3⟩
end
end Pf
end
section
set_option Elab.async false
set_option linter.all false
set_option maxRecDepth 100000
set_option maxHeartbeats 4000000
namespace Pf
open PySem PySem.Spec PyProof.Rows L2
section
variable {S : Sta} {Wx : WP} {X : Cx} {α : Type} {prog : Prog} {o : Orc} {H : Hp} {ρ : List Addr} {M : Sto} {v : PV} {x : V}
def CL.len : CL → Nat
  | .nil => 0
  | .cons _ es => es.len + 1
theorem evL_len {env : Env} : ∀ {cs : CL} {M M' : Sto} {vs : List PV}, evL prog o env cs M = .ok vs M' → vs.length = cs.len
  | .nil, M, M', vs, h => by
    cases (show Rs.ok [] M = .ok vs M' from h)
    rfl
  | .cons c cs, M, M', vs, h => by
    have h : (evE prog o env c M).bind (fun x M => (evL prog o env cs M).bind fun xs M => .ok (x :: xs) M) = .ok vs M' := h
    cases e : evE prog o env c M with
    | ok x M1 =>
      rw [e] at h
      have h : (evL prog o env cs M1).bind (fun xs M => .ok (x :: xs) M) = .ok vs M' := h
      cases e2 : evL prog o env cs M1 with
      | ok xs M2 =>
        rw [e2] at h
        cases h
        show xs.length + 1 = _
        rw [evL_len e2]; rfl
      | ex _ _ => rw [e2] at h; cases h
      | no _ => rw [e2] at h; cases h
    | ex _ _ => rw [e] at h; cases h
    | no _ => rw [e] at h; cases h
theorem tA_seqE {d : Den (List PV)} {k : List PV → Sto → Rs α} {σ : L2.St} {H : Hp} {ρ : List Addr} {M : Sto} {env : Env} {okP : α → Sto → List Addr → Hp → Prop}
    (A : Abs S H ρ M) (e : RepE S H ρ env σ) (h : Post S ρ H ((d env M).bind k) okP (Wx σ)) :
    tA S Wx d σ H fun x H1 => ∃ v M1 ρ1, d env M = .ok v M1 ∧ Abs S H1 ρ1 M1 ∧ RepE S H1 ρ1 env σ ∧ Ext ρ H ρ1 H1 ∧ RepL S H1 ρ1 v x ∧ Post S ρ1 H1 (k v M1) okP (Wx σ) :=
  ⟨ρ, M, env, A, e, h.bind.imp (fun v M1 ρ1 H1 eq x A1 P x' r => ⟨v, M1, ρ1, eq, A1, e.ext x, x, r, P⟩) fun _ _ _ _ _ _ P => P⟩
theorem s_tup {es : List Expr} {cs : CL} {k pos} (h : PA X es (tA S Wx fun env => evL prog o env cs)) (hl : cs.len ≤ sizeLine) : PE X (.Tuple es k pos) (tE S Wx fun env => evE prog o env (.tup cs)) :=
  PE.imp (pe_tup h) fun σ H Q ⟨ρ, M, env, A, E, P⟩ => by
    refine tA_mono (tA_seqE (d := fun env => evL prog o env cs) A E P) fun xs H1 ⟨vs, M1, ρ1, eq, A1, E1, x1, r1, P1⟩ => ⟨by rw [← r1.len, evL_len eq]; exact hl, fun p hp => ?_⟩
    exact P1 ρ1 _ (ext_new hp) (abs_new A1 hp) _ (rep_tup A1 hp r1)
theorem s_lst {es : List Expr} {cs : CL} {pos} (h : PA X es (tA S Wx fun env => evL prog o env cs)) (hl : cs.len ≤ sizeLine) : PE X (.List es pos) (tE S Wx fun env => evE prog o env (.lst cs)) :=
  PE.imp (pe_lst h) fun σ H Q ⟨ρ, M, env, A, E, P⟩ => by
    refine tA_mono (tA_seqE (d := fun env => evL prog o env cs) A E P) fun xs H1 ⟨vs, M1, ρ1, eq, A1, E1, x1, r1, P1⟩ => ⟨by rw [← r1.len, evL_len eq]; exact hl, fun p hp => ?_⟩
    exact P1 ρ1 _ (ext_new hp) (abs_new A1 hp) _ (rep_lst A1 hp r1)
theorem repH_lst {xs : List PV} {vs : List V} {p : Addr} (h : H p = none) (r : RepL S H ρ xs vs) : RepH S (upd H p (.lst vs)) (ρ ++ [p]) (.lst xs) (.lst vs) := ⟨vs, rfl, RepL.ext (ext_loc h) xs r⟩
theorem repH_dic {xs : List (PV × PV)} {vs : List (Key × V)} {p : Addr} (h : H p = none) (r : RepD S H ρ xs vs) : RepH S (upd H p (.dK vs)) (ρ ++ [p]) (.dic xs) (.dK vs) := ⟨vs, rfl, RepD.ext (ext_loc h) xs r⟩
theorem s_mklst {es : List Expr} {cs : CL} {pos} (h : PA X es (tA S Wx fun env => evL prog o env cs)) (hl : cs.len ≤ sizeLine) : PE X (.List es pos) (tE S Wx fun env => evE prog o env (.mk (.lst cs))) :=
  PE.imp (pe_lst h) fun σ H Q ⟨ρ, M, env, A, E, P⟩ => by
    have e : evE prog o env (.mk (.lst cs)) M = (evL prog o env cs M).bind fun xs M => newO (.lst xs) M := by
      show ((evL prog o env cs M).bind fun xs M => Rs.ok (PV.lst xs) M).bind mkR = _
      cases evL prog o env cs M <;> rfl
    have P : Post S ρ H (evE prog o env (.mk (.lst cs)) M) _ _ := P
    rw [e] at P
    refine tA_mono (tA_seqE (d := fun env => evL prog o env cs) A E P) fun xs H1 ⟨vs, M1, ρ1, eq, A1, E1, x1, r1, P1⟩ => ⟨by rw [← r1.len, evL_len eq]; exact hl, fun p hp => ?_⟩
    exact P1 _ _ (ext_loc hp) (abs_loc A1 hp (repH_lst hp r1)) _ (rep_loc A1)
theorem s_mkdic0 {pos} : PE X (.Dict [] [] pos) (tE S Wx fun env => evE prog o env (.mk (.dic .nil .nil))) :=
  PE.imp pe_dnewK fun σ H Q ⟨ρ, M, env, A, E, P⟩ => by
    have P : Post S ρ H (newO (PO.dic []) M) _ _ := P
    exact fun p hp => P _ _ (ext_loc hp) (abs_loc A hp (repH_dic hp (show RepD S H ρ [] [] from rfl))) _ (rep_loc A)
theorem s_dic0 {pos} : PE X (.Dict [] [] pos) (tE S Wx fun env => evE prog o env (.dic .nil .nil)) :=
  PE.imp pe_dnewK fun σ H Q ⟨ρ, M, env, A, E, P⟩ => by
    have P : Post S ρ H (.ok (PV.dic []) M) _ _ := P
    exact fun p hp => P _ _ (ext_new hp) (abs_new A hp) _ (rep_dic A hp (show RepD S H ρ [] [] from rfl))
mutual
def toD : PV → Option PyData
  | .non => some .none
  | .bl b => some (.bool b)
  | .int i => some (.int i)
  | .str s => some (.str (sv s))
  | .tup xs => (toDs xs).map .tuple
  | .lst xs => (toDs xs).map .list
  | _ => none
def toDs : List PV → Option (List PyData)
  | [] => some []
  | x :: xs => match toD x with
    | none => none
    | some d => (toDs xs).map (d :: ·)
end
theorem deref_any {M : Sto} {v : PV} : (∃ n, v = .loc n ∧ deref M v = v) ∨ (∃ xs, deref M v = .lst xs) ∨ (∃ kvs, deref M v = .dic kvs) ∨ deref M v = v := by
  unfold deref
  split
  · rename_i n
    split
    · exact .inr (.inl ⟨_, rfl⟩)
    · exact .inr (.inr (.inl ⟨_, rfl⟩))
    · exact .inr (.inr (.inl ⟨_, rfl⟩))
    · exact .inr (.inl ⟨_, rfl⟩)
    · exact .inl ⟨n, rfl, rfl⟩
  · exact .inr (.inr (.inr rfl))
theorem snap_dp (A : Abs S H ρ M) : ∀ (f : Nat) {v d : PV} {D : PyData} {x : V}, snap M f v = some d → toD d = some D → Rep S H ρ v x → Dp S.K H x D
  | 0, _, _, _, _, h, _, _ => by cases h
  | f + 1, v, d, D, x, h, hD, r => by
    have all : ∀ {xs ds : List PV} {Ds : List PyData} {vs : List V}, mapO (snap M f) xs = some ds → toDs ds = some Ds → RepL S H ρ xs vs → DpAll S.K H vs Ds := by
      intro xs
      induction xs with
      | nil =>
        intro ds Ds vs h hD r
        cases h
        cases hD
        subst r
        exact .nil
      | cons y ys ih =>
        intro ds Ds vs h hD r
        obtain ⟨w, ws, e, r1, r2⟩ := r
        subst e
        unfold mapO at h
        cases e1 : snap M f y with
        | none => rw [e1] at h; cases h
        | some z =>
          rw [e1] at h
          obtain ⟨zs, e2, rfl⟩ := Option.map_eq_some_iff.mp h
          have hD : (match toD z with
            | none => none
            | some d => (toDs zs).map (d :: ·)) = some Ds := hD
          cases e3 : toD z with
          | none => rw [e3] at hD; cases hD
          | some dz =>
            rw [e3] at hD
            obtain ⟨dzs, e4, rfl⟩ := Option.map_eq_some_iff.mp hD
            exact .cons (snap_dp A f e1 e3 r1) (ih e2 e4 r2)
    have h : (match deref M v with
      | .tup xs => (mapO (snap M f) xs).map .tup
      | .lst xs => (mapO (snap M f) xs).map .lst
      | .dic kvs => (mapO (fun kv => (snap M f kv.2).map fun y => (kv.1, y)) kvs).map .dic
      | .non => some .non
      | .bl b => some (.bl b)
      | .int i => some (.int i)
      | .str s => some (.str s)
      | .fn i => some (.fn i)
      | .cls i => some (.cls i)
      | _ => none) = some d := h
    generalize e : deref M v = w at h
    cases w with
    | non => cases h; cases hD; rw [d_non r e]; exact .non
    | bl b => cases h; cases hD; rw [d_bl r e]; exact .bl b
    | int i => cases h; cases hD; rw [d_int r e]; exact .int i
    | str s => cases h; cases hD; rw [d_str r e]; exact .str _
    | tup xs =>
      obtain ⟨ds, e1, rfl⟩ := Option.map_eq_some_iff.mp h
      obtain ⟨Ds, e2, rfl⟩ := Option.map_eq_some_iff.mp (show (toDs ds).map PyData.tuple = some D from hD)
      obtain ⟨a, vs, rfl, t, q⟩ := d_tup r e
      exact .tup t (all e1 e2 q)
    | lst xs =>
      obtain ⟨ds, e1, rfl⟩ := Option.map_eq_some_iff.mp h
      obtain ⟨Ds, e2, rfl⟩ := Option.map_eq_some_iff.mp (show (toDs ds).map PyData.list = some D from hD)
      obtain ⟨a, vs, rfl, t, q⟩ := d_lst A r e
      exact .lst t (all e1 e2 q)
    | dic kvs =>
      obtain ⟨ds, e1, rfl⟩ := Option.map_eq_some_iff.mp h
      cases hD
    | fn i => cases h; cases hD
    | cls i => cases h; cases hD
    | loc n => cases h
    | clo _ _ => cases h
    | exo _ _ => cases h
mutual
theorem okD_toD : ∀ {d : Nat} {v : PV}, okD d v = true → ∃ D, toD v = some D ∧ D.canLay0 = true ∧ D.depth ≤ d
  | _, .non, _ => ⟨_, rfl, by simp [PyData.canLay0], by simp [PyData.depth]⟩
  | _, .bl _, _ => ⟨_, rfl, by simp [PyData.canLay0], by simp [PyData.depth]⟩
  | _, .int _, _ => ⟨_, rfl, by simp [PyData.canLay0], by simp [PyData.depth]⟩
  | _, .str s, h => ⟨_, rfl, by
      have h : (s.all fun c => Nat.blt c 128) = true := by
        unfold okD at h; exact h
      simp only [PyData.canLay0, PyData.strOk, sv]
      rw [List.all_eq_true] at h
      simp only [List.all_toArray, List.all_eq_true, decide_eq_true_eq]
      intro c hc
      have := Nat.le_of_ble_eq_true (h c hc)
      omega, by simp [PyData.depth]⟩
  | 0, .tup _, h => by cases h
  | 0, .lst _, h => by cases h
  | d + 1, .tup xs, h => by
    obtain ⟨Ds, e, c, k⟩ := okL_toDs (d := d) (xs := xs) h
    exact ⟨.tuple Ds, by show (toDs xs).map _ = _; rw [e]; rfl, by simpa [PyData.canLay0] using c, by simp only [PyData.depth]; omega⟩
  | d + 1, .lst xs, h => by
    obtain ⟨Ds, e, c, k⟩ := okL_toDs (d := d) (xs := xs) h
    exact ⟨.list Ds, by show (toDs xs).map _ = _; rw [e]; rfl, by simpa [PyData.canLay0] using c, by simp only [PyData.depth]; omega⟩
  | d, .dic _, h => by cases d <;> (unfold okD at h; cases h)
  | d, .loc _, h => by cases d <;> (unfold okD at h; cases h)
  | d, .fn _, h => by cases d <;> (unfold okD at h; cases h)
  | d, .cls _, h => by cases d <;> (unfold okD at h; cases h)
  | d, .clo _ _, h => by cases d <;> (unfold okD at h; cases h)
  | d, .exo _ _, h => by cases d <;> (unfold okD at h; cases h)
theorem okL_toDs : ∀ {d : Nat} {xs : List PV}, okL d xs = true → ∃ Ds, toDs xs = some Ds ∧ PyData.canLayAll0 Ds = true ∧ PyData.depthAll Ds ≤ d
  | _, [], _ => ⟨[], rfl, by simp [PyData.canLayAll0], by simp [PyData.depthAll]⟩
  | d, x :: xs, h => by
    have h : (match okD d x with
      | true => okL d xs
      | false => false) = true := h
    split at h
    · rename_i e
      obtain ⟨D, e1, c1, k1⟩ := okD_toD e
      obtain ⟨Ds, e2, c2, k2⟩ := okL_toDs h
      exact ⟨D :: Ds, by show (match toD x with | none => none | some d => (toDs xs).map (d :: ·)) = _; rw [e1, e2]; rfl, by simp [PyData.canLayAll0, c1, c2], by simp only [PyData.depthAll]; omega⟩
    · cases h
end
end
end Pf
end
section
set_option Elab.async false
set_option linter.all false
set_option maxRecDepth 100000
set_option maxHeartbeats 4000000
namespace Pf
open PySem PySem.Spec PyProof.Rows L2
theorem seq_sv {a b : List Nat} : seq a b = (sv a == sv b) := by
  rw [Bool.eq_iff_iff, seq_iff, beq_iff_eq]
  exact ⟨fun e => by rw [e], sv_inj⟩
mutual
theorem eqV_eqv : ∀ {a b : PV} {D E : PyData}, toD a = some D → toD b = some E → eqV a b = PyData.eqv D E
  | .tup xs, .tup ys, D, E, h, k => by
    obtain ⟨Ds, e1, rfl⟩ := Option.map_eq_some_iff.mp (show (toDs xs).map PyData.tuple = some D from h)
    obtain ⟨Es, e2, rfl⟩ := Option.map_eq_some_iff.mp (show (toDs ys).map PyData.tuple = some E from k)
    show eqL xs ys = PyData.eqvAll Ds Es
    exact eqL_eqv e1 e2
  | .lst xs, .lst ys, D, E, h, k => by
    obtain ⟨Ds, e1, rfl⟩ := Option.map_eq_some_iff.mp (show (toDs xs).map PyData.list = some D from h)
    obtain ⟨Es, e2, rfl⟩ := Option.map_eq_some_iff.mp (show (toDs ys).map PyData.list = some E from k)
    show eqL xs ys = PyData.eqvAll Ds Es
    exact eqL_eqv e1 e2
  | .tup xs, .lst ys, D, E, h, k => by
    obtain ⟨Ds, e1, rfl⟩ := Option.map_eq_some_iff.mp (show (toDs xs).map PyData.tuple = some D from h)
    obtain ⟨Es, e2, rfl⟩ := Option.map_eq_some_iff.mp (show (toDs ys).map PyData.list = some E from k)
    rfl
  | .lst xs, .tup ys, D, E, h, k => by
    obtain ⟨Ds, e1, rfl⟩ := Option.map_eq_some_iff.mp (show (toDs xs).map PyData.list = some D from h)
    obtain ⟨Es, e2, rfl⟩ := Option.map_eq_some_iff.mp (show (toDs ys).map PyData.tuple = some E from k)
    rfl
  | .tup xs, .non, D, E, h, k | .tup xs, .bl _, D, E, h, k | .tup xs, .int _, D, E, h, k | .tup xs, .str _, D, E, h, k => by
    obtain ⟨Ds, e1, rfl⟩ := Option.map_eq_some_iff.mp (show (toDs xs).map PyData.tuple = some D from h)
    cases k; rfl
  | .lst xs, .non, D, E, h, k | .lst xs, .bl _, D, E, h, k | .lst xs, .int _, D, E, h, k | .lst xs, .str _, D, E, h, k => by
    obtain ⟨Ds, e1, rfl⟩ := Option.map_eq_some_iff.mp (show (toDs xs).map PyData.list = some D from h)
    cases k; rfl
  | .non, .tup xs, D, E, h, k | .bl _, .tup xs, D, E, h, k | .int _, .tup xs, D, E, h, k | .str _, .tup xs, D, E, h, k => by
    obtain ⟨Ds, e1, rfl⟩ := Option.map_eq_some_iff.mp (show (toDs xs).map PyData.tuple = some E from k)
    cases h; rfl
  | .non, .lst xs, D, E, h, k | .bl _, .lst xs, D, E, h, k | .int _, .lst xs, D, E, h, k | .str _, .lst xs, D, E, h, k => by
    obtain ⟨Ds, e1, rfl⟩ := Option.map_eq_some_iff.mp (show (toDs xs).map PyData.list = some E from k)
    cases h; rfl
  | .non, .non, D, E, h, k => by cases h; cases k; rfl
  | .non, .bl _, D, E, h, k => by cases h; cases k; rfl
  | .non, .int _, D, E, h, k => by cases h; cases k; rfl
  | .non, .str _, D, E, h, k => by cases h; cases k; rfl
  | .bl _, .non, D, E, h, k => by cases h; cases k; rfl
  | .bl _, .bl _, D, E, h, k => by cases h; cases k; rfl
  | .bl a, .int j, D, E, h, k => by
    cases h; cases k
    show decide ((if a then (1 : Int) else 0) = j) = ((if a then (1 : Int) else 0) == j)
    rw [Bool.beq_eq_decide_eq]
  | .bl _, .str _, D, E, h, k => by cases h; cases k; rfl
  | .int _, .non, D, E, h, k => by cases h; cases k; rfl
  | .int i, .bl b, D, E, h, k => by
    cases h; cases k
    show decide (i = (if b then (1 : Int) else 0)) = (i == (if b then (1 : Int) else 0))
    rw [Bool.beq_eq_decide_eq]
  | .int i, .int j, D, E, h, k => by
    cases h; cases k
    show decide (i = j) = (i == j)
    rw [Bool.beq_eq_decide_eq]
  | .int _, .str _, D, E, h, k => by cases h; cases k; rfl
  | .str _, .non, D, E, h, k => by cases h; cases k; rfl
  | .str _, .bl _, D, E, h, k => by cases h; cases k; rfl
  | .str _, .int _, D, E, h, k => by cases h; cases k; rfl
  | .str a, .str b, D, E, h, k => by cases h; cases k; exact seq_sv
  | .dic _, _, _, _, h, _ | .loc _, _, _, _, h, _ | .fn _, _, _, _, h, _ | .cls _, _, _, _, h, _ | .clo _ _, _, _, _, h, _ | .exo _ _, _, _, _, h, _ => by cases h
  | _, .dic _, _, _, _, h | _, .loc _, _, _, _, h | _, .fn _, _, _, _, h | _, .cls _, _, _, _, h | _, .clo _ _, _, _, _, h | _, .exo _ _, _, _, _, h => by cases h
theorem eqL_eqv : ∀ {xs ys : List PV} {Ds Es : List PyData}, toDs xs = some Ds → toDs ys = some Es → eqL xs ys = PyData.eqvAll Ds Es
  | [], [], Ds, Es, h, k => by cases h; cases k; rfl
  | [], y :: ys, Ds, Es, h, k => by
    cases h
    have k : (match toD y with
      | none => none
      | some d => (toDs ys).map (d :: ·)) = some Es := k
    split at k
    · cases k
    · obtain ⟨_, _, rfl⟩ := Option.map_eq_some_iff.mp k
      rfl
  | x :: xs, [], Ds, Es, k, h => by
    cases h
    have k : (match toD x with
      | none => none
      | some d => (toDs xs).map (d :: ·)) = some Ds := k
    split at k
    · cases k
    · obtain ⟨_, _, rfl⟩ := Option.map_eq_some_iff.mp k
      rfl
  | x :: xs, y :: ys, Ds, Es, h, k => by
    have h : (match toD x with
      | none => none
      | some d => (toDs xs).map (d :: ·)) = some Ds := h
    have k : (match toD y with
      | none => none
      | some d => (toDs ys).map (d :: ·)) = some Es := k
    split at h
    · cases h
    · rename_i d e1
      split at k
      · cases k
      · rename_i e e2
        obtain ⟨Ds', f1, rfl⟩ := Option.map_eq_some_iff.mp h
        obtain ⟨Es', f2, rfl⟩ := Option.map_eq_some_iff.mp k
        have t1 := eqV_eqv e1 e2
        have t2 := eqL_eqv f1 f2
        show (match eqV x y with
          | true => eqL xs ys
          | false => false) = (PyData.eqv d e && PyData.eqvAll Ds' Es')
        rw [t1, t2]
        cases PyData.eqv d e <;> rfl
end
section
variable {S : Sta} {Wx : WP} {X : Cx} {α : Type} {prog : Prog} {o : Orc} {H : Hp} {ρ : List Addr} {M : Sto} {v : PV} {x : V}
theorem snap_sc (A : Abs S H ρ M) {f : Nat} {v d : PV} {x : V} (h : snap M f v = some d) (r : Rep S H ρ v x) : (match d with
    | .non => x = .non
    | .bl b => x = .bl b
    | .int i => x = .int i
    | .str s => x = .str (sv s)
    | _ => True) := by
  cases d with
  | non => have := snap_dp A f h rfl r; cases this; rfl
  | bl b => have := snap_dp A f h rfl r; cases this; rfl
  | int i => have := snap_dp A f h rfl r; cases this; rfl
  | str s => have := snap_dp A f h rfl r; cases this; rfl
  | _ => trivial
theorem shaped_of {d : Nat} {v : PV} {D : PyData} (h : okD d v = true) (hd : d ≤ 64) (e : toD v = some D) : SeqAt.shaped D = true := by
  obtain ⟨D', e', c, k⟩ := okD_toD h
  rw [e] at e'
  cases e'
  unfold SeqAt.shaped
  rw [c, Bool.true_and, decide_eq_true_eq]
  omega
def fEq (M : Sto) (a b : PV) : Option PV := (snap M 62 a).bind fun a => (snap M 62 b).bind fun b => (eqD a b).map .bl
def fNe (M : Sto) (a b : PV) : Option PV := (snap M 62 a).bind fun a => (snap M 62 b).bind fun b => (eqD a b).map fun c => .bl (!c)
theorem eq_cases (A : Abs S H ρ M) {a b : PV} {x y : V} {c : Bool} (ra : Rep S H ρ a x) (rb : Rep S H ρ b y) {a' b' : PV} (ea : snap M 62 a = some a') (eb : snap M 62 b = some b') (e : eqD a' b' = some c) :
    (scal x y = true ∧ decide (x = y) = c) ∨ ∃ d e, Dp S.K H x d ∧ Dp S.K H y e ∧ SeqAt.shaped d = true ∧ SeqAt.shaped e = true ∧ PyData.eqv d e = c := by
  unfold eqD at e
  split at e
  · rename_i hb
    cases e
    cases hs : scalV a' b' with
    | true =>
      refine .inl ?_
      have h1 := snap_sc A ea ra
      have h2 := snap_sc A eb rb
      cases a' <;> cases b' <;> first
        | (cases hs; done)
        | (simp only at h1 h2
           subst h1
           subst h2
           refine ⟨rfl, ?_⟩
           first
             | rfl
             | (simp [eqV, seq_sv, Bool.beq_eq_decide_eq]; done))
    | false =>
      rw [hs, Bool.false_or, Bool.and_eq_true] at hb
      obtain ⟨D, e1, _, _⟩ := okD_toD hb.1
      obtain ⟨E, e2, _, _⟩ := okD_toD hb.2
      exact .inr ⟨D, E, snap_dp A 62 ea e1 ra, snap_dp A 62 eb e2 rb, shaped_of hb.1 (by decide) e1, shaped_of hb.2 (by decide) e2, (eqV_eqv e1 e2).symm⟩
  · cases e
theorem opR_eq (hK : X.K = S.K) (hu : X.A.units + 64 < cLine) : OpR X (compareOp .Eq) (r2 S fEq) := by
  refine OpR.imp (OpR.or op_eq (op_eqD hu)) fun x y H Q ⟨ρ, M, a, b, z, A, ra, rb, e, q⟩ => ?_
  obtain ⟨a', ea, e⟩ := Option.bind_eq_some_iff.mp e
  obtain ⟨b', eb, e⟩ := Option.bind_eq_some_iff.mp e
  obtain ⟨c, e2, rfl⟩ := Option.map_eq_some_iff.mp e
  have q : Q (.bl c) H := q ρ H _ Ext.refl A rfl
  rcases eq_cases A ra rb ea eb e2 with ⟨h1, h2⟩ | ⟨d, f, h1, h2, h3, h4, h5⟩
  · exact .inl ⟨h1, by rw [h2]; exact q⟩
  · exact .inr ⟨d, f, by rw [hK]; exact h1, by rw [hK]; exact h2, h3, h4, by rw [h5]; exact q⟩
theorem opR_ne (hK : X.K = S.K) (hu : X.A.units + 64 < cLine) : OpR X (compareOp .NotEq) (r2 S fNe) := by
  refine OpR.imp (OpR.or op_ne (op_neD hu)) fun x y H Q ⟨ρ, M, a, b, z, A, ra, rb, e, q⟩ => ?_
  obtain ⟨a', ea, e⟩ := Option.bind_eq_some_iff.mp e
  obtain ⟨b', eb, e⟩ := Option.bind_eq_some_iff.mp e
  obtain ⟨c, e2, rfl⟩ := Option.map_eq_some_iff.mp e
  have q : Q (.bl (!c)) H := q ρ H _ Ext.refl A rfl
  rcases eq_cases A ra rb ea eb e2 with ⟨h1, h2⟩ | ⟨d, f, h1, h2, h3, h4, h5⟩
  · exact .inl ⟨h1, by rw [h2]; exact q⟩
  · exact .inr ⟨d, f, by rw [hK]; exact h1, by rw [hK]; exact h2, h3, h4, by rw [h5]; exact q⟩
end
end Pf
end
section
set_option Elab.async false
set_option linter.all false
set_option maxRecDepth 100000
set_option maxHeartbeats 4000000
namespace Pf
open PySem PySem.Spec PyProof.Rows L2
section
variable {S : Sta} {Wx : WP} {X : Cx} {α : Type} {prog : Prog} {o : Orc} {H : Hp} {ρ : List Addr} {M : Sto} {v : PV} {x : V}
theorem slt_sv : ∀ {a b : List Nat}, slt a b = decide (a < b)
  | [], [] => by simp [slt]
  | [], _ :: _ => by simp [slt]
  | _ :: _, [] => by simp [slt]
  | a :: r, b :: s => by
    unfold slt
    cases e : Nat.blt a b with
    | true =>
      have h : a < b := Nat.le_of_ble_eq_true e
      simp only
      symm
      rw [decide_eq_true_eq, List.cons_lt_cons_iff]
      exact .inl h
    | false =>
      have h : ¬ a < b := fun q => by rw [show Nat.blt a b = true from Nat.ble_eq_true_of_le q] at e; cases e
      cases e2 : Nat.beq a b with
      | true =>
        have := Nat.eq_of_beq_eq_true e2
        subst this
        simp only
        rw [slt_sv]
        congr 1
        rw [List.cons_lt_cons_iff]
        simp
      | false =>
        have hne : a ≠ b := fun q => by subst q; rw [Nat.beq_refl] at e2; cases e2
        simp only
        symm
        rw [decide_eq_false_iff_not, List.cons_lt_cons_iff]
        simp [h, hne]
theorem ints_of : ∀ {xs : List PV} {ns : List Int} {vs : List V}, intsOf xs = some ns → RepL S H ρ xs vs → vs = ns.map V.int
  | [], _, _, h, r => by cases h; subst r; rfl
  | .int i :: xs, ns, vs, h, r => by
    obtain ⟨ms, e, rfl⟩ := Option.map_eq_some_iff.mp (show (intsOf xs).map (i :: ·) = some ns from h)
    obtain ⟨v, ws, rfl, r1, r2⟩ := r
    rw [ints_of e r2, show v = V.int i from r1]
    rfl
  | .non :: _, _, _, h, _ | .bl _ :: _, _, _, h, _ | .str _ :: _, _, _, h, _ | .tup _ :: _, _, _, h, _ | .lst _ :: _, _, _, h, _ | .dic _ :: _, _, _, h, _ | .loc _ :: _, _, _, h, _ | .fn _ :: _, _, _, h, _ | .cls _ :: _, _, _, h, _ | .clo _ _ :: _, _, _, h, _ | .exo _ _ :: _, _, _, h, _ => by cases h
theorem lexA_eq {e r : Nat → Bool} {z : Bool} : ∀ {k i : Nat}, lexA e r z i k = Ob.lexAt e r z i k
  | 0, i => by rw [Ob.lexAt_zero]; rfl
  | k + 1, i => by
    rw [Ob.lexAt_succ, ← lexA_eq]
    rfl
theorem d_tupR {xs : List PV} (r : Rep S H ρ v x) (e : deref M v = .tup xs) : ∃ a vs, x = .ref a ∧ SqT S.K H a vs ∧ RepL S H ρ xs vs := d_tup r e
def blO (o : Option Bool) : Option PV := o.map .bl
theorem opR_lt : OpR X (compareOp .Lt) (r2 S fun M a b => (ltC (deref M a) (deref M b)).map .bl) := by
  refine OpR.imp (OpR.or op_lt op_lt_str) fun x y H Q ⟨ρ, M, a, b, z, A, ra, rb, e, q⟩ => ?_
  obtain ⟨c, e', rfl⟩ := Option.map_eq_some_iff.mp e
  clear e
  have e := e'
  clear e'
  generalize ea : deref M a = a' at e
  generalize eb : deref M b = b' at e
  have q : Q (.bl c) H := q ρ H _ Ext.refl A rfl
  cases a' <;> cases b' <;> first
    | (cases e; done)
    | skip
  · rename_i i j
    cases e
    exact .inl ⟨i, j, d_int ra ea, d_int rb eb, q⟩
  · rename_i i j
    cases e
    refine .inr ⟨sv i, sv j, d_str ra ea, d_str rb eb, ?_⟩
    rw [slt_sv] at q
    refine Eq.mp ?_ q
    congr 2
theorem opR_le (hK : X.K = S.K) (hu : X.A.units < cLine) : OpR X (compareOp .LtE) (r2 S fun M a b => (leC (deref M a) (deref M b)).map .bl) := by
  refine OpR.imp (OpR.or op_le (op_leT hu)) fun x y H Q ⟨ρ, M, a, b, z, A, ra, rb, e, q⟩ => ?_
  obtain ⟨c, e', rfl⟩ := Option.map_eq_some_iff.mp e
  clear e
  have e := e'
  clear e'
  generalize ea : deref M a = a' at e
  generalize eb : deref M b = b' at e
  have q : Q (.bl c) H := q ρ H _ Ext.refl A rfl
  cases a' <;> cases b' <;> first
    | (cases e; done)
    | skip
  · rename_i i j
    cases e
    exact .inl ⟨i, j, d_int ra ea, d_int rb eb, q⟩
  · rename_i xs ys
    obtain ⟨ns, e1, e⟩ := Option.bind_eq_some_iff.mp (show (intsOf xs).bind (fun ns => (intsOf ys).map fun ms => leI ns ms) = some c from e)
    obtain ⟨ms, e2, rfl⟩ := Option.map_eq_some_iff.mp e
    obtain ⟨p, vs, rfl, t1, r1⟩ := d_tup ra ea
    obtain ⟨p2, ws, rfl, t2, r2⟩ := d_tup rb eb
    rw [ints_of e1 r1] at t1
    rw [ints_of e2 r2] at t2
    refine .inr ⟨p, p2, ns, ms, rfl, rfl, by rw [hK]; exact t1, by rw [hK]; exact t2, ?_⟩
    rw [← lexA_eq]
    exact q
theorem opR_gt : OpR X (compareOp .Gt) (r2 S fun M a b => (gtC (deref M a) (deref M b)).map .bl) := by
  refine OpR.imp op_gt fun x y H Q ⟨ρ, M, a, b, z, A, ra, rb, e, q⟩ => ?_
  obtain ⟨c, e', rfl⟩ := Option.map_eq_some_iff.mp e
  clear e
  have e := e'
  clear e'
  generalize ea : deref M a = a' at e
  generalize eb : deref M b = b' at e
  have q : Q (.bl c) H := q ρ H _ Ext.refl A rfl
  cases a' <;> cases b' <;> first
    | (cases e; done)
    | skip
  rename_i i j
  cases e
  exact ⟨i, j, d_int ra ea, d_int rb eb, q⟩
theorem opR_ge : OpR X (compareOp .GtE) (r2 S fun M a b => (geC (deref M a) (deref M b)).map .bl) := by
  refine OpR.imp op_ge fun x y H Q ⟨ρ, M, a, b, z, A, ra, rb, e, q⟩ => ?_
  obtain ⟨c, e', rfl⟩ := Option.map_eq_some_iff.mp e
  clear e
  have e := e'
  clear e'
  generalize ea : deref M a = a' at e
  generalize eb : deref M b = b' at e
  have q : Q (.bl c) H := q ρ H _ Ext.refl A rfl
  cases a' <;> cases b' <;> first
    | (cases e; done)
    | skip
  rename_i i j
  cases e
  exact ⟨i, j, d_int ra ea, d_int rb eb, q⟩
theorem rep_non {x : V} : ∀ {a : PV}, Rep S H ρ a x → (x = .non ↔ a = .non)
  | .non, r => by rw [show x = .non from r]; simp
  | .bl _, r => by rw [show x = .bl _ from r]; simp
  | .int _, r => by rw [show x = .int _ from r]; simp
  | .str _, r => by rw [show x = .str _ from r]; simp
  | .tup _, r => by obtain ⟨_, _, e, _⟩ := r; rw [e]; simp
  | .lst _, r => by obtain ⟨_, _, e, _⟩ := r; rw [e]; simp
  | .dic _, r => by obtain ⟨_, _, e, _⟩ := r; rw [e]; simp
  | .loc _, r => by obtain ⟨_, e, _⟩ := r; rw [e]; simp
  | .fn _, r => by rw [show x = .ref _ from r]; simp
  | .cls _, r => by rw [show x = .ref _ from r]; simp
def isNon : PV → Bool
  | .non => true
  | _ => false
theorem isNon_rep {a : PV} {x : V} (r : Rep S H ρ a x) : decide (x = .non) = isNon a := by
  rw [Bool.eq_iff_iff, decide_eq_true_eq, rep_non r]
  cases a <;> simp [isNon]
theorem memV_any : ∀ {ys : List PV} {a : PV} {Ds : List PyData} {D : PyData}, toDs ys = some Ds → toD a = some D → memV a ys = Ds.any fun z => PyData.eqv z D
  | [], _, _, _, h, _ => by cases h; rfl
  | y :: ys, a, Ds, D, h, k => by
    have h : (match toD y with
      | none => none
      | some d => (toDs ys).map (d :: ·)) = some Ds := h
    split at h
    · cases h
    · rename_i d e
      obtain ⟨Es, f1, rfl⟩ := Option.map_eq_some_iff.mp h
      show (match eqV y a with
        | true => true
        | false => memV a ys) = _
      rw [eqV_eqv e k, memV_any f1 k, List.any_cons]
      cases PyData.eqv d D <;> rfl
def rInDT (K : PySem.W.Frag) (neg : Bool) : R2 := fun x y H Q => ∃ d ds, Dp K H x d ∧ Dp K H y (.tuple ds) ∧ SeqAt.shaped d = true ∧ SeqAt.shaped (.tuple ds) = true ∧ Q (.bl (if neg then !ds.any (fun z => PyData.eqv z d) else ds.any fun z => PyData.eqv z d)) H
theorem op_inDT (hu : X.A.units + 65 < cLine) : OpR X (compareOp .In) (rInDT X.K false) := by
  intro pins s σ H x y v u Q I rx ry h
  obtain ⟨d, ds, hd, he, sd, se, q⟩ := h
  obtain ⟨as, r1⟩ := Dp.reads I d x v hd rx
  obtain ⟨bs, r2⟩ := Dp.reads I (.tuple ds) y u he ry
  exact SeqAt.in_tuple_reads r2 r1 (SeqAt.canLay_of_shaped se) (SeqAt.canLay_of_shaped sd) (PyProof.Rows.room_in_shaped sd hu) ⟨.bl _, H, I, rfl, q⟩
theorem op_notInDT (hu : X.A.units + 65 < cLine) : OpR X (compareOp .NotIn) (rInDT X.K true) := by
  intro pins s σ H x y v u Q I rx ry h
  obtain ⟨d, ds, hd, he, sd, se, q⟩ := h
  obtain ⟨as, r1⟩ := Dp.reads I d x v hd rx
  obtain ⟨bs, r2⟩ := Dp.reads I (.tuple ds) y u he ry
  exact SeqAt.notIn_tuple_reads r2 r1 (SeqAt.canLay_of_shaped se) (SeqAt.canLay_of_shaped sd) (PyProof.Rows.room_in_shaped sd hu) ⟨.bl _, H, I, rfl, q⟩
def rInK (neg : Bool) : R2 := fun x y H Q => ∃ a o, y = .ref a ∧ DGet H a x o ∧ Q (.bl (if neg then !o.isSome else o.isSome)) H
theorem op_inK (hu : X.A.units + 1 < cLine) : OpR X (compareOp .In) (rInK false) := by
  intro pins s σ H x y v u Q I rx ry h
  obtain ⟨a, ov, rfl, g, q⟩ := h
  cases ry
  exact d_in hu I g rx fun s3 I3 => ⟨.bl ov.isSome, H, I3, rfl, q⟩
theorem op_notInK (hu : X.A.units + 1 < cLine) : OpR X (compareOp .NotIn) (rInK true) := by
  intro pins s σ H x y v u Q I rx ry h
  obtain ⟨a, ov, rfl, g, q⟩ := h
  cases ry
  exact d_notIn hu I g rx fun s3 I3 => ⟨.bl (!ov.isSome), H, I3, rfl, q⟩
theorem keyP_of {k : PV} (h : keyOk k = true) : ∃ q, keyP k = some q := by
  cases k <;> first
    | (cases h; done)
    | exact ⟨_, rfl⟩
theorem keyP_rep {k : PV} {q : Key} {x : V} (h : keyP k = some q) (r : Rep S H ρ k x) : x = kV q := by
  cases k <;> first
    | (cases h; done)
    | (cases h; exact r)
theorem keyP_eq {a b : PV} {p q : Key} (h : keyP a = some p) (k : keyP b = some q) : eqV a b = decide (p = q) := by
  cases a <;> first
    | (cases h; done)
    | skip
  all_goals
    cases b <;> first
      | (cases k; done)
      | skip
  all_goals (cases h; cases k)
  · rename_i i j
    show decide (i = j) = _
    simp
  · rfl
  · rfl
  · rename_i a b
    show seq a b = _
    rw [seq_sv, Bool.beq_eq_decide_eq]
    simp
theorem dget_rep {k : PV} {q : Key} (hk : keyP k = some q) : ∀ {kvs : List (PV × PV)} {ks : List (Key × V)}, RepD S H ρ kvs ks →
    (match dget k kvs with
    | some z => ∃ v, valV ks q = some v ∧ Rep S H ρ z v
    | none => valV ks q = none)
  | [], _, r => by subst r; rfl
  | (a, b) :: r, _, ⟨p, v, ws, e, hp, rv, t⟩ => by
    subst e
    have ih := dget_rep hk t
    have e1 : dget k ((a, b) :: r) = (match eqV a k with
      | true => some b
      | false => dget k r) := rfl
    have e2 : valV ((p, v) :: ws) q = if decide (p = q) = true then some v else valV ws q := by
      unfold valV
      rw [List.find?_cons]
      by_cases z : p = q <;> simp [z]
    rw [e1, e2, keyP_eq hp hk]
    by_cases z : p = q
    · simp only [z, decide_true, if_true]
      exact ⟨v, rfl, rv⟩
    · simp only [z, decide_false, Bool.false_eq_true, if_false]
      exact ih
theorem snap_seq {f : Nat} {v : PV} {ys : List PV} (h : snap M (f + 1) v = some (.tup ys)) : ∃ xs, deref M v = .tup xs ∧ mapO (snap M f) xs = some ys := by
  unfold snap at h
  generalize e : deref M v = w at h
  cases w <;> first
    | (cases h; done)
    | (simp only [Option.map_eq_some_iff] at h; obtain ⟨_, _, q⟩ := h; cases q; done)
    | skip
  · rename_i xs
    obtain ⟨zs, e1, q⟩ := Option.map_eq_some_iff.mp h
    cases q
    exact ⟨xs, rfl, e1⟩
theorem in_cases (A : Abs S H ρ M) {a b : PV} {x y : V} {c : Bool} (ra : Rep S H ρ a x) (rb : Rep S H ρ b y) (e : inV M a b = some c) (neg : Bool) {Q : VK} (q : Q (.bl (if neg then !c else c)) H) :
    (∃ (d : Nat) (z : Str), x = .str ⟨#[d]⟩ ∧ y = .str z ∧ decide (d ∈ z.cps.toList) = c) ∨ rInK neg x y H Q ∨ rInDT S.K neg x y H Q ∨
    (∃ d ds, Dp S.K H x d ∧ Dp S.K H y (.list ds) ∧ SeqAt.shaped d = true ∧ SeqAt.shaped (.list ds) = true ∧ (ds.any fun z => PyData.eqv z d) = c) := by
  have data : ∀ {a' : PV} {ys : List PV}, snap M 62 a = some a' → inD a' ys = some c → ∃ D Ds, toD a' = some D ∧ toDs ys = some Ds ∧ SeqAt.shaped D = true ∧ PyData.canLayAll0 Ds = true ∧ PyData.depthAll Ds ≤ 60 ∧ (Ds.any fun z => PyData.eqv z D) = c := by
    intro a' ys h1 h2
    unfold inD at h2
    split at h2
    · rename_i hb
      cases h2
      rw [Bool.and_eq_true] at hb
      obtain ⟨D, e1, _, _⟩ := okD_toD hb.1
      obtain ⟨Ds, e2, c2, k2⟩ := okL_toDs hb.2
      exact ⟨D, Ds, e1, e2, shaped_of hb.1 (by decide) e1, c2, k2, (memV_any e2 e1).symm⟩
    · cases h2
  have gen : ((snap M 62 a).bind fun a => match snap M 62 b with
    | some (.tup ys) => inD a ys
    | some (.lst ys) => inD a ys
    | _ => none) = some c → (∃ (d : Nat) (z : Str), x = .str ⟨#[d]⟩ ∧ y = .str z ∧ decide (d ∈ z.cps.toList) = c) ∨ rInK neg x y H Q ∨ rInDT S.K neg x y H Q ∨
    (∃ d ds, Dp S.K H x d ∧ Dp S.K H y (.list ds) ∧ SeqAt.shaped d = true ∧ SeqAt.shaped (.list ds) = true ∧ (ds.any fun z => PyData.eqv z d) = c) := by
    intro h
    obtain ⟨a', h1, h⟩ := Option.bind_eq_some_iff.mp h
    split at h
    · rename_i ys h2
      obtain ⟨D, Ds, e1, e2, s1, c2, k2, ev⟩ := data h1 h
      refine .inr (.inr (.inl ⟨D, Ds, snap_dp A 62 h1 e1 ra, snap_dp A 62 h2 (show (toDs ys).map PyData.tuple = _ by rw [e2]; rfl) rb, s1, ?_, by rw [ev]; exact q⟩))
      unfold SeqAt.shaped
      simp only [PyData.canLay0, c2, Bool.true_and, PyData.depth]
      exact decide_eq_true (by omega)
    · rename_i ys h2
      obtain ⟨D, Ds, e1, e2, s1, c2, k2, ev⟩ := data h1 h
      refine .inr (.inr (.inr ⟨D, Ds, snap_dp A 62 h1 e1 ra, snap_dp A 62 h2 (show (toDs ys).map PyData.list = _ by rw [e2]; rfl) rb, s1, ?_, ev⟩))
      unfold SeqAt.shaped
      simp only [PyData.canLay0, c2, Bool.true_and, PyData.depth]
      exact decide_eq_true (by omega)
    · cases h
  unfold inV at e
  generalize eb : deref M b = b' at e
  cases b' with
  | str z =>
    simp only at e
    split at e
    · rename_i d
      cases e
      refine .inl ⟨d, sv z, ra, d_str rb eb, ?_⟩
      rw [Bool.eq_iff_iff]
      simp only [sv, List.any_eq_true, List.toList_toArray]
      exact ⟨fun h => ⟨d, of_decide_eq_true h, Nat.beq_refl d⟩, fun ⟨k, h1, h2⟩ => by rw [Nat.eq_of_beq_eq_true h2]; exact decide_eq_true h1⟩
    · cases e
  | dic kvs =>
    simp only at e
    split at e
    · rename_i hk
      cases e
      obtain ⟨k, hk⟩ := keyP_of hk
      obtain ⟨p, ks, rfl, rd, rr⟩ := d_dic A rb eb
      refine .inr (.inl ⟨p, valV ks k, rfl, .inl ⟨ks, k, rd, keyP_rep hk ra, rfl⟩, ?_⟩)
      have := dget_rep hk rr
      cases z : dget a kvs with
      | none =>
        rw [z] at this q
        rw [show valV ks k = none from this]
        exact q
      | some w =>
        rw [z] at this q
        obtain ⟨v, hv, _⟩ := this
        rw [hv]
        exact q
    · cases e
  | _ => exact gen e
theorem opR_in (hK : X.K = S.K) (hu : X.A.units + 65 < cLine) : OpR X (compareOp .In) (r2 S fun M a b => (inV M a b).map .bl) := by
  refine OpR.imp (OpR.or op_in_sign (OpR.or (op_inK (by omega)) (OpR.or (op_inDT hu) (op_inD hu)))) fun x y H Q ⟨ρ, M, a, b, z, A, ra, rb, e, q⟩ => ?_
  obtain ⟨c, e', rfl⟩ := Option.map_eq_some_iff.mp e
  clear e
  have e := e'
  clear e'
  have q : Q (.bl c) H := q ρ H _ Ext.refl A rfl
  rw [hK]
  rcases in_cases A ra rb e false q with ⟨d, z, h1, h2, h3⟩ | h | h | ⟨d, ds, h1, h2, h3, h4, h5⟩
  · exact .inl ⟨d, z, h1, h2, by rw [h3]; exact q⟩
  · exact .inr (.inl h)
  · exact .inr (.inr (.inl h))
  · exact .inr (.inr (.inr ⟨d, ds, h1, h2, h3, h4, by rw [h5]; exact q⟩))
theorem op_notin_sign : OpR X (compareOp .NotIn) (fun x y H Q => ∃ (c : Nat) (z : Str), x = .str ⟨#[c]⟩ ∧ y = .str z ∧ Q (.bl (!decide (c ∈ z.cps.toList))) H) := by
  intro pins s σ H x y v u Q I rx ry h
  obtain ⟨c, z, rfl, rfl, q⟩ := h
  obtain ⟨t, rfl⟩ := rx
  obtain ⟨t', rfl⟩ := ry
  have hf := StrLaws.found_one z c
  refine NotIn_slot (typeIs_str s z t') slot_str_contains (wpAny_call_entry slot_str_contains (typeIs_str s z t') entry_str_contains ?_ (args_str_contains _ _))
  refine wpAny_pure ⟨.bool _, rfl, wpAny_truthy_bool ?_⟩
  exact fin_bl I q (by rw [hf])
theorem opR_notin (hK : X.K = S.K) (hu : X.A.units + 65 < cLine) : OpR X (compareOp .NotIn) (r2 S fun M a b => (inV M a b).map fun b => .bl (!b)) := by
  refine OpR.imp (OpR.or op_notin_sign (OpR.or (op_notInK (by omega)) (OpR.or (op_notInDT hu) (op_notInD hu)))) fun x y H Q ⟨ρ, M, a, b, z, A, ra, rb, e, q⟩ => ?_
  obtain ⟨c, e', rfl⟩ := Option.map_eq_some_iff.mp e
  clear e
  have e := e'
  clear e'
  have q : Q (.bl (!c)) H := q ρ H _ Ext.refl A rfl
  rw [hK]
  rcases in_cases A ra rb e true q with ⟨d, z, h1, h2, h3⟩ | h | h | ⟨d, ds, h1, h2, h3, h4, h5⟩
  · exact .inl ⟨d, z, h1, h2, by rw [h3]; exact q⟩
  · exact .inr (.inl h)
  · exact .inr (.inr (.inl h))
  · exact .inr (.inr (.inr ⟨d, ds, h1, h2, h3, h4, by rw [h5]; exact q⟩))
end
end Pf
end
section
set_option Elab.async false
set_option linter.all false
set_option maxRecDepth 100000
set_option maxHeartbeats 4000000
namespace Pf
open PySem PySem.Spec PyProof.Rows L2
section
variable {S : Sta} {Wx : WP} {X : Cx} {α : Type} {prog : Prog} {o : Orc} {H : Hp} {ρ : List Addr} {M : Sto} {v : PV} {x : V}
theorem RepL.emp {xs : List PV} {vs : List V} (r : RepL S H ρ xs vs) : xs.isEmpty = vs.isEmpty := by
  cases xs with
  | nil => subst r; rfl
  | cons _ _ => obtain ⟨_, _, rfl, _⟩ := r; rfl
theorem RepD.emp {xs : List (PV × PV)} {vs : List (Key × V)} (r : RepD S H ρ xs vs) : xs.isEmpty = vs.isEmpty := by
  cases xs with
  | nil => subst r; rfl
  | cons _ _ => obtain ⟨_, _, _, rfl, _⟩ := r; rfl
theorem capB {n : Nat} (h : Nat.ble n cap = true) : n ≤ sizeLine := by
  rw [sizeLine_eq]; exact Nat.le_of_ble_eq_true h
theorem derefW_deref {M : Sto} {v w : PV} (h : derefW M v = w) (hw : ∀ n, w ≠ .loc n) : deref M v = w := by
  unfold derefW at h
  unfold deref
  split at h
  · rename_i n
    split at h
    · rename_i xs e; rw [e]; exact h
    · rename_i xs e; rw [e]; exact h
    · exact absurd h.symm (hw n)
  · exact h
theorem truV_of (A : Abs S H ρ M) (r : Rep S H ρ v x) {k : Bool} (h : truV (derefW M v) = some k) : TruV S.K x H k := by
  generalize e : derefW M v = w at h
  cases w with
  | non => cases h; rw [show x = .non from w_sc r e (fun _ z => by cases z) fun _ z => by cases z]; rfl
  | bl b => cases h; rw [show x = .bl _ from w_sc r e (fun _ z => by cases z) fun _ z => by cases z]; rfl
  | int i => cases h; rw [w_int r e]; rfl
  | str s =>
    rw [w_str r e]
    have h : (match Nat.ble s.length cap with
      | true => some (!s.isEmpty)
      | false => none) = some k := h
    split at h
    · rename_i hb
      cases h
      refine ⟨by rw [sv_len]; exact capB hb, ?_⟩
      rw [sv_len]
      cases s with
      | nil => rfl
      | cons a r => simp; omega
    · cases h
  | tup xs =>
    cases h
    obtain ⟨a, vs, rfl, t, q⟩ := w_tup r e
    exact .inr (.inl ⟨vs, t.sq, by rw [q.emp]⟩)
  | lst xs =>
    cases h
    obtain ⟨a, vs, rfl, t, q⟩ := w_lst A r e
    exact .inl ⟨vs, .inl (.inl t), by rw [q.emp]⟩
  | dic xs =>
    cases h
    obtain ⟨a, vs, rfl, t, q⟩ := w_dic A r e
    exact .inr (.inr ⟨vs, t, by rw [q.emp]⟩)
  | _ => cases h
def tst (d : Den PV) : Den Bool := fun env M => (d env M).bind tstR
theorem Post.ofO {α : Type} {w : String} {r : Option α} {M : Sto} {okP : α → Sto → List Addr → Hp → Prop} {exP : Exn → Sto → List Addr → Hp → Prop} (h : Post S ρ H (ofO w r M) okP exP) : ∃ z, r = some z ∧ ∀ ρ' H', Ext ρ H ρ' H' → Abs S H' ρ' M → okP z M ρ' H' := by
  cases r with
  | none => exact h.elim
  | some z => exact ⟨z, rfl, h⟩
theorem t_truth {a : PySem.Expr} {d : Den PV} (h : PE X a (tE S Wx d)) (hK : X.K = S.K) (he : ∀ whole : Sem Value, PySem.isTrue a X.env whole = (do let v ← whole; standAt a.pos; holding [v] (truthy v))) :
    PT X a (tT S Wx (tst d)) :=
  PT.imp (pt_truth h he) fun σ H Q ⟨ρ, M, env, A, E, P⟩ => by
    refine tE_mono (tE_seq (d := d) (k := tstR) A E P) fun x H1 ⟨v, M1, ρ1, A1, E1, x1, r1, P1⟩ => ?_
    obtain ⟨k, hk, P2⟩ := Post.ofO P1
    exact ⟨k, by rw [hK]; exact truV_of A1 r1 hk, P2 ρ1 H1 Ext.refl A1⟩
theorem t_not {a : PySem.Expr} {d : CE} {pos : Pos} (h : PT X a (tT S Wx (tst fun env => evE prog o env d))) : PT X (.UnaryOp .Not a pos) (tT S Wx (tst fun env => evE prog o env (.not d))) :=
  PT.imp (pt_not h) fun σ H Q ⟨ρ, M, env, A, E, P⟩ => by
    have e : tst (fun env => evE prog o env (.not d)) env M = (tst (fun env => evE prog o env d) env M).bind fun t M => .ok (!t) M := by
      show ((evE prog o env d M).bind fun x M => (tstR x M).bind fun t M => Rs.ok (PV.bl (!t)) M).bind tstR = ((evE prog o env d M).bind tstR).bind _
      cases evE prog o env d M with
      | ok v M1 =>
        show ((tstR v M1).bind fun t M => Rs.ok (PV.bl (!t)) M).bind tstR = (tstR v M1).bind _
        cases tstR v M1 <;> rfl
      | _ => rfl
    rw [e] at P
    refine tT_mono (tT_seq (d := tst fun env => evE prog o env d) A E P) fun b H1 ⟨M1, ρ1, A1, E1, x1, P1⟩ => ?_
    exact P1.now A1
theorem s_not {a : PySem.Expr} {d : CE} {pos : Pos} (hK : X.K = S.K) (h : PE X a (tE S Wx fun env => evE prog o env d)) : PE X (.UnaryOp .Not a pos) (tE S Wx fun env => evE prog o env (.not d)) :=
  PE.imp (pe_notT h) fun σ H Q ⟨ρ, M, env, A, E, P⟩ => by
    refine tE_mono (tE_seq (d := fun env => evE prog o env d) A E P) fun x H1 ⟨v, M1, ρ1, A1, E1, x1, r1, P1⟩ => ?_
    obtain ⟨k, hk, P2⟩ := Post.ofO P1.bind
    exact ⟨k, by rw [hK]; exact truV_of A1 r1 hk, (P2 ρ1 H1 Ext.refl A1).now A1 _ rfl⟩
theorem s_and {a b : PySem.Expr} {rest : List PySem.Expr} {c d : CE} {pos : Pos} (hK : X.K = S.K) (ha : PE X a (tE S Wx fun env => evE prog o env c)) (hb : PE X (.BoolOp .And (b :: rest) pos) (tE S Wx fun env => evE prog o env d)) :
    PE X (.BoolOp .And (a :: b :: rest) pos) (tE S Wx fun env => evE prog o env (.and c d)) :=
  PE.imp (pe_andT ha hb) fun σ H Q ⟨ρ, M, env, A, E, P⟩ => by
    refine tE_mono (tE_seq (d := fun env => evE prog o env c) A E P) fun x H1 ⟨v, M1, ρ1, A1, E1, x1, r1, P1⟩ => ?_
    obtain ⟨k, hk, P2⟩ := Post.ofO P1.bind
    refine ⟨k, by rw [hK]; exact truV_of A1 r1 hk, ?_⟩
    have P3 := P2 ρ1 H1 Ext.refl A1
    cases k with
    | true => exact ⟨ρ1, M1, env, A1, E1, P3⟩
    | false => exact P3.now A1 _ r1
theorem s_or {a b : PySem.Expr} {rest : List PySem.Expr} {c d : CE} {pos : Pos} (hK : X.K = S.K) (ha : PE X a (tE S Wx fun env => evE prog o env c)) (hb : PE X (.BoolOp .Or (b :: rest) pos) (tE S Wx fun env => evE prog o env d)) :
    PE X (.BoolOp .Or (a :: b :: rest) pos) (tE S Wx fun env => evE prog o env (.or c d)) :=
  PE.imp (pe_orT ha hb) fun σ H Q ⟨ρ, M, env, A, E, P⟩ => by
    refine tE_mono (tE_seq (d := fun env => evE prog o env c) A E P) fun x H1 ⟨v, M1, ρ1, A1, E1, x1, r1, P1⟩ => ?_
    obtain ⟨k, hk, P2⟩ := Post.ofO P1.bind
    refine ⟨k, by rw [hK]; exact truV_of A1 r1 hk, ?_⟩
    have P3 := P2 ρ1 H1 Ext.refl A1
    cases k with
    | true => exact P3.now A1 _ r1
    | false => exact ⟨ρ1, M1, env, A1, E1, P3⟩
theorem tst_and {env : Env} {M : Sto} {c d : CE}
    : tst (fun env => evE prog o env (.and c d)) env M = (tst (fun env => evE prog o env c) env M).bind fun t M => match t with
      | true => tst (fun env => evE prog o env d) env M
      | false => .ok false M := by
  show ((evE prog o env c M).bind fun x M => (tstR x M).bind fun t M => match t with
    | true => evE prog o env d M
    | false => Rs.ok x M).bind tstR = ((evE prog o env c M).bind tstR).bind _
  cases evE prog o env c M with
  | ok v M1 =>
    show ((tstR v M1).bind _).bind tstR = (tstR v M1).bind _
    cases e : tstR v M1 with
    | ok t M2 =>
      have e2 : truV (derefW M1 v) = some t ∧ M2 = M1 := by
        have e : ofO "truth" (truV (derefW M1 v)) M1 = .ok t M2 := e
        cases q : truV (derefW M1 v) with
        | none => rw [q] at e; cases e
        | some z => rw [q] at e; cases e; exact ⟨rfl, rfl⟩
      cases t with
      | true => rfl
      | false => rw [e2.2]; show tstR v M1 = _; rw [e, e2.2]; rfl
    | _ => rfl
  | _ => rfl
theorem tst_or {env : Env} {M : Sto} {c d : CE}
    : tst (fun env => evE prog o env (.or c d)) env M = (tst (fun env => evE prog o env c) env M).bind fun t M => match t with
      | true => .ok true M
      | false => tst (fun env => evE prog o env d) env M := by
  show ((evE prog o env c M).bind fun x M => (tstR x M).bind fun t M => match t with
    | true => Rs.ok x M
    | false => evE prog o env d M).bind tstR = ((evE prog o env c M).bind tstR).bind _
  cases evE prog o env c M with
  | ok v M1 =>
    show ((tstR v M1).bind _).bind tstR = (tstR v M1).bind _
    cases e : tstR v M1 with
    | ok t M2 =>
      have e2 : truV (derefW M1 v) = some t ∧ M2 = M1 := by
        have e : ofO "truth" (truV (derefW M1 v)) M1 = .ok t M2 := e
        cases q : truV (derefW M1 v) with
        | none => rw [q] at e; cases e
        | some z => rw [q] at e; cases e; exact ⟨rfl, rfl⟩
      cases t with
      | false => rfl
      | true => rw [e2.2]; show tstR v M1 = _; rw [e, e2.2]; rfl
    | _ => rfl
  | _ => rfl
theorem w_one {a : PySem.Expr} {d : Den Bool} {op : PySem.BoolOp} {pos : Pos} (h : PT X a (tT S Wx d)) : PW X (.BoolOp op [a] pos) (tT S Wx d) :=
  ⟨fun whole pins s σ H Q I q => by
    rw [PySem.isTrue.eq_2, PySem.allTrue.eq_2]
    refine wpAny_bind (wpAny_mono (h.run pins s σ H Q I q) (fun b s1 h1 => ?_) fun _ _ z => z)
    cases op <;> cases b <;> (first | exact wpAny_pure h1 | (simp only [PySem.allTrue.eq_1]; exact wpAny_pure h1))⟩
theorem w_and {a b : PySem.Expr} {rest : List PySem.Expr} {c d : CE} {pos : Pos} (ha : PT X a (tT S Wx (tst fun env => evE prog o env c))) (hb : PW X (.BoolOp .And (b :: rest) pos) (tT S Wx (tst fun env => evE prog o env d))) :
    PW X (.BoolOp .And (a :: b :: rest) pos) (tT S Wx (tst fun env => evE prog o env (.and c d))) :=
  ⟨fun whole pins s σ H Q I ⟨ρ, M, env, A, E, P⟩ => (pw_and ha hb).run whole pins s σ H Q I (by
    rw [tst_and] at P
    refine tT_mono (tT_seq (d := tst fun env => evE prog o env c) A E P) fun b H1 ⟨M1, ρ1, A1, E1, x1, P1⟩ => ?_
    cases b with
    | true => exact ⟨ρ1, M1, env, A1, E1, P1⟩
    | false => exact P1.now A1)⟩
theorem w_or {a b : PySem.Expr} {rest : List PySem.Expr} {c d : CE} {pos : Pos} (ha : PT X a (tT S Wx (tst fun env => evE prog o env c))) (hb : PW X (.BoolOp .Or (b :: rest) pos) (tT S Wx (tst fun env => evE prog o env d))) :
    PW X (.BoolOp .Or (a :: b :: rest) pos) (tT S Wx (tst fun env => evE prog o env (.or c d))) :=
  ⟨fun whole pins s σ H Q I ⟨ρ, M, env, A, E, P⟩ => (pw_or ha hb).run whole pins s σ H Q I (by
    rw [tst_or] at P
    refine tT_mono (tT_seq (d := tst fun env => evE prog o env c) A E P) fun b H1 ⟨M1, ρ1, A1, E1, x1, P1⟩ => ?_
    cases b with
    | true => exact P1.now A1
    | false => exact ⟨ρ1, M1, env, A1, E1, P1⟩)⟩
def cmpA : COp → CmpOp
  | .eq => .Eq | .ne => .NotEq | .lt => .Lt | .le => .LtE | .gt => .Gt | .ge => .GtE | .isN => .Is | .notN => .IsNot | .isin => .In | .notin => .NotIn | .iss => .Is | .isnt => .IsNot
def rC (S : Sta) (prog : Prog) (o : Orc) (c : COp) : R2 := fun x y H Q => ∃ ρ M a b, Abs S H ρ M ∧ Rep S H ρ a x ∧ Rep S H ρ b y ∧
  Post S ρ H (cmpR prog o c a b M) (fun v _ ρ' H' => ∀ z, Rep S H' ρ' v z → Q z H') (fun _ _ _ _ => False)
theorem cmpR_bl {c : COp} {a b v : PV} {M M' : Sto} (h : cmpR prog o c a b M = .ok v M') : ∃ k, v = .bl k := by
  have of : ∀ {w : String} {r : Option Bool} {g : Bool → PV}, (∀ b, ∃ k, g b = .bl k) → ofO w (r.map g) M = .ok v M' → ∃ k, v = .bl k := by
    intro w r g hg h
    cases r with
    | none => cases h
    | some b => cases h; exact hg b
  have ob : ∀ {r : Rs PV}, r.nox.bind onlyB = .ok v M' → ∃ k, v = .bl k := by
    intro r h
    cases r with
    | ok z M1 =>
      have h : onlyB z M1 = .ok v M' := h
      unfold onlyB at h
      split at h
      · cases h; exact ⟨_, rfl⟩
      · cases h
    | ex _ _ => cases h
    | no _ => cases h
  cases c <;> unfold cmpR at h <;> simp only at h
  · split at h
    · split at h
      · exact ob h
      · cases h
    · split at h
      · cases h
      · split at h
        · exact of (fun b => ⟨b, rfl⟩) h
        · cases h
  · split at h
    · cases h
    · split at h
      · cases h
      · split at h
        · exact of (fun b => ⟨!b, rfl⟩) h
        · cases h
  · exact of (fun b => ⟨b, rfl⟩) h
  · exact of (fun b => ⟨b, rfl⟩) h
  · exact of (fun b => ⟨b, rfl⟩) h
  · exact of (fun b => ⟨b, rfl⟩) h
  · cases h; exact ⟨_, rfl⟩
  · cases h; exact ⟨_, rfl⟩
  · exact of (fun b => ⟨b, rfl⟩) h
  · exact of (fun b => ⟨!b, rfl⟩) h
  · cases h
  · cases h
theorem cmpR_ex {c : COp} {a b : PV} {e : Exn} {M M' : Sto} (h : cmpR prog o c a b M = .ex e M') : False := by
  have of : ∀ {w : String} {r : Option PV}, ofO w r M = .ex e M' → False := by
    intro w r h
    cases r <;> cases h
  have ob : ∀ {r : Rs PV}, r.nox.bind onlyB = .ex e M' → False := by
    intro r h
    cases r with
    | ok z M1 =>
      have h : onlyB z M1 = .ex e M' := h
      unfold onlyB at h
      split at h <;> cases h
    | ex _ _ => cases h
    | no _ => cases h
  cases c <;> unfold cmpR at h <;> simp only at h
  · split at h
    · split at h
      · exact ob h
      · cases h
    · split at h
      · cases h
      · split at h
        · exact of h
        · cases h
  · split at h
    · cases h
    · split at h
      · cases h
      · split at h
        · exact of h
        · cases h
  · exact of h
  · exact of h
  · exact of h
  · exact of h
  · cases h
  · cases h
  · exact of h
  · exact of h
  · cases h
  · cases h
theorem rC_of {c : COp} {σ : L2.St} {a b : PV} {x y : V} {okP : PV → Sto → List Addr → Hp → Prop} {Q : VK} (A : Abs S H ρ M) (ra : Rep S H ρ a x) (rb : Rep S H ρ b y)
    (P : Post S ρ H (cmpR prog o c a b M) okP (Wx σ)) (q : ∀ k M' ρ' H', Ext ρ H ρ' H' → Abs S H' ρ' M' → okP (.bl k) M' ρ' H' → Q (.bl k) H') : rC S prog o c x y H Q := by
  refine ⟨ρ, M, a, b, A, ra, rb, ?_⟩
  cases e : cmpR prog o c a b M with
  | ok v M' =>
    rw [e] at P
    obtain ⟨k, rfl⟩ := cmpR_bl e
    intro ρ' H' x1 A1 z hz
    rw [show z = .bl k from hz]
    exact q k M' ρ' H' x1 A1 (P ρ' H' x1 A1)
  | ex _ _ => exact (cmpR_ex e).elim
  | no w => rw [e] at P; exact P
theorem s_cmp {op : COp} {a b : PySem.Expr} {c d : CE} {pos : Pos} (ho : OpR X (compareOp (cmpA op)) (rC S prog o op)) (ha : PE X a (tE S Wx fun env => evE prog o env c)) (hb : PE X b (tE S Wx fun env => evE prog o env d))
    (hm : behindInMarks (cmpA op) b = false) : PE X (.Compare a [cmpA op] [b] pos) (tE S Wx fun env => evE prog o env (.cmp op c d)) :=
  PE.imp (pe_cmpR ho ha hb hm) fun σ H Q ⟨ρ, M, env, A, E, P⟩ => by
    refine tE_mono (tE_seq (d := fun env => evE prog o env c) A E P) fun x H1 ⟨v, M1, ρ1, A1, E1, x1, r1, P1⟩ => ?_
    refine tE_mono (tE_seq (d := fun env => evE prog o env d) A1 E1 P1) fun y H2 ⟨w, M2, ρ2, A2, E2, x2, r2, P2⟩ => ?_
    exact rC_of A2 (Rep.ext x2 v r1) r2 P2 fun k M' ρ' H' _ _ q => q _ rfl
theorem t_cmp {op : COp} {a b : PySem.Expr} {c d : CE} {pos : Pos} (ho : OpR X (compareOp (cmpA op)) (rC S prog o op)) (ha : PE X a (tE S Wx fun env => evE prog o env c)) (hb : PE X b (tE S Wx fun env => evE prog o env d))
    (hm : behindInMarks (cmpA op) b = false) : PT X (.Compare a [cmpA op] [b] pos) (tT S Wx (tst fun env => evE prog o env (.cmp op c d))) :=
  PT.imp (pt_cmpR ho ha hb hm) fun σ H Q ⟨ρ, M, env, A, E, P⟩ => by
    have e : tst (fun env => evE prog o env (.cmp op c d)) env M = (evE prog o env c M).bind fun x M => (evE prog o env d M).bind fun y M => (cmpR prog o op x y M).bind tstR := by
      show ((evE prog o env c M).bind fun x M => (evE prog o env d M).bind fun y M => cmpR prog o op x y M).bind tstR = _
      cases evE prog o env c M with
      | ok v M1 =>
        show ((evE prog o env d M1).bind fun y M => cmpR prog o op v y M).bind tstR = (evE prog o env d M1).bind _
        cases evE prog o env d M1 <;> rfl
      | _ => rfl
    rw [e] at P
    refine tE_mono (tE_seq (d := fun env => evE prog o env c) A E P) fun x H1 ⟨v, M1, ρ1, A1, E1, x1, r1, P1⟩ => ?_
    refine tE_mono (tE_seq (d := fun env => evE prog o env d) A1 E1 P1) fun y H2 ⟨w, M2, ρ2, A2, E2, x2, r2, P2⟩ => ?_
    exact rC_of A2 (Rep.ext x2 v r1) r2 P2.bind fun k M' ρ' H' _ A3 q => ⟨k, rfl, (show Post S ρ' H' (.ok k M') _ _ from q).now A3⟩
theorem s_chn {p q : COp} {a b c : PySem.Expr} {c1 c2 c3 : CE} {pos : Pos} (ho : OpR X (compareOp (cmpA p)) (rC S prog o p)) (ho' : OpR X (compareOp (cmpA q)) (rC S prog o q)) (ha : PE X a (tE S Wx fun env => evE prog o env c1)) (hb : PE X b (tE S Wx fun env => evE prog o env c2))
    (hc : PE X c (tE S Wx fun env => evE prog o env c3)) (hm : lastMarks [cmpA p, cmpA q] [b, c] = false) : PE X (.Compare a [cmpA p, cmpA q] [b, c] pos) (tE S Wx fun env => evE prog o env (.chn p q c1 c2 c3)) :=
  PE.imp (pe_chain ho ho' ha hb hc hm) fun σ H Q ⟨ρ, M, env, A, E, P⟩ => by
    refine tE_mono (tE_seq (d := fun env => evE prog o env c1) A E P) fun x H1 ⟨v, M1, ρ1, A1, E1, x1, r1, P1⟩ => ?_
    refine tE_mono (tE_seq (d := fun env => evE prog o env c2) A1 E1 P1) fun y H2 ⟨w, M2, ρ2, A2, E2, x2, r2, P2⟩ => ?_
    refine rC_of A2 (Rep.ext x2 v r1) r2 P2.bind fun k M3 ρ3 H3 x3 A3 P3 => ⟨k, rfl, ?_⟩
    have P3 := P3.bind.now A3
    cases k with
    | true =>
      refine tE_mono (tE_seq (d := fun env => evE prog o env c3) A3 (E2.ext x3) P3) fun z H4 ⟨u, M4, ρ4, A4, E4, x4, r4, P4⟩ => ?_
      exact rC_of A4 (Rep.ext x4 w (Rep.ext x3 w r2)) r4 P4 fun k M' ρ' H' _ _ q => q _ rfl
    | false => exact P3.now A3 _ rfl
theorem t_chn {p q : COp} {a b c : PySem.Expr} {c1 c2 c3 : CE} {pos : Pos} (ho : OpR X (compareOp (cmpA p)) (rC S prog o p)) (ho' : OpR X (compareOp (cmpA q)) (rC S prog o q)) (ha : PE X a (tE S Wx fun env => evE prog o env c1)) (hb : PE X b (tE S Wx fun env => evE prog o env c2))
    (hc : PE X c (tE S Wx fun env => evE prog o env c3)) (hm : lastMarks [cmpA p, cmpA q] [b, c] = false) : PT X (.Compare a [cmpA p, cmpA q] [b, c] pos) (tT S Wx (tst fun env => evE prog o env (.chn p q c1 c2 c3))) :=
  PT.imp (pt_chain ho ho' ha hb hc hm) fun σ H Q ⟨ρ, M, env, A, E, P⟩ => by
    have e : tst (fun env => evE prog o env (.chn p q c1 c2 c3)) env M = (evE prog o env c1 M).bind fun x M => (evE prog o env c2 M).bind fun y M => (cmpR prog o p x y M).bind fun r M => (boolR r M).bind fun t M => match t with
        | true => (evE prog o env c3 M).bind fun z M => (cmpR prog o q y z M).bind tstR
        | false => .ok false M := by
      show ((evE prog o env c1 M).bind fun x M => (evE prog o env c2 M).bind fun y M => (cmpR prog o p x y M).bind fun r M => (boolR r M).bind fun t M => match t with
        | true => (evE prog o env c3 M).bind fun z M => cmpR prog o q y z M
        | false => .ok (.bl false) M).bind tstR = _
      cases evE prog o env c1 M with
      | ok v M1 =>
        show ((evE prog o env c2 M1).bind fun y M => _).bind tstR = (evE prog o env c2 M1).bind _
        cases evE prog o env c2 M1 with
        | ok w M2 =>
          show ((cmpR prog o p v w M2).bind fun r M => _).bind tstR = (cmpR prog o p v w M2).bind _
          cases cmpR prog o p v w M2 with
          | ok r M3 =>
            show ((boolR r M3).bind fun t M => _).bind tstR = (boolR r M3).bind _
            cases boolR r M3 with
            | ok t M4 =>
              cases t with
              | true =>
                show ((evE prog o env c3 M4).bind fun z M => cmpR prog o q w z M).bind tstR = (evE prog o env c3 M4).bind _
                cases evE prog o env c3 M4 <;> rfl
              | false => rfl
            | _ => rfl
          | _ => rfl
        | _ => rfl
      | _ => rfl
    rw [e] at P
    refine tE_mono (tE_seq (d := fun env => evE prog o env c1) A E P) fun x H1 ⟨v, M1, ρ1, A1, E1, x1, r1, P1⟩ => ?_
    refine tE_mono (tE_seq (d := fun env => evE prog o env c2) A1 E1 P1) fun y H2 ⟨w, M2, ρ2, A2, E2, x2, r2, P2⟩ => ?_
    refine rC_of A2 (Rep.ext x2 v r1) r2 P2.bind fun k M3 ρ3 H3 x3 A3 P3 => ⟨k, rfl, ?_⟩
    have P3 := P3.bind.now A3
    cases k with
    | true =>
      refine tE_mono (tE_seq (d := fun env => evE prog o env c3) A3 (E2.ext x3) P3) fun z H4 ⟨u, M4, ρ4, A4, E4, x4, r4, P4⟩ => ?_
      exact rC_of A4 (Rep.ext x4 w (Rep.ext x3 w r2)) r4 P4.bind fun k M' ρ' H' _ A5 q => ⟨k, rfl, (show Post S ρ' H' (.ok k M') _ _ from q).now A5⟩
    | false => exact ⟨false, rfl, P3.now A3⟩
end
end Pf
end
section
set_option Elab.async false
set_option linter.all false
set_option maxRecDepth 100000
set_option maxHeartbeats 4000000
namespace Pf
open PySem PySem.Spec PyProof.Rows L2
section
variable {S : Sta} {Wx : WP} {X : Cx} {α : Type} {prog : Prog} {o : Orc} {H : Hp} {ρ : List Addr} {M : Sto} {v : PV} {x : V}
theorem OpR.rC {op : COp} {f : Sto → PV → PV → Option PV} (h : OpR X (compareOp (cmpA op)) (r2 S f)) {w : String} (e : ∀ a b M, cmpR prog o op a b M = ofO w (f M a b) M) : OpR X (compareOp (cmpA op)) (rC S prog o op) :=
  OpR.imp h fun x y H Q ⟨ρ, M, a, b, A, ra, rb, P⟩ => by
    rw [e] at P
    obtain ⟨z, ez, q⟩ := Post.ofO P
    exact ⟨ρ, M, a, b, z, A, ra, rb, ez, fun ρ' H' z' x1 A1 rz => q ρ' H' x1 A1 z' rz⟩
def OwnEq (X : Cx) (S : Sta) (prog : Prog) (o : Orc) : Prop := ∀ (pins : List (Addr × Obj)) (s : Shared) (σ : L2.St) (H : Hp) (x y : V) (u v : Value) (Q : VK) (ρ : List Addr) (M : Sto) (a b : PV) (f : Nat),
  L2.Inv X pins σ H s → L2.RelV x u → L2.RelV y v → Abs S H ρ M → Rep S H ρ a x → Rep S H ρ b y → methOf prog M a nmEq = some f → sameC M a b = true →
  Post S ρ H ((callF prog o f [a, b] [] M).nox.bind onlyB) (fun v _ ρ' H' => ∀ z, Rep S H' ρ' v z → Q z H') (fun _ _ _ _ => False) → wpAny (model X.prog X.w) X.A (compareOp .Eq u v) (EP X pins σ Q) X.xe s
theorem rC_eq (hK : X.K = S.K) (hu : X.A.units + 64 < cLine) (own : OwnEq X S prog o) : OpR X (compareOp .Eq) (rC S prog o .eq) := by
  intro pins s σ H x y v u Q I rx ry ⟨ρ, M, a, b, A, ra, rb, P⟩
  unfold cmpR at P
  simp only at P
  split at P
  · rename_i f hf
    split at P
    · rename_i hs
      exact own pins s σ H x y v u Q ρ M a b f I rx ry A ra rb hf hs P
    · exact P.elim
  · split at P
    · exact P.elim
    · split at P
      · rename_i a' b' ea eb
        obtain ⟨z, ez, q⟩ := Post.ofO P
        refine opR_eq (S := S) hK hu pins s σ H x y v u Q I rx ry ⟨ρ, M, a, b, z, A, ra, rb, ?_, fun ρ' H' z' x1 A1 rz => q ρ' H' x1 A1 z' rz⟩
        unfold fEq
        rw [ea, eb]
        exact ez
      · exact P.elim
theorem rC_ne (hK : X.K = S.K) (hu : X.A.units + 64 < cLine) : OpR X (compareOp .NotEq) (rC S prog o .ne) := by
  refine OpR.imp (opR_ne (S := S) hK hu) fun x y H Q ⟨ρ, M, a, b, A, ra, rb, P⟩ => ?_
  unfold cmpR at P
  simp only at P
  split at P
  · exact P.elim
  · split at P
    · exact P.elim
    · split at P
      · rename_i a' b' ea eb
        obtain ⟨z, ez, q⟩ := Post.ofO P
        refine ⟨ρ, M, a, b, z, A, ra, rb, ?_, fun ρ' H' z' x1 A1 rz => q ρ' H' x1 A1 z' rz⟩
        unfold fNe
        rw [ea, eb]
        exact ez
      · exact P.elim
theorem rep_non2 {y : V} {b : PV} (rb : Rep S H ρ b y) (h : b = .non) : y = .non := by subst h; exact rb
theorem s_isN {a : PySem.Expr} {c : CE} {j : Nat} {pos pos' : Pos} (h : PE X a (tE S Wx fun env => evE prog o env c)) :
    PE X (.Compare a [.Is] [.Constant .none j pos'] pos) (tE S Wx fun env => evE prog o env (.cmp .isN c (.cst .non))) :=
  PE.imp (pe_cmp (pc_isN h) rfl) fun σ H Q ⟨ρ, M, env, A, E, P⟩ => by
    refine tE_mono (tE_seq (d := fun env => evE prog o env c) A E P) fun x H1 ⟨v, M1, ρ1, A1, E1, x1, r1, P1⟩ => ?_
    rw [isNon_rep r1]
    have P2 : Post S ρ1 H1 (Rs.ok (PV.bl (isNon v)) M1) (fun v x ρ' H' => ∀ (x : V), Rep S H' ρ' v x → Q x H') (Wx σ) := (by
      have e : cmpR prog o .isN v .non M1 = .ok (.bl (isNon v)) M1 := by cases v <;> rfl
      have P1 : Post S ρ1 H1 (cmpR prog o .isN v .non M1) _ _ := P1
      rw [e] at P1
      exact P1)
    exact P2.now A1 _ rfl
theorem t_isN {a : PySem.Expr} {c : CE} {j : Nat} {pos pos' : Pos} (h : PE X a (tE S Wx fun env => evE prog o env c)) :
    PT X (.Compare a [.Is] [.Constant .none j pos'] pos) (tT S Wx (tst fun env => evE prog o env (.cmp .isN c (.cst .non)))) :=
  PT.imp (pt_cmp (pc_isN h) rfl) fun σ H Q ⟨ρ, M, env, A, E, P⟩ => by
    have e : tst (fun env => evE prog o env (.cmp .isN c (.cst .non))) env M = (evE prog o env c M).bind fun v M => .ok (isNon v) M := by
      show ((evE prog o env c M).bind fun x M => cmpR prog o .isN x .non M).bind tstR = _
      cases evE prog o env c M with
      | ok v M1 => cases v <;> rfl
      | _ => rfl
    rw [e] at P
    refine tE_mono (tE_seq (d := fun env => evE prog o env c) A E P) fun x H1 ⟨v, M1, ρ1, A1, E1, x1, r1, P1⟩ => ?_
    exact ⟨_, rfl, by rw [isNon_rep r1]; exact P1.now A1⟩
theorem s_notN {a : PySem.Expr} {c : CE} {j : Nat} {pos pos' : Pos} (h : PE X a (tE S Wx fun env => evE prog o env c)) :
    PE X (.Compare a [.IsNot] [.Constant .none j pos'] pos) (tE S Wx fun env => evE prog o env (.cmp .notN c (.cst .non))) :=
  PE.imp (pe_cmp (pc_notN h) rfl) fun σ H Q ⟨ρ, M, env, A, E, P⟩ => by
    refine tE_mono (tE_seq (d := fun env => evE prog o env c) A E P) fun x H1 ⟨v, M1, ρ1, A1, E1, x1, r1, P1⟩ => ?_
    rw [isNon_rep r1]
    have P2 : Post S ρ1 H1 (Rs.ok (PV.bl (!isNon v)) M1) (fun v x ρ' H' => ∀ (x : V), Rep S H' ρ' v x → Q x H') (Wx σ) := (by
      have e : cmpR prog o .notN v .non M1 = .ok (.bl (!isNon v)) M1 := by cases v <;> rfl
      have P1 : Post S ρ1 H1 (cmpR prog o .notN v .non M1) _ _ := P1
      rw [e] at P1
      exact P1)
    exact P2.now A1 _ rfl
theorem t_notN {a : PySem.Expr} {c : CE} {j : Nat} {pos pos' : Pos} (h : PE X a (tE S Wx fun env => evE prog o env c)) :
    PT X (.Compare a [.IsNot] [.Constant .none j pos'] pos) (tT S Wx (tst fun env => evE prog o env (.cmp .notN c (.cst .non)))) :=
  PT.imp (pt_cmp (pc_notN h) rfl) fun σ H Q ⟨ρ, M, env, A, E, P⟩ => by
    have e : tst (fun env => evE prog o env (.cmp .notN c (.cst .non))) env M = (evE prog o env c M).bind fun v M => .ok (!isNon v) M := by
      show ((evE prog o env c M).bind fun x M => cmpR prog o .notN x .non M).bind tstR = _
      cases evE prog o env c M with
      | ok v M1 => cases v <;> rfl
      | _ => rfl
    rw [e] at P
    refine tE_mono (tE_seq (d := fun env => evE prog o env c) A E P) fun x H1 ⟨v, M1, ρ1, A1, E1, x1, r1, P1⟩ => ?_
    exact ⟨_, rfl, by rw [isNon_rep r1]; exact P1.now A1⟩
def copOk : COp → Bool
  | .isN => false | .notN => false | .iss => false | .isnt => false
  | _ => true
theorem rC_all (hK : X.K = S.K) (hu : X.A.units + 70 < cLine) (own : OwnEq X S prog o) {c : COp} (h : copOk c = true) : OpR X (compareOp (cmpA c)) (rC S prog o c) := by
  cases c with
  | eq => exact rC_eq hK (by omega) own
  | ne => exact rC_ne hK (by omega)
  | lt => exact OpR.rC (op := .lt) (w := "<") (opR_lt (S := S)) fun _ _ _ => rfl
  | le => exact OpR.rC (op := .le) (w := "<=") (opR_le (S := S) hK (by omega)) fun _ _ _ => rfl
  | gt => exact OpR.rC (op := .gt) (w := ">") (opR_gt (S := S)) fun _ _ _ => rfl
  | ge => exact OpR.rC (op := .ge) (w := ">=") (opR_ge (S := S)) fun _ _ _ => rfl
  | isin => exact OpR.rC (op := .isin) (w := "in") (opR_in (S := S) hK (by omega)) fun _ _ _ => rfl
  | notin => exact OpR.rC (op := .notin) (w := "not in") (opR_notin (S := S) hK (by omega)) fun _ _ _ => rfl
  | isN => cases h
  | notN => cases h
  | iss => cases h
  | isnt => cases h
theorem t_ite0 {c a b : PySem.Expr} {pos : Pos} : ∀ whole : Sem Value, PySem.isTrue (.IfExp c a b pos) X.env whole = (do if (← PySem.isTrue c X.env (eval c X.env)) = true then PySem.isTrue a X.env (eval a X.env) else PySem.isTrue b X.env (eval b X.env)) := fun whole => PySem.isTrue.eq_3 _ _ _ _ _ _
theorem s_ite {c a b : PySem.Expr} {c1 c2 c3 : CE} {pos : Pos} (hc : PT X c (tT S Wx (tst fun env => evE prog o env c1))) (ha : PE X a (tE S Wx fun env => evE prog o env c2)) (hb : PE X b (tE S Wx fun env => evE prog o env c3)) :
    PE X (.IfExp c a b pos) (tE S Wx fun env => evE prog o env (.ite c1 c2 c3)) :=
  PE.imp (pe_ifExp hc ha hb) fun σ H Q ⟨ρ, M, env, A, E, P⟩ => by
    have e : evE prog o env (.ite c1 c2 c3) M = (tst (fun env => evE prog o env c1) env M).bind fun t M => match t with
        | true => evE prog o env c2 M
        | false => evE prog o env c3 M := by
      show ((evE prog o env c1 M).bind fun x M => (tstR x M).bind fun t M => _) = ((evE prog o env c1 M).bind tstR).bind _
      cases evE prog o env c1 M <;> rfl
    replace P : Post S ρ H (evE prog o env (.ite c1 c2 c3) M) _ _ := P
    rw [e] at P
    refine tT_mono (tT_seq (d := tst fun env => evE prog o env c1) A E P) fun b H1 ⟨M1, ρ1, A1, E1, x1, P1⟩ => ?_
    cases b with
    | true => exact ⟨ρ1, M1, env, A1, E1, P1⟩
    | false => exact ⟨ρ1, M1, env, A1, E1, P1⟩
theorem t_ite {c a b : PySem.Expr} {c1 c2 c3 : CE} {pos : Pos} (hc : PT X c (tT S Wx (tst fun env => evE prog o env c1))) (ha : PT X a (tT S Wx (tst fun env => evE prog o env c2))) (hb : PT X b (tT S Wx (tst fun env => evE prog o env c3))) :
    PT X (.IfExp c a b pos) (tT S Wx (tst fun env => evE prog o env (.ite c1 c2 c3))) :=
  ⟨fun pins s σ H Q I ⟨ρ, M, env, A, E, P⟩ => by
    have e : tst (fun env => evE prog o env (.ite c1 c2 c3)) env M = (tst (fun env => evE prog o env c1) env M).bind fun t M => match t with
        | true => tst (fun env => evE prog o env c2) env M
        | false => tst (fun env => evE prog o env c3) env M := by
      show ((evE prog o env c1 M).bind fun x M => (tstR x M).bind fun t M => _).bind tstR = ((evE prog o env c1 M).bind tstR).bind _
      cases evE prog o env c1 M with
      | ok v M1 =>
        show ((tstR v M1).bind fun t M => _).bind tstR = (tstR v M1).bind _
        cases tstR v M1 with
        | ok t M2 => cases t <;> rfl
        | _ => rfl
      | _ => rfl
    rw [e] at P
    rw [PySem.isTrue.eq_3]
    refine wpAny_bind (wpAny_mono (hc.run pins s σ H _ I (tT_seq (d := tst fun env => evE prog o env c1) A E P)) (fun b s1 ⟨H1, I1, M1, ρ1, A1, E1, x1, P1⟩ => ?_) fun _ _ z => z)
    cases b with
    | true => exact ha.run pins s1 σ H1 Q I1 ⟨ρ1, M1, env, A1, E1, P1⟩
    | false => exact hb.run pins s1 σ H1 Q I1 ⟨ρ1, M1, env, A1, E1, P1⟩⟩
theorem s_neg {a : PySem.Expr} {c : CE} {pos : Pos} (h : PE X a (tE S Wx fun env => evE prog o env c)) : PE X (.UnaryOp .USub a pos) (tE S Wx fun env => evE prog o env (.neg c)) :=
  PE.imp (pe_un un_neg h) fun σ H Q ⟨ρ, M, env, A, E, P⟩ => by
    refine tE_mono (tE_seq (d := fun env => evE prog o env c) A E P) fun x H1 ⟨v, M1, ρ1, A1, E1, x1, r1, P1⟩ => ?_
    cases v with
    | int i => exact ⟨i, r1, P1.now A1 _ rfl⟩
    | _ => exact P1.elim
theorem ixN_eq {i : Int} {n j : Nat} (h : ixN i n = some j) : L2.ixN n i = some j := by
  unfold ixN at h
  unfold L2.ixN
  split at h
  · rename_i e
    have e : 0 ≤ i := of_decide_eq_true e
    split at h
    · rename_i e2
      have e2 : i.toNat < n := Nat.le_of_ble_eq_true e2
      cases h
      rw [if_pos e, if_pos (by omega)]
    · cases h
  · rename_i e
    have e : ¬ 0 ≤ i := of_decide_eq_false e
    split at h
    · rename_i e2
      have e2 : 0 ≤ i + n := of_decide_eq_true e2
      cases h
      rw [if_neg e, if_pos (by omega)]
    · cases h
theorem atI_rep {xs : List PV} {vs : List V} {i : Int} {p : PV} (r : RepL S H ρ xs vs) (h : (ixN i xs.length).bind (fun j => xs[j]?) = some p) : ∃ w, atI vs i = some w ∧ Rep S H ρ p w := by
  obtain ⟨j, e1, e2⟩ := Option.bind_eq_some_iff.mp h
  obtain ⟨w, e3, rw'⟩ := r.get e2
  refine ⟨w, ?_, rw'⟩
  unfold atI
  rw [← r.len, ixN_eq e1]
  exact e3
theorem subTail {pg : Program} {w : World} {A : Around} {E : Value → Shared → Prop} {s : Shared} {value slice : PySem.Expr} {o i : Value} {T id : String} {Q : Value → Shared → Prop} (hT : s.TypeIs o T)
    (hl : typeLookup (Value.type T) (Str.ofString "__getitem__") = pure (some (Value.builtin id))) (h : wpAny (model pg w) A (getItem o i) Q E s) (hs : subscripted slice false o i = operate [o, i] (getItem o i)) :
    wpAny (model pg w) A (subscriptTail value slice o i) Q E s := by
  unfold subscriptTail
  refine wpAny_bind ?_
  rw [getitemInPython_of_ne (Shared.TypeIs.not_modules hT)]
  refine wpAny_bind (wpAny_specialOf hT hl ?_)
  refine wpAny_pure (wpAny_bind ?_)
  rw [hs]
  exact wpAny_operating (wpAny_mono h (fun r s3 h3 => wpAny_bind (wpAny_letTemporaryGo (wpAny_pure h3))) fun _ _ z => z)
def rIxD : R2 := fun x y H Q => ∃ a v, x = .ref a ∧ DGet H a y (some v) ∧ Q v H
theorem ix_dict (hu : X.A.units + 1 < cLine) : IxR X rIxD := by
  intro value slice pins s σ H x y v u Q I rx ry ⟨a, z, ex, g, q⟩ hs
  subst ex
  cases rx
  exact subTail (dict_typeIs I g) F.slot_dict_getitem.lookup (d_getItem hu I g ry fun w' s3 I3 rw' => ⟨z, H, I3, rw', q⟩) hs
theorem IxR.or {r r' : R2} (h : IxR X r) (h' : IxR X r') : IxR X (fun x y H Q => r x y H Q ∨ r' x y H Q) :=
  fun value slice pins s σ H x y v u Q I rx ry q hs => q.elim (fun q => h value slice pins s σ H x y v u Q I rx ry q hs) fun q => h' value slice pins s σ H x y v u Q I rx ry q hs
theorem IxR.imp {r r' : R2} (h : IxR X r) (k : ∀ x y H Q, r' x y H Q → r x y H Q) : IxR X r' :=
  fun value slice pins s σ H x y v u Q I rx ry q hs => h value slice pins s σ H x y v u Q I rx ry (k x y H Q q) hs
theorem ixR_all (hK : X.K = S.K) (hu : X.A.units + 1 < cLine) : IxR X (r2 S fun M a b => ixV (deref M a) b) := by
  refine IxR.imp (IxR.or ix_list (IxR.or ix_tup (IxR.or ix_str (ix_dict hu)))) fun x y H Q ⟨ρ, M, a, b, z, A, ra, rb, e, q⟩ => ?_
  replace e : ixV (deref M a) b = some z := e
  rw [hK]
  generalize ea : deref M a = a' at e
  have I : ∀ {c : Prop} {f : Int → Option PV}, (match (generalizing := false) b with | .int k => f k | _ => none) = some z → (∀ k, b = .int k → y = .int k → f k = some z → c) → c := by
    intro c f h g
    cases b with
    | int k => exact g k rfl rb h
    | _ => cases h
  cases a' with
  | tup xs =>
    refine I (f := fun k => (ixN k xs.length).bind fun j => xs[j]?) e fun k _ ey e => ?_
    obtain ⟨p, vs, rfl, t, r⟩ := d_tup ra ea
    obtain ⟨w, e1, rw'⟩ := atI_rep r e
    exact .inr (.inl ⟨p, vs, k, w, rfl, ey, t, e1, q ρ H w Ext.refl A rw'⟩)
  | lst xs =>
    refine I (f := fun k => (ixN k xs.length).bind fun j => xs[j]?) e fun k _ ey e => ?_
    obtain ⟨p, vs, rfl, t, r⟩ := d_lst A ra ea
    obtain ⟨w, e1, rw'⟩ := atI_rep r e
    exact .inl ⟨p, vs, k, w, rfl, ey, t, e1, q ρ H w Ext.refl A rw'⟩
  | str s =>
    refine I (f := fun k => match Nat.ble s.length cap with
      | true => (ixN k s.length).bind fun j => s[j]?.map fun c => .str [c]
      | false => none) e fun k _ ey e => ?_
    split at e
    · rename_i hb
      obtain ⟨j, e1, e2⟩ := Option.bind_eq_some_iff.mp e
      obtain ⟨c, e3, rfl⟩ := Option.map_eq_some_iff.mp e2
      refine .inr (.inr (.inl ⟨sv s, k, c, d_str ra ea, ey, by rw [sv_len]; exact capB hb, ?_, q ρ H _ Ext.refl A rfl⟩))
      unfold atI
      rw [show (sv s).cps.toList = s by simp [sv], ixN_eq e1]
      exact e3
    · cases e
  | dic kvs =>
    have e : (match keyOk b with
      | true => dget b kvs
      | false => none) = some z := e
    split at e
    · rename_i hk
      obtain ⟨k, hk⟩ := keyP_of hk
      obtain ⟨p, ks, rfl, rd, rr⟩ := d_dic A ra ea
      have := dget_rep hk rr
      rw [e] at this
      obtain ⟨w, hv, rw'⟩ := this
      exact .inr (.inr (.inr ⟨p, w, rfl, .inl ⟨ks, k, rd, keyP_rep hk rb, hv.symm⟩, q ρ H w Ext.refl A rw'⟩))
    · cases e
  | _ => cases e
theorem s_idx (hK : X.K = S.K) (hu : X.A.units + 1 < cLine) {a b : PySem.Expr} {c d : CE} {pos : Pos} (ha : PE X a (tE S Wx fun env => evE prog o env c)) (hb : PE X b (tE S Wx fun env => evE prog o env d)) (hs : PlainIx b) :
    PE X (.Subscript a b pos) (tE S Wx fun env => evE prog o env (.idx c d)) :=
  PE.imp (pe_ix (ixR_all (S := S) hK hu) ha hb hs) fun σ H Q ⟨ρ, M, env, A, E, P⟩ => by
    refine tE_mono (tE_seq (d := fun env => evE prog o env c) A E P) fun x H1 ⟨v, M1, ρ1, A1, E1, x1, r1, P1⟩ => ?_
    refine tE_mono (tE_seq (d := fun env => evE prog o env d) A1 E1 P1) fun y H2 ⟨w, M2, ρ2, A2, E2, x2, r2, P2⟩ => ?_
    obtain ⟨z, ez, q⟩ := Post.ofO (show Post S ρ2 H2 (ofO "index" (ixV (deref M2 v) w) M2) _ _ from P2)
    exact ⟨ρ2, M2, v, w, z, A2, Rep.ext x2 v r1, r2, ez, fun ρ' H' z' x3 A3 r3 => q ρ' H' x3 A3 z' r3⟩
theorem sIx_eq (n d : Nat) (x : Option Int) : HT.sIx n d x = (match x with | none => d | some i => clampI i n) := by
  cases x with
  | none => rfl
  | some i =>
    show (if i < 0 then (i + ↑n).toNat else min i.toNat n) = (match decide (0 ≤ i) with
      | true => min i.toNat n
      | false => (i + n).toNat)
    by_cases h : 0 ≤ i
    · rw [if_neg (by omega), decide_eq_true h]
    · rw [if_pos (by omega), decide_eq_false h]
theorem cutL_eq {β : Type} (xs : List β) (lo hi : Option Int) : cutL lo hi xs = List.take (HT.sIx xs.length xs.length hi - HT.sIx xs.length 0 lo) (List.drop (HT.sIx xs.length 0 lo) xs) := by
  unfold cutL
  simp only
  rw [sIx_eq _ _ lo, sIx_eq _ _ hi, List.drop_take]
  all_goals rfl
theorem RepL.cut {xs : List PV} {vs : List V} (lo hi : Option Int) (r : RepL S H ρ xs vs) : RepL S H ρ (cutL lo hi xs) (L2.cutV vs lo hi) := by
  rw [cutL_eq]
  unfold L2.cutV
  rw [← r.len]
  exact (r.drop _).take _
theorem SlR.or {r r' : V → Option Int → Option Int → Hp → VK → Prop} (h : SlR X r) (h' : SlR X r') : SlR X (fun x l u H Q => r x l u H Q ∨ r' x l u H Q) :=
  fun pins s σ H x v vl vu lo hi sl Q I rx a b c q => q.elim (fun q => h pins s σ H x v vl vu lo hi sl Q I rx a b c q) fun q => h' pins s σ H x v vl vu lo hi sl Q I rx a b c q
theorem SlR.imp {r r' : V → Option Int → Option Int → Hp → VK → Prop} (h : SlR X r) (k : ∀ x l u H Q, r' x l u H Q → r x l u H Q) : SlR X r' :=
  fun pins s σ H x v vl vu lo hi sl Q I rx a b c q => h pins s σ H x v vl vu lo hi sl Q I rx a b c (k _ _ _ _ _ q)
def rSl (S : Sta) : V → Option Int → Option Int → Hp → VK → Prop := fun x lo hi H Q => ∃ ρ M a z, Abs S H ρ M ∧ Rep S H ρ a x ∧ Pf.cutV (deref M a) lo hi = some z ∧
  ∀ ρ' H' z', Ext ρ H ρ' H' → Abs S H' ρ' M → Rep S H' ρ' z z' → Q z' H'
theorem slR_all (hK : X.K = S.K) : SlR X (rSl S) := by
  refine SlR.imp (SlR.or sl_list (SlR.or sl_tupA sl_str)) fun x lo hi H Q ⟨ρ, M, a, z, A, ra, e, q⟩ => ?_
  rw [hK]
  generalize ea : deref M a = a' at e
  cases a' with
  | tup xs =>
    cases e
    obtain ⟨p, vs, rfl, t, r⟩ := d_tup ra ea
    refine .inr (.inl ⟨p, vs, rfl, t, fun ⟨h1, h2⟩ => ?_, fun _ p' hp => ?_⟩)
    · have e1 : cutL lo hi xs = xs := by
        rw [cutL_eq, r.len, h1, h2]
        simp [← r.len]
      rw [e1] at q
      have ea' : a = .tup xs := by
        rcases deref_loc ea (fun _ z => by cases z) with h | ⟨n, _, ⟨_, h, _⟩ | ⟨_, h, _⟩⟩
        · exact h
        · cases h
        · cases h
      subst ea'
      exact q ρ H _ Ext.refl A ra
    · exact q ρ _ _ (ext_new hp) (abs_new A hp) (rep_tup A hp (r.cut lo hi))
  | lst xs =>
    cases e
    obtain ⟨p, vs, rfl, t, r⟩ := d_lst A ra ea
    exact .inl ⟨p, vs, rfl, t, fun p' hp => q ρ _ _ (ext_new hp) (abs_new A hp) (rep_lst A hp (r.cut lo hi))⟩
  | str s =>
    have e : (match Nat.ble s.length cap with
      | true => some (PV.str (cutL lo hi s))
      | false => none) = some z := e
    split at e
    · rename_i hb
      cases e
      refine .inr (.inr ⟨sv s, d_str ra ea, by rw [sv_len]; exact capB hb, ?_⟩)
      have e2 : L2.cutS (sv s) lo hi = sv (cutL lo hi s) := by
        unfold L2.cutS
        rw [sv_len, show (sv s).cps.toList = s by simp [sv], ← cutL_eq]
        rfl
      rw [e2]
      exact q ρ H _ Ext.refl A rfl
    · cases e
  | _ => cases e
def tO (S : Sta) (Wx : WP) (d : Den (Option Int)) : TO := fun σ H Q => ∃ ρ M env, Abs S H ρ M ∧ RepE S H ρ env σ ∧
  Post S ρ H (d env M) (fun v _ ρ' H' => Q v H') (Wx σ)
theorem PO.imp {e : Option PySem.Expr} {t t' : TO} (h : L2.PO X e t) (f : ∀ σ H Q, t' σ H Q → t σ H Q) : L2.PO X e t' :=
  ⟨fun pins s σ H Q I q => h.run pins s σ H Q I (f σ H Q q)⟩
theorem o_none : L2.PO X none (tO S Wx fun env => evO prog o env .n) :=
  PO.imp po_none fun σ H Q ⟨ρ, M, env, A, E, P⟩ => (show Post S ρ H (Rs.ok none M) (fun v _ ρ' H' => Q v H') (Wx σ) from P).now A
theorem o_some {a : PySem.Expr} {c : CE} (h : PE X a (tE S Wx fun env => evE prog o env c)) : L2.PO X (some a) (tO S Wx fun env => evO prog o env (.s c)) :=
  PO.imp (po_some h) fun σ H Q ⟨ρ, M, env, A, E, P⟩ => by
    refine tE_mono (tE_seq (d := fun env => evE prog o env c) (k := bndR) A E P) fun x H1 ⟨v, M1, ρ1, A1, E1, x1, r1, P1⟩ => ?_
    cases v with
    | int i => exact ⟨i, r1, P1.now A1⟩
    | _ => exact P1.elim
theorem tO_seq {d : Den (Option Int)} {k : Option Int → Sto → Rs α} {σ : L2.St} {H : Hp} {ρ : List Addr} {M : Sto} {env : Env} {okP : α → Sto → List Addr → Hp → Prop}
    (A : Abs S H ρ M) (e : RepE S H ρ env σ) (h : Post S ρ H ((d env M).bind k) okP (Wx σ)) :
    tO S Wx d σ H fun b H1 => ∃ M1 ρ1, Abs S H1 ρ1 M1 ∧ RepE S H1 ρ1 env σ ∧ Ext ρ H ρ1 H1 ∧ Post S ρ1 H1 (k b M1) okP (Wx σ) :=
  ⟨ρ, M, env, A, e, h.bind.imp (fun v M1 ρ1 H1 _ x A1 P => ⟨M1, ρ1, A1, e.ext x, x, P⟩) fun _ _ _ _ _ _ P => P⟩
theorem tO_mono {d : Den (Option Int)} {σ : L2.St} {H : Hp} {Q Q' : Option Int → Hp → Prop} (h : tO S Wx d σ H Q) (f : ∀ x H', Q x H' → Q' x H') : tO S Wx d σ H Q' := by
  obtain ⟨ρ, M, env, A, e, P⟩ := h
  exact ⟨ρ, M, env, A, e, P.imp (fun v M1 ρ1 H1 _ _ _ q => f v H1 q) fun _ _ _ _ _ _ q => q⟩
theorem s_sl (hK : X.K = S.K) {a : PySem.Expr} {lo hi : Option PySem.Expr} {c : CE} {l h : CO} {pos p2 : Pos} (ha : PE X a (tE S Wx fun env => evE prog o env c)) (hl : L2.PO X lo (tO S Wx fun env => evO prog o env l)) (hh : L2.PO X hi (tO S Wx fun env => evO prog o env h)) :
    PE X (.Subscript a (.Slice lo hi none p2) pos) (tE S Wx fun env => evE prog o env (.sl c l h)) :=
  PE.imp (pe_slice (slR_all (S := S) hK) ha hl hh) fun σ H Q ⟨ρ, M, env, A, E, P⟩ => by
    refine tE_mono (tE_seq (d := fun env => evE prog o env c) A E P) fun x H1 ⟨v, M1, ρ1, A1, E1, x1, r1, P1⟩ => ?_
    refine tO_mono (tO_seq (d := fun env => evO prog o env l) A1 E1 P1) fun y H2 ⟨M2, ρ2, A2, E2, x2, P2⟩ => ?_
    refine tO_mono (tO_seq (d := fun env => evO prog o env h) A2 E2 P2) fun z H3 ⟨M3, ρ3, A3, E3, x3, P3⟩ => ?_
    obtain ⟨w, ew, q⟩ := Post.ofO (show Post S ρ3 H3 (ofO "slice" (Pf.cutV (deref M3 v) y z) M3) _ _ from P3)
    exact ⟨ρ3, M3, v, w, A3, Rep.ext x3 v (Rep.ext x2 v r1), ew, fun ρ' H' z' x4 A4 r4 => q ρ' H' x4 A4 z' r4⟩
theorem RepF.get {k : List Nat} : ∀ {fs : List (List Nat × PV)} {vs : List (Str × V)}, RepF S H ρ fs vs → (match fget k fs with
    | some z => ∃ v, List.lookup (sv k) vs = some v ∧ Rep S H ρ z v
    | none => List.lookup (sv k) vs = none)
  | [], _, r => by subst r; rfl
  | (a, b) :: r, _, ⟨v, ws, e, rv, t⟩ => by
    subst e
    have ih := RepF.get (k := k) t
    have e1 : fget k ((a, b) :: r) = (match seq a k with
      | true => some b
      | false => fget k r) := rfl
    rw [e1, List.lookup_cons]
    cases q : seq a k with
    | true =>
      have := seq_iff.mp q
      subst this
      simp only [beq_self_eq_true]
      exact ⟨v, rfl, rv⟩
    | false =>
      have hne : (sv k == sv a) = false := by
        rw [beq_eq_false_iff_ne]
        intro e
        have := sv_inj e
        subst this
        rw [seq_iff.mpr rfl] at q
        cases q
      simp only [hne]
      exact ih
structure ClsOk (S : Sta) (prog : Prog) : Prop where
  cl : ∀ c, S.own c = true → Cls S.K (S.cA c)
  c1 : ∀ c, S.own c = true → W.findIn S.K (.ref (S.cA c)) (Str.ofString "__class__") = some (some (.builtin "object.__class__"))
  c2 : W.specialIn S.K (.builtin "object.__class__") (Str.ofString "__get__") = some (some (.builtin "getset_descriptor.__get__"))
  c3 : W.takesIn S.K (.builtin "object.__class__") = some true
  c4 : ∀ c, S.own c = true → W.mroIn S.K (S.cA c) (.type "object") = some true
  kT : ∀ c, S.own c = true → ∀ T ∈ ["int", "bool", "str", "tuple", "list", "dict"], W.kitOne S.K (.ref (S.cA c)) (.type T) = some false
  kB : ∀ T ∈ ["NoneType", "bool", "int", "str", "tuple", "list", "dict"], ∀ d, d < prog.cls.length → W.kitOne S.K (.type T) (.ref (S.cA d)) = some false
  me : ∀ c, S.own c = true → ∀ k, prog.cls[c]? = some k → ∀ m g, fgetN m k.ms = some g → Meth S.K (S.cA c) (sv m) (S.fA g)
  mkC : ∀ c, S.own c = true → ∀ k, prog.cls[c]? = some k → ∀ g, fgetN nmInit k.ms = some g → Mk S.K (S.cA c) (S.fA g)
  kO : ∀ c, S.own c = true → ∀ d, d < prog.cls.length → ∀ k, prog.cls[c]? = some k → W.kitOne S.K (.ref (S.cA c)) (.ref (S.cA d)) = some (k.mro.any (Nat.beq d))
theorem s_attr (hK : X.K = S.K) (hc : ClsOk S prog) {a : PySem.Expr} {c : CE} {f : List Nat} {pos : Pos} (ha : PE X a (tE S Wx fun env => evE prog o env c)) (hb : attributeBase a (sv f) X.env (eval a X.env) = eval a X.env)
    (hf : ∀ d, S.own d = true → NoAttr S.K (S.cA d) (sv f)) : PE X (.Attribute a (sv f) pos) (tE S Wx fun env => evE prog o env (.attr c f)) :=
  PE.imp (pe_fld ha hb) fun σ H Q ⟨ρ, M, env, A, E, P⟩ => by
    refine tE_mono (tE_seq (d := fun env => evE prog o env c) A E P) fun x H1 ⟨v, M1, ρ1, A1, E1, x1, r1, P1⟩ => ?_
    have P2 : Post S ρ1 H1 (attrR M1 v f) _ _ := P1
    cases v with
    | loc n =>
      have P3 : Post S ρ1 H1 (match M1[n]? with
        | some (.ins _ fs) => ofO "attribute" (fget f fs) M1
        | _ => .no "attribute") _ _ := P2
      split at P3
      · rename_i d fs e
        obtain ⟨z, ez, q⟩ := Post.ofO P3
        obtain ⟨p, rfl, hp⟩ := r1
        obtain ⟨b, u, hb, ho, dx, vs, eu, ow, rf⟩ := A1.get e
        rw [hp] at hb; cases hb; subst eu
        have := RepF.get (k := f) rf
        rw [ez] at this
        obtain ⟨w, e4, rw'⟩ := this
        exact ⟨p, S.cA d, dx, vs, w, rfl, ho, by rw [hK]; exact hc.cl d ow, by rw [hK]; exact hf d ow, e4, q ρ1 H1 Ext.refl A1 _ rw'⟩
      · exact P3.elim
    | exo d fs => exact r1.elim
    | _ => exact P2.elim
end
end Pf
end
section
set_option Elab.async false
set_option linter.all false
set_option maxRecDepth 100000
set_option maxHeartbeats 4000000
namespace Pf
open PySem PySem.Spec PyProof.Rows L2
section
variable {S : Sta} {Wx : WP} {X : Cx} {α : Type} {prog : Prog} {o : Orc} {H : Hp} {ρ : List Addr} {M : Sto} {v : PV} {x : V}
theorem CallR.imp {f : Value} {r r' : List V → Hp → VK → Prop} (h : CallR X f r) (k : ∀ xs H Q, r' xs H Q → r xs H Q) : CallR X f r' :=
  fun pins s σ H xs us Q I rv q => h pins s σ H xs us Q I rv (k xs H Q q)
def rB (S : Sta) (prog : Prog) (b : BI) : List V → Hp → VK → Prop := fun vs H Q => ∃ ρ M ps z, Abs S H ρ M ∧ RepL S H ρ ps vs ∧ biO prog b ps M = some z ∧ ∀ ρ' H' x, Ext ρ H ρ' H' → Abs S H' ρ' M → Rep S H' ρ' z x → Q x H'
theorem s_bi {b : BI} {e e0 : PySem.Expr} {es : List PySem.Expr} {cs : CL} {f : Value} (hc : CallR X f (rB S prog b)) (hp : ∀ {r : List V → Hp → VK → Prop} {t : TA}, CallR X f r → PA X (e :: es) t → PE X e0 (tCB r t))
    (h : PA X (e :: es) (tA S Wx fun env => evL prog o env cs)) : PE X e0 (tE S Wx fun env => evE prog o env (.bi b cs)) :=
  PE.imp (hp hc h) fun σ H Q ⟨ρ, M, env, A, E, P⟩ => by
    refine tA_mono (tA_seq (d := fun env => evL prog o env cs) A E P) fun xs H1 ⟨vs, M1, ρ1, A1, E1, x1, r1, P1⟩ => ?_
    obtain ⟨z, ez, q⟩ := Post.ofO (show Post S ρ1 H1 (ofO "builtin" (biO prog b vs M1) M1) _ _ from P1)
    exact ⟨ρ1, M1, vs, z, A1, r1, ez, fun ρ' H' x x2 A2 r2 => q ρ' H' x2 A2 x r2⟩
theorem repL1 {a : PV} {vs : List V} (r : RepL S H ρ [a] vs) : ∃ x, vs = [x] ∧ Rep S H ρ a x := by
  obtain ⟨x, ws, rfl, r1, r2⟩ := r
  cases r2
  exact ⟨x, rfl, r1⟩
theorem RepD.len : ∀ {xs : List (PV × PV)} {vs : List (Key × V)}, RepD S H ρ xs vs → xs.length = vs.length
  | [], _, h => by subst h; rfl
  | (_, _) :: xs, _, ⟨q, v, ws, e, _, _, t⟩ => by subst e; simp [RepD.len t]
theorem cr_one {f : Value} {b : BI} {r : List V → Hp → VK → Prop} (hc : CallR X f r) {g : Sto → PV → Option PV} (h0 : ∀ ps M, biO prog b ps M = one (g M) ps)
    (h1 : ∀ {H ρ M a x z Q}, Abs S H ρ M → Rep S H ρ a x → g M a = some z → (∀ ρ' H' x, Ext ρ H ρ' H' → Abs S H' ρ' M → Rep S H' ρ' z x → Q x H') → r [x] H Q) : CallR X f (rB S prog b) := by
  refine CallR.imp hc fun xs H Q ⟨ρ, M, ps, z, A, rl, e, q⟩ => ?_
  rw [h0] at e
  unfold one at e
  split at e
  · obtain ⟨x, rfl, r1⟩ := repL1 rl
    exact h1 A r1 e q
  · cases e
theorem cr_lenV (hK : X.K = S.K) : CallR X (.builtin "len") (rB S prog .len) := by
  refine cr_one (CallR.or call_len_seq (CallR.or call_len_str call_lenD)) (fun _ _ => rfl) fun {H ρ M a x z Q} A r e q => ?_
  rw [hK]
  unfold noOwn at e
  split at e
  · cases e
  · generalize ea : derefW M a = w at e
    cases w with
    | str s =>
      have e : (match Nat.ble s.length cap with
        | true => some (PV.int s.length)
        | false => none) = some z := e
      split at e
      · rename_i hb
        cases e
        refine .inr (.inl ⟨sv s, by rw [w_str r ea], by rw [sv_len]; exact capB hb, ?_⟩)
        rw [sv_len]
        exact q ρ H _ Ext.refl A rfl
      · cases e
    | tup xs =>
      cases e
      obtain ⟨p, vs, rfl, t, rl⟩ := w_tup r ea
      refine .inl ⟨p, vs, rfl, .inr t.sq, ?_⟩
      rw [← rl.len]
      exact q ρ H _ Ext.refl A rfl
    | lst xs =>
      cases e
      obtain ⟨p, vs, rfl, t, rl⟩ := w_lst A r ea
      refine .inl ⟨p, vs, rfl, .inl (.inl (.inl t)), ?_⟩
      rw [← rl.len]
      exact q ρ H _ Ext.refl A rfl
    | dic xs =>
      cases e
      obtain ⟨p, vs, rfl, t, rl⟩ := w_dic A r ea
      refine .inr (.inr ⟨p, vs, rfl, t, ?_⟩)
      rw [← rl.len]
      exact q ρ H _ Ext.refl A rfl
    | _ => cases e
theorem bools_of : ∀ {xs : List PV} {bs : List Bool} {vs : List V}, bools xs = some bs → RepL S H ρ xs vs → vs = bs.map V.bl
  | [], _, _, h, r => by cases h; subst r; rfl
  | .bl i :: xs, ns, vs, h, r => by
    obtain ⟨ms, e, rfl⟩ := Option.map_eq_some_iff.mp (show (bools xs).map (i :: ·) = some ns from h)
    obtain ⟨v, ws, rfl, r1, r2⟩ := r
    rw [bools_of e r2, show v = V.bl i from r1]
    rfl
  | .non :: _, _, _, h, _ | .int _ :: _, _, _, h, _ | .str _ :: _, _, _, h, _ | .tup _ :: _, _, _, h, _ | .lst _ :: _, _, _, h, _ | .dic _ :: _, _, _, h, _ | .loc _ :: _, _, _, h, _ | .fn _ :: _, _, _, h, _ | .cls _ :: _, _, _, h, _ | .clo _ _ :: _, _, _, h, _ | .exo _ _ :: _, _, _, h, _ => by cases h
theorem listOf_some {w : PV} {xs : List PV} (h : listOf w = some xs) : w = .lst xs := by
  cases w <;> first
    | (cases h; done)
    | (cases h; rfl)
theorem cr_allV (hK : X.K = S.K) (hc : X.calm = true) : CallR X (.builtin "all") (rB S prog .all) := by
  refine cr_one (cr_all hc) (fun _ _ => rfl) fun {H ρ M a x z Q} A r e q => ?_
  obtain ⟨xs, e1, e⟩ := Option.bind_eq_some_iff.mp e
  obtain ⟨c, ec, rfl⟩ := Option.map_eq_some_iff.mp e
  obtain ⟨bs, eb, rfl⟩ := Option.map_eq_some_iff.mp ec
  obtain ⟨p, vs, rfl, t, rl⟩ := d_lst A r (listOf_some e1)
  rw [bools_of eb rl] at t
  exact ⟨p, bs, rfl, by rw [hK]; exact t, q ρ H _ Ext.refl A rfl⟩
theorem cr_anyV (hK : X.K = S.K) (hc : X.calm = true) : CallR X (.builtin "any") (rB S prog .any) := by
  refine cr_one (cr_any hc) (fun _ _ => rfl) fun {H ρ M a x z Q} A r e q => ?_
  obtain ⟨xs, e1, e⟩ := Option.bind_eq_some_iff.mp e
  obtain ⟨c, ec, rfl⟩ := Option.map_eq_some_iff.mp e
  obtain ⟨bs, eb, rfl⟩ := Option.map_eq_some_iff.mp ec
  obtain ⟨p, vs, rfl, t, rl⟩ := d_lst A r (listOf_some e1)
  rw [bools_of eb rl] at t
  exact ⟨p, bs, rfl, by rw [hK]; exact t, q ρ H _ Ext.refl A rfl⟩
theorem cr_two {f : Value} {b : BI} {g : Int → Int → Int} (hc : CallR X f fun xs H Q => ∃ i j, xs = [.int i, .int j] ∧ Q (.int (g i j)) H) (hb : ∀ ps M, biO prog b ps M = int2 g ps) : CallR X f (rB S prog b) := by
  refine CallR.imp hc fun xs H Q ⟨ρ, M, ps, z, A, rl, e, q⟩ => ?_
  rw [hb] at e
  unfold int2 at e
  split at e
  · cases e
    obtain ⟨x, ws, rfl, r1, r2⟩ := rl
    obtain ⟨y, rfl, r3⟩ := repL1 r2
    exact ⟨_, _, by rw [show x = .int _ from r1, show y = .int _ from r3], q ρ H _ Ext.refl A rfl⟩
  · cases e
theorem cr_max2V (hc : X.calm = true) : CallR X (.builtin "max") (rB S prog .max2) := cr_two (call_max2 hc) fun _ _ => rfl
theorem cr_min2V (hc : X.calm = true) : CallR X (.builtin "min") (rB S prog .min2) := cr_two (call_min2 hc) fun _ _ => rfl
end
end Pf
end
section
set_option Elab.async false
set_option linter.all false
set_option maxRecDepth 100000
set_option maxHeartbeats 4000000
namespace Pf
open PySem PySem.Spec PyProof.Rows L2
section
variable {S : Sta} {Wx : WP} {X : Cx} {α : Type} {prog : Prog} {o : Orc} {H : Hp} {ρ : List Addr} {M : Sto} {v : PV} {x : V}
def rBN (S : Sta) (prog : Prog) (b : BI) : List V → Hp → VK → Prop := fun vs H Q => ∃ ρ M ps zs, Abs S H ρ M ∧ RepL S H ρ ps vs ∧ biO prog b ps M = some (.lst zs) ∧ ∀ ws p, RepL S H ρ zs ws → H p = none → Q (.ref p) (upd H p (.lst ws))
def mkB : BI → Bool
  | .list => true
  | .sorted => true
  | _ => false
theorem seqOf_some {w : PV} {xs : List PV} (h : seqOf w = some xs) : w = .tup xs ∨ w = .lst xs := by
  cases w <;> first
    | (cases h; done)
    | (cases h; exact .inl rfl)
    | (cases h; exact .inr rfl)
theorem rB_of {b : BI} {vs : List V} {Q : VK} (hm : ∀ ps M z, biO prog b ps M = some z → ∃ zs, z = .lst zs) (h : rB S prog b vs H Q) : rBN S prog b vs H Q := by
  obtain ⟨ρ, M, ps, z, A, r, e, q⟩ := h
  obtain ⟨zs, rfl⟩ := hm _ _ _ e
  exact ⟨ρ, M, ps, zs, A, r, e, fun ws p rw' hp => q ρ _ _ (ext_new hp) (abs_new A hp) (rep_lst A hp rw')⟩
theorem s_mkbi {b : BI} {e e0 : PySem.Expr} {es : List PySem.Expr} {cs : CL} {f : Value} (hc : CallR X f (rBN S prog b)) (hp : ∀ {r : List V → Hp → VK → Prop} {t : TA}, CallR X f r → PA X (e :: es) t → PE X e0 (tCB r t))
    (hm : ∀ ps M z, biO prog b ps M = some z → ∃ zs, z = .lst zs) (h : PA X (e :: es) (tA S Wx fun env => evL prog o env cs)) : PE X e0 (tE S Wx fun env => evE prog o env (.mk (.bi b cs))) :=
  PE.imp (hp hc h) fun σ H Q ⟨ρ, M, env, A, E, P⟩ => by
    have e : evE prog o env (.mk (.bi b cs)) M = (evL prog o env cs M).bind fun xs M => (biR prog b xs M).bind mkR := by
      show ((evL prog o env cs M).bind fun xs M => biR prog b xs M).bind mkR = _
      cases evL prog o env cs M <;> rfl
    replace P : Post S ρ H (evE prog o env (.mk (.bi b cs)) M) _ _ := P
    rw [e] at P
    refine tA_mono (tA_seq (d := fun env => evL prog o env cs) A E P) fun xs H1 ⟨vs, M1, ρ1, A1, E1, x1, r1, P1⟩ => ?_
    obtain ⟨z, ez, q⟩ := Post.ofO (show Post S ρ1 H1 (ofO "builtin" (biO prog b vs M1) M1) _ _ from P1.bind)
    obtain ⟨zs, rfl⟩ := hm _ _ _ ez
    refine ⟨ρ1, M1, vs, zs, A1, r1, ez, fun ws p rw' hp => ?_⟩
    exact (q ρ1 H1 Ext.refl A1) _ _ (ext_loc hp) (abs_loc A1 hp (repH_lst hp rw')) _ (rep_loc A1)
theorem s_bin {b : BI} {e e0 : PySem.Expr} {es : List PySem.Expr} {cs : CL} {f : Value} (hc : CallR X f (rBN S prog b)) (hp : ∀ {r : List V → Hp → VK → Prop} {t : TA}, CallR X f r → PA X (e :: es) t → PE X e0 (tCB r t))
    (hm : ∀ ps M z, biO prog b ps M = some z → ∃ zs, z = .lst zs) (h : PA X (e :: es) (tA S Wx fun env => evL prog o env cs)) : PE X e0 (tE S Wx fun env => evE prog o env (.bi b cs)) :=
  s_bi (CallR.imp hc fun vs H Q h => rB_of hm h) hp h
theorem m_list (ps : List PV) (M : Sto) (z : PV) (h : biO prog .list ps M = some z) : ∃ zs, z = .lst zs := by
  unfold biO at h
  simp only at h
  unfold one at h
  split at h
  · obtain ⟨xs, _, rfl⟩ := Option.map_eq_some_iff.mp h
    exact ⟨_, rfl⟩
  · cases h
theorem m_sorted (ps : List PV) (M : Sto) (z : PV) (h : biO prog .sorted ps M = some z) : ∃ zs, z = .lst zs := by
  unfold biO at h
  simp only at h
  unfold one at h
  split at h
  · obtain ⟨xs, _, rfl⟩ := Option.map_eq_some_iff.mp h
    exact ⟨_, rfl⟩
  · cases h
theorem cr_oneN {f : Value} {b : BI} {r : List V → Hp → VK → Prop} (hc : CallR X f r) {g : Sto → PV → Option PV} (h0 : ∀ ps M, biO prog b ps M = one (g M) ps)
    (h1 : ∀ {H ρ M a x zs Q}, Abs S H ρ M → Rep S H ρ a x → g M a = some (.lst zs) → (∀ ws p, RepL S H ρ zs ws → H p = none → Q (.ref p) (upd H p (.lst ws))) → r [x] H Q) : CallR X f (rBN S prog b) := by
  refine CallR.imp hc fun xs H Q ⟨ρ, M, ps, z, A, rl, e, q⟩ => ?_
  rw [h0] at e
  unfold one at e
  split at e
  · obtain ⟨x, rfl, r1⟩ := repL1 rl
    exact h1 A r1 e q
  · cases e
theorem cr_listV (hK : X.K = S.K) : CallR X (.type "list") (rBN S prog .list) := by
  refine cr_oneN call_list_of (fun _ _ => rfl) fun {H ρ M a x zs Q} A r1 e q => ?_
  obtain ⟨ys, e1, e2⟩ := Option.map_eq_some_iff.mp e
  cases e2
  rw [hK]
  rcases seqOf_some e1 with e1 | e1
  · obtain ⟨p, vs, rfl, t, r⟩ := d_tup r1 e1
    exact ⟨p, vs, rfl, .inr t, fun l hl => q vs l r hl⟩
  · obtain ⟨p, vs, rfl, t, r⟩ := d_lst A r1 e1
    exact ⟨p, vs, rfl, .inl t, fun l hl => q vs l r hl⟩
theorem cr_tupleV (hK : X.K = S.K) : CallR X (.type "tuple") (rB S prog .tuple) := by
  refine cr_one call_tuple_of (fun _ _ => rfl) fun {H ρ M a x z Q} A r1 e q => ?_
  obtain ⟨ys, e1, e2⟩ := Option.map_eq_some_iff.mp e
  cases e2
  rw [hK]
  rcases seqOf_some e1 with e1 | e1
  · obtain ⟨p, vs, rfl, t, r⟩ := d_tup r1 e1
    refine ⟨p, vs, rfl, .inr ⟨t, ?_⟩⟩
    have ea' : a = .tup ys := by
      rcases deref_loc e1 (fun _ z => by cases z) with h | ⟨n, _, ⟨_, h, _⟩ | ⟨_, h, _⟩⟩
      · exact h
      · cases h
      · cases h
    subst ea'
    exact q ρ H _ Ext.refl A r1
  · obtain ⟨p, vs, rfl, t, r⟩ := d_lst A r1 e1
    exact ⟨p, vs, rfl, .inl ⟨t, fun l hl => q ρ _ _ (ext_new hl) (abs_new A hl) (rep_tup A hl r)⟩⟩
theorem insR_perm {β : Type} (lt : β → β → Bool) (x : β) : ∀ l : List β, (insR lt x l).Perm (x :: l)
  | [] => List.Perm.refl _
  | y :: ys => by
    show (match lt x y with
      | true => x :: y :: ys
      | false => y :: insR lt x ys).Perm _
    split
    · exact List.Perm.refl _
    · exact (List.Perm.cons y (insR_perm lt x ys)).trans (List.Perm.swap x y ys)
theorem sortR_perm {β : Type} (lt : β → β → Bool) : ∀ l : List β, (sortR lt l).Perm l
  | [] => List.Perm.refl _
  | x :: xs => (insR_perm lt x _).trans (List.Perm.cons x (sortR_perm lt xs))
def Rises {β : Type} (lt : β → β → Bool) (l : List β) : Prop := l.Pairwise fun x y => lt y x = false
theorem insR_rises {β : Type} {lt : β → β → Bool} (as : ∀ x y, lt x y = true → lt y x = false) (tr : ∀ x y z, lt y x = false → lt z y = false → lt z x = false) (x : β) : ∀ {l : List β}, Rises lt l → Rises lt (insR lt x l)
  | [], _ => List.pairwise_singleton _ _
  | y :: ys, h => by
    have h1 := List.pairwise_cons.mp h
    show Rises lt (match lt x y with
      | true => x :: y :: ys
      | false => y :: insR lt x ys)
    split
    · rename_i e
      refine List.pairwise_cons.mpr ⟨fun z hz => ?_, h⟩
      rcases List.mem_cons.mp hz with rfl | hz
      · exact as _ _ e
      · exact tr x y z (as _ _ e) (h1.1 z hz)
    · rename_i e
      refine List.pairwise_cons.mpr ⟨fun z hz => ?_, insR_rises as tr x h1.2⟩
      rcases List.mem_cons.mp ((insR_perm lt x ys).mem_iff.mp hz) with rfl | hz
      · exact e
      · exact h1.1 z hz
theorem sortR_rises {β : Type} {lt : β → β → Bool} (as : ∀ x y, lt x y = true → lt y x = false) (tr : ∀ x y z, lt y x = false → lt z y = false → lt z x = false) : ∀ l : List β, Rises lt (sortR lt l)
  | [] => List.Pairwise.nil
  | x :: xs => insR_rises as tr x (sortR_rises as tr xs)
theorem rises_eq {β : Type} {lt : β → β → Bool} (eq : ∀ x y, lt x y = false → lt y x = false → x = y) {l m : List β} (p : l.Perm m) (h : Rises lt l) (k : Rises lt m) : l = m :=
  p.eq_of_pairwise (fun x y _ _ a b => eq x y b a) h k
theorem ltII_lex (p q : Int × Int) : SrtO.lexB p q = ltII p q := by
  unfold SrtO.lexB ltII
  split <;> rename_i h
  · rw [decide_eq_true h]
  · rw [decide_eq_false h]
theorem ltI_as (x y : Int) (h : ltI x y = true) : ltI y x = false := by
  unfold ltI at *
  simp at *; omega
theorem ltI_tr (x y z : Int) (h : ltI y x = false) (k : ltI z y = false) : ltI z x = false := by
  unfold ltI at *
  simp at *; omega
theorem ltII_iff (p q : Int × Int) : ltII p q = true ↔ p.1 < q.1 ∨ (p.1 = q.1 ∧ p.2 < q.2) := by
  unfold ltII
  split <;> rename_i h
  · have := of_decide_eq_true h; simp; omega
  · have := of_decide_eq_false h; simp; omega
theorem ltII_iff' (p q : Int × Int) : ltII p q = false ↔ ¬ (p.1 < q.1 ∨ (p.1 = q.1 ∧ p.2 < q.2)) := by
  rw [← ltII_iff, Bool.not_eq_true]
theorem ltII_as (x y : Int × Int) (h : ltII x y = true) : ltII y x = false := by
  rw [ltII_iff] at h; rw [ltII_iff']; omega
theorem ltII_tr (x y z : Int × Int) (h : ltII y x = false) (k : ltII z y = false) : ltII z x = false := by
  rw [ltII_iff'] at *; omega
theorem ltII_eq (x y : Int × Int) (h : ltII x y = false) (k : ltII y x = false) : x = y := by
  rw [ltII_iff'] at *
  exact Prod.ext (by omega) (by omega)
theorem repL_ints : ∀ (ns : List Int), RepL S H ρ (ns.map PV.int) (ns.map V.int)
  | [] => rfl
  | n :: ns => ⟨_, _, rfl, rfl, repL_ints ns⟩
theorem ints_map : ∀ {xs : List PV} {ns : List Int}, intsOf xs = some ns → xs = ns.map PV.int
  | [], _, h => by cases h; rfl
  | .int i :: xs, ns, h => by
    obtain ⟨ms, e, rfl⟩ := Option.map_eq_some_iff.mp (show (intsOf xs).map (i :: ·) = some ns from h)
    rw [ints_map e]; rfl
  | .non :: _, _, h | .bl _ :: _, _, h | .str _ :: _, _, h | .tup _ :: _, _, h | .lst _ :: _, _, h | .dic _ :: _, _, h | .loc _ :: _, _, h | .fn _ :: _, _, h | .cls _ :: _, _, h | .clo _ _ :: _, _, h | .exo _ _ :: _, _, h => by cases h
def pvII (p : Int × Int) : PV := .tup [.int p.1, .int p.2]
def unII : PV → Int × Int
  | .tup [.int i, .int j] => (i, j)
  | _ => (0, 0)
theorem pairs_map : ∀ {xs : List PV} {ps : List (Int × Int)}, pairsOf xs = some ps → xs = ps.map pvII
  | [], _, h => by cases h; rfl
  | x :: xs, ps, h => by
    unfold pairsOf at h
    split at h
    · cases ‹_ :: _ = []›
    · rename_i i j r e
      cases e
      obtain ⟨qs, e2, rfl⟩ := Option.map_eq_some_iff.mp h
      rw [pairs_map e2]; rfl
    · cases h
theorem repL_perm {ys vs : List V} (p : ys.Perm vs) : ∀ {xs : List PV}, RepL S H ρ xs vs → ∃ zs : List PV, zs.Perm xs ∧ RepL S H ρ zs ys := by
  induction p with
  | nil => exact fun {xs} r => ⟨xs, List.Perm.refl _, r⟩
  | cons a p ih =>
    intro xs r
    cases xs with
    | nil => cases r
    | cons x xs =>
      obtain ⟨v, ws, e, r1, r2⟩ := r
      cases e
      obtain ⟨zs, p2, r3⟩ := ih r2
      exact ⟨x :: zs, List.Perm.cons x p2, _, _, rfl, r1, r3⟩
  | swap a b l =>
    intro xs r
    cases xs with
    | nil => cases r
    | cons x xs =>
      obtain ⟨v, ws, e, r1, r2⟩ := r
      cases e
      cases xs with
      | nil => cases r2
      | cons y xs =>
        obtain ⟨v, ws, e, r3, r4⟩ := r2
        cases e
        exact ⟨y :: x :: xs, List.Perm.swap x y xs, _, _, rfl, r3, _, _, rfl, r1, r4⟩
  | trans p1 p2 ih1 ih2 =>
    intro xs r
    obtain ⟨zs, q1, r1⟩ := ih2 r
    obtain ⟨us, q2, r2⟩ := ih1 r1
    exact ⟨us, q2.trans q1, r2⟩
theorem tupI_of {p : Int × Int} {v : V} (r : Rep S H ρ (pvII p) v) : TupI S.K H v [p.1, p.2] := by
  obtain ⟨a, vs, rfl, t, x, ws, rfl, r1, y, us, rfl, r2, r3⟩ := r
  cases r3
  cases r1
  cases r2
  exact ⟨a, rfl, t.sq⟩
theorem repL_tupI : ∀ {ps : List (Int × Int)} {vs : List V}, RepL S H ρ (ps.map pvII) vs → ∀ x ∈ vs, ∃ p ∈ ps, TupI S.K H x [p.1, p.2]
  | [], vs, r, x, hx => by cases r; cases hx
  | p :: ps, vs, ⟨v, ws, e, r1, r2⟩, x, hx => by
    subst e
    rcases List.mem_cons.mp hx with rfl | hx
    · exact ⟨p, List.mem_cons_self, tupI_of r1⟩
    · obtain ⟨q, hq, h⟩ := repL_tupI r2 x hx
      exact ⟨q, List.mem_cons_of_mem _ hq, h⟩
theorem code2 {i j k l : Int} (hi : 0 ≤ i) (hj : 0 ≤ j ∧ j < 4611686018427387904) (hk : 0 ≤ k) (hl : 0 ≤ l ∧ l < 4611686018427387904) (h : TS.code 4611686018427387904 [i, j] ≤ TS.code 4611686018427387904 [k, l]) : ltII (k, l) (i, j) = false := by
  rw [ltII_iff']
  simp [TS.code] at h
  simp
  omega
theorem rises_of : ∀ {qs : List (Int × Int)} {ys : List V}, (∀ p ∈ qs, inB p = true) → RepL S H ρ (qs.map pvII) ys →
    List.Pairwise (fun x y => ∀ (n m : List Int), TupI S.K H x n → TupI S.K H y m → TS.code 4611686018427387904 n ≤ TS.code 4611686018427387904 m) ys → Rises ltII qs
  | [], _, _, _, _ => List.Pairwise.nil
  | q :: qs, ys, hb, ⟨v, ws, e, r1, r2⟩, h => by
    subst e
    have h := List.pairwise_cons.mp h
    have bd : ∀ p ∈ q :: qs, (0 ≤ p.1 ∧ p.1 < 4611686018427387904) ∧ (0 ≤ p.2 ∧ p.2 < 4611686018427387904) := by
      intro p hp
      have := hb p hp
      unfold inB at this
      simpa using this
    refine List.pairwise_cons.mpr ⟨fun z hz => ?_, rises_of (fun p hp => hb p (List.mem_cons_of_mem _ hp)) r2 h.2⟩
    have : ∃ w ∈ ws, TupI S.K H w [z.1, z.2] := by
      have gen : ∀ {qs : List (Int × Int)} {ws : List V}, RepL S H ρ (qs.map pvII) ws → ∀ z ∈ qs, ∃ w ∈ ws, TupI S.K H w [z.1, z.2] := by
        intro qs
        induction qs with
        | nil => intro ws r z hz; cases hz
        | cons p ps ih =>
          intro ws r z hz
          obtain ⟨v, us, e, r1, r2⟩ := r
          subst e
          rcases List.mem_cons.mp hz with rfl | hz
          · exact ⟨v, List.mem_cons_self, tupI_of r1⟩
          · obtain ⟨w, hw, h⟩ := ih r2 z hz
            exact ⟨w, List.mem_cons_of_mem _ hw, h⟩
      exact gen r2 z hz
    obtain ⟨w, hw, hw2⟩ := this
    have c := h.1 w hw _ _ (tupI_of r1) hw2
    have b1 := bd q List.mem_cons_self
    have b2 := bd z (List.mem_cons_of_mem _ hz)
    exact code2 b1.1.1 b1.2 b2.1.1 b2.2 c
theorem cr_sortedV (hK : X.K = S.K) : CallR X (.builtin "sorted") (rBN S prog .sorted) := by
  refine cr_oneN (CallR.or cr_sortedI (cr_sortT (d := 2) (B := 4611686018427387904) (by decide))) (fun _ _ => rfl) fun {H ρ M a x zs Q} A r1 e q => ?_
  obtain ⟨ys, e1, e2⟩ := Option.map_eq_some_iff.mp e
  cases e2
  obtain ⟨xs, e3, e4⟩ := Option.bind_eq_some_iff.mp e1
  obtain ⟨p, vs, rfl, t, rl⟩ := d_lst A r1 (listOf_some e3)
  rw [hK]
  unfold sortV at e4
  split at e4
  · rename_i ns en
    cases e4
    rw [ints_of en rl] at t
    refine .inl ⟨p, ns, rfl, t, fun ns' p' hp hs hn => q _ _ ?_ hn⟩
    have : ns' = sortR ltI ns := by
      refine rises_eq (lt := ltI) (fun x y a b => ?_) (hp.trans (sortR_perm ltI ns).symm) (hs.imp fun {a b} h => ?_) (sortR_rises ltI_as ltI_tr ns)
      · unfold ltI at *; simp at *; omega
      · unfold ltI; simp; omega
    rw [this]
    exact repL_ints _
  · split at e4
    · rename_i ps ep
      split at e4
      · rename_i hb
        cases e4
        rw [Bool.and_eq_true] at hb
        have h64 : xs.length < 64 := Nat.le_of_ble_eq_true hb.1
        have hB := List.all_eq_true.mp hb.2
        rw [pairs_map ep] at rl
        refine .inr ⟨p, vs, rfl, t, by rw [← rl.len, List.length_map, ← List.length_map (f := pvII), ← pairs_map ep]; exact h64, fun x hx => ?_, fun us p' hp hs hn => q _ _ ?_ hn⟩
        · obtain ⟨pr, hpr, hT⟩ := repL_tupI rl x hx
          refine ⟨_, hT, rfl, fun m hm => ?_⟩
          have := hB pr hpr
          unfold inB at this
          simp at this hm
          rcases hm with rfl | rfl
          · exact this.1
          · exact this.2
        · obtain ⟨zs, pz, rz⟩ := repL_perm hp rl
          obtain ⟨qs, pq, rfl⟩ : ∃ qs : List (Int × Int), qs.Perm ps ∧ zs = qs.map pvII := by
            have e0 : ∀ l : List (Int × Int), (l.map pvII).map unII = l := by
              intro l
              rw [List.map_map]
              exact List.map_id'' (fun p => rfl) l
            refine ⟨zs.map unII, by have := pz.map unII; rw [e0] at this; exact this, ?_⟩
            rw [List.map_map]
            have : ∀ z ∈ zs, (pvII ∘ unII) z = z := by
              intro z hz
              obtain ⟨p, _, rfl⟩ := List.mem_map.mp (pz.mem_iff.mp hz)
              rfl
            exact ((List.map_congr_left this).trans (List.map_id'' (fun _ => rfl) zs)).symm
          have hr := rises_of (fun p hp => hB p (pq.mem_iff.mp hp)) rz hs
          have : qs = sortR ltII ps := rises_eq ltII_eq (pq.trans (sortR_perm ltII ps).symm) hr (sortR_rises ltII_as ltII_tr ps)
          rw [← this]
          exact rz
      · cases e4
    · cases e4
end
end Pf
end
section
set_option Elab.async false
set_option linter.all false
set_option maxRecDepth 100000
set_option maxHeartbeats 4000000
namespace Pf
open PySem PySem.Spec PyProof.Rows L2
section
variable {S : Sta} {Wx : WP} {X : Cx} {α : Type} {prog : Prog} {o : Orc} {H : Hp} {ρ : List Addr} {M : Sto} {v : PV} {x : V}
def tyS : Nat → String
  | 0 => "NoneType" | 1 => "bool" | 2 => "int" | 3 => "str" | 4 => "tuple" | 5 => "list" | _ => "dict"
def vtV (S : Sta) : VT → Value
  | .b n => .type (tyS n)
  | .c n => .ref (S.cA n)
def tyT : Ty → String
  | .int => "int" | .bool => "bool" | .str => "str" | .tuple => "tuple" | .list => "list" | .dict => "dict" | .own _ => ""
def vtOk (S : Sta) : VT → Prop
  | .b n => n ≤ 6
  | .c c => S.own c = true
theorem tyN_rep (hc : ClsOk S prog) (A : Abs S H ρ M) (r : Rep S H ρ v x) {t : VT} (h : tyN M v = some t) : TyX S.K H x (vtV S t) ∧ vtOk S t := by
  cases v with
  | non => cases h; rw [show x = .non from r]; exact ⟨.base .non, by show (_ : Nat) ≤ 6; decide⟩
  | bl b => cases h; rw [show x = .bl b from r]; exact ⟨.base (.bl b), by show (_ : Nat) ≤ 6; decide⟩
  | int b => cases h; rw [show x = .int b from r]; exact ⟨.base (.int b), by show (_ : Nat) ≤ 6; decide⟩
  | str b => cases h; rw [show x = .str _ from r]; exact ⟨.base (.str _), by show (_ : Nat) ≤ 6; decide⟩
  | tup xs =>
    cases h
    obtain ⟨a, vs, rfl, t, _⟩ := r
    rcases t with t | ⟨ob, its, n, h1, h2, _⟩
    · exact ⟨.base (.tup t.1), by show (_ : Nat) ≤ 6; decide⟩
    · exact ⟨.kTuple h1 h2, by show (_ : Nat) ≤ 6; decide⟩
  | lst xs =>
    cases h
    obtain ⟨a, vs, rfl, t, _⟩ := r
    exact ⟨.base (.lst t.1), by show (_ : Nat) ≤ 6; decide⟩
  | dic xs =>
    cases h
    obtain ⟨a, vs, rfl, t, _⟩ := r
    exact ⟨.base (.dK t.1), by show (_ : Nat) ≤ 6; decide⟩
  | loc n =>
    have h : (match M[n]? with
      | some (.ins c _) => some (VT.c c)
      | some (.lst _) => some (.b 5)
      | some (.dic _) => some (.b 6)
      | some (.frz (.dic _)) => some (.b 6)
      | _ => none) = some t := h
    obtain ⟨a, rfl, ha⟩ := r
    split at h
    · rename_i c fs e
      cases h
      obtain ⟨b, u, hb, ho, dx, vs, rfl, ow, rf⟩ := A.get e
      rw [ha] at hb; cases hb
      exact ⟨.base (.ins ho (hc.cl c ow) (hc.c1 c ow) hc.c2 hc.c3 (hc.c4 c ow)), ow⟩
    · rename_i xs e
      cases h
      obtain ⟨b, u, hb, ho, vs, rfl, _⟩ := A.get e
      rw [ha] at hb; cases hb
      exact ⟨.base (.lst ho), by show (_ : Nat) ≤ 6; decide⟩
    · rename_i xs e
      cases h
      obtain ⟨b, u, hb, ho, vs, rfl, _⟩ := A.get e
      rw [ha] at hb; cases hb
      exact ⟨.base (.dK ho), by show (_ : Nat) ≤ 6; decide⟩
    · rename_i xs e
      cases h
      obtain ⟨b, u, hb, ho, ob, w, rfl, vs, rfl, _⟩ := A.get e
      rw [ha] at hb; cases hb
      exact ⟨.fDict ho, by show (_ : Nat) ≤ 6; decide⟩
    · cases h
  | _ => cases h
theorem kit_tyB {n : Nat} (h : n ≤ 6) (t : Ty) (ht : ∀ c, t ≠ .own c) (K : W.Frag) : W.kitOne K (.type (tyS n)) (.type (tyT t)) = some (tyB n t) := by
  have hn : n = 0 ∨ n = 1 ∨ n = 2 ∨ n = 3 ∨ n = 4 ∨ n = 5 ∨ n = 6 := by omega
  cases t with
  | own c => exact absurd rfl (ht c)
  | _ => rcases hn with rfl | rfl | rfl | rfl | rfl | rfl | rfl <;> exact kit_ty (by decide +kernel)
theorem s_isi (hK : X.K = S.K) (hc : ClsOk S prog) {e te e0 : PySem.Expr} {c : CE} {t : Ty} {w : V} {u : Value} (hp : ∀ {r : List V → Hp → VK → Prop} {t : TA}, CallR X (.builtin "isinstance") r → PA X [e, te] t → PE X e0 (tCB r t))
    (h : PE X e (tE S Wx fun env => evE prog o env c)) (hte : PE X te (tC w)) (hw : ClsV w u)
    (ht : (∃ d, t = .own d ∧ d < prog.cls.length ∧ u = .ref (S.cA d)) ∨ ((∀ d, t ≠ .own d) ∧ u = .type (tyT t)))
    (hs : starEach [e, te] X.env = (false, eval e X.env) :: starEach [te] X.env) (hs2 : starEach [te] X.env = (false, eval te X.env) :: starEach [] X.env) :
    PE X e0 (tE S Wx fun env => evE prog o env (.bi (.isinst t) (.cons c .nil))) :=
  PE.imp (hp call_isi (pa_cons h (pa_cons hte pa_nil hs2) hs)) fun σ H Q ⟨ρ, M, env, A, E, P⟩ => by
    have e1 : evE prog o env (.bi (.isinst t) (.cons c .nil)) M = (evE prog o env c M).bind fun v M => ofO "builtin" ((isTy prog M v t).map .bl) M := by
      show (((evE prog o env c M).bind fun x M => ((Rs.ok [] M).bind fun xs M => Rs.ok (x :: xs) M)).bind fun vs M => biR prog (.isinst t) vs M) = _
      cases evE prog o env c M <;> rfl
    replace P : Post S ρ H (evE prog o env (.bi (.isinst t) (.cons c .nil)) M) _ _ := P
    rw [e1] at P
    refine tE_mono (tE_seq (d := fun env => evE prog o env c) A E P) fun x H1 ⟨v, M1, ρ1, A1, E1, x1, r1, P1⟩ => ?_
    obtain ⟨z, ez, q⟩ := Post.ofO P1
    obtain ⟨b, eb, rfl⟩ := Option.map_eq_some_iff.mp ez
    have q : Q (.bl b) H1 := q ρ1 H1 Ext.refl A1 _ rfl
    show ∃ (x' c' : V) (t' u' : Value) (b' : Bool), [x, w] = [x', c'] ∧ ClsV c' u' ∧ TyX X.K H1 x' t' ∧ W.kitOne X.K t' u' = some b' ∧ Q (.bl b') H1
    rw [hK]
    unfold isTy at eb
    split at eb
    · cases eb
    · rename_i a ea
      cases eb
      obtain ⟨tx, hn⟩ := tyN_rep hc A1 r1 ea
      rcases ht with ⟨d, rfl, hd, rfl⟩ | ⟨ht, rfl⟩
      · refine ⟨x, w, _, _, _, rfl, hw, tx, hc.kB (tyS a) ?_ d hd, q⟩
        have hn : a = 0 ∨ a = 1 ∨ a = 2 ∨ a = 3 ∨ a = 4 ∨ a = 5 ∨ a = 6 := by have hn : a ≤ 6 := hn; omega
        rcases hn with rfl | rfl | rfl | rfl | rfl | rfl | rfl <;> decide
      · exact ⟨x, w, _, _, _, rfl, hw, tx, kit_tyB hn t ht _, q⟩
    · rename_i k ek
      obtain ⟨tx, hn⟩ := tyN_rep hc A1 r1 ek
      rcases ht with ⟨d, rfl, hd, rfl⟩ | ⟨ht, rfl⟩
      · obtain ⟨kc, e3, rfl⟩ := Option.map_eq_some_iff.mp (show (prog.cls[k]?).map (fun k => k.mro.any (Nat.beq d)) = some b from eb)
        exact ⟨x, w, _, _, _, rfl, hw, tx, hc.kO k hn d hd kc e3, q⟩
      · have hb : b = false ∧ tyT t ∈ ["int", "bool", "str", "tuple", "list", "dict"] := by
          cases t with
          | own c => exact absurd rfl (ht c)
          | _ => exact ⟨(Option.some.inj eb).symm, by decide⟩
        refine ⟨x, w, _, _, _, rfl, hw, tx, hc.kT k hn _ hb.2, ?_⟩
        rw [← hb.1]
        exact q
end
end Pf
end
section
set_option Elab.async false
set_option linter.all false
set_option maxRecDepth 100000
set_option maxHeartbeats 4000000
namespace Pf
open PySem PySem.Spec PyProof.Rows L2
section
variable {S : Sta} {Wx : WP} {X : Cx} {α : Type} {prog : Prog} {o : Orc} {H : Hp} {ρ : List Addr} {M : Sto} {v : PV} {x : V}
def CallOk (X : Cx) (S : Sta) (Wx : WP) (prog : Prog) (o : Orc) : Prop := ∀ (f : Nat) (pins : List (Addr × Obj)) (s : Shared) (σ : L2.St) (H : Hp) (Q : VK) (us ws : List Value) (vs zs : List V) (ks : List (List Nat)) (ρ : List Addr) (M : Sto) (ps : List PV),
  L2.Inv X pins σ H s → Vals vs us → Vals zs ws → zs.length = ks.length → Abs S H ρ M → RepL S H ρ ps (vs ++ zs) →
  Post S ρ H (callF prog o f ps ks M) (fun v _ ρ' H' => ∀ x, Rep S H' ρ' v x → Q x H') (Wx σ) → wpAny (model X.prog X.w) X.A (call (.ref (S.fA f)) us ((ks.map sv).zip ws)) (EP X pins σ Q) X.xe s
def NewOk (X : Cx) (S : Sta) (Wx : WP) (prog : Prog) (o : Orc) : Prop := ∀ (c : Nat) (pins : List (Addr × Obj)) (s : Shared) (σ : L2.St) (H : Hp) (Q : VK) (us ws : List Value) (vs zs : List V) (ks : List (List Nat)) (ρ : List Addr) (M : Sto) (ps : List PV),
  S.own c = true → L2.Inv X pins σ H s → Vals vs us → Vals zs ws → zs.length = ks.length → Abs S H ρ M → RepL S H ρ ps (vs ++ zs) →
  Post S ρ H (newR prog o c ps ks M) (fun v _ ρ' H' => ∀ x, Rep S H' ρ' v x → Q x H') (Wx σ) → wpAny (model X.prog X.w) X.A (call (.ref (S.cA c)) us ((ks.map sv).zip ws)) (EP X pins σ Q) X.xe s
def CL.app : CL → CL → CL
  | .nil, d => d
  | .cons e c, d => .cons e (c.app d)
theorem evL_app {env : Env} {d : CL} : ∀ {c : CL} {M : Sto}, evL prog o env (c.app d) M = (evL prog o env c M).bind fun xs M => (evL prog o env d M).bind fun ys M => .ok (xs ++ ys) M
  | .nil, M => by
    show evL prog o env d M = (evL prog o env d M).bind fun ys M => .ok ([] ++ ys) M
    cases evL prog o env d M <;> rfl
  | .cons e c, M => by
    show (evE prog o env e M).bind (fun x M => (evL prog o env (c.app d) M).bind fun xs M => Rs.ok (x :: xs) M) = ((evE prog o env e M).bind fun x M => (evL prog o env c M).bind fun xs M => Rs.ok (x :: xs) M).bind _
    cases evE prog o env e M with
    | ok x M1 =>
      show (evL prog o env (c.app d) M1).bind _ = ((evL prog o env c M1).bind _).bind _
      rw [evL_app]
      cases evL prog o env c M1 with
      | ok xs M2 =>
        show ((evL prog o env d M2).bind _).bind _ = (evL prog o env d M2).bind _
        cases evL prog o env d M2 <;> rfl
      | _ => rfl
    | _ => rfl
theorem PK.imp {kws : List Keyword} {t t' : TA} (h : L2.PK X kws t) (f : ∀ σ H Q, t' σ H Q → t σ H Q) : L2.PK X kws t' :=
  ⟨fun pos pins s σ H Q I q => h.run pos pins s σ H Q I (f σ H Q q)⟩
theorem s_knil : L2.PK X [] (tA S Wx fun env => evL prog o env .nil) :=
  PK.imp pk_nil fun σ H Q ⟨ρ, M, env, A, e, P⟩ => Post.now P A _ rfl
theorem s_kcons {e : PySem.Expr} {nm : Option Str} {kpos : Pos} {kws : List Keyword} {c : CE} {cs : CL} (h : PE X e (tE S Wx fun env => evE prog o env c)) (ht : L2.PK X kws (tA S Wx fun env => evL prog o env cs)) :
    L2.PK X (⟨nm, e, kpos⟩ :: kws) (tA S Wx fun env => evL prog o env (.cons c cs)) :=
  PK.imp (pk_cons h ht) fun σ H Q ⟨ρ, M, env, A, E, P⟩ => by
    refine tE_mono (tE_seq (d := fun env => evE prog o env c) A E P) fun x H1 ⟨v, M1, ρ1, A1, E1, x1, r1, P1⟩ => ?_
    refine tA_mono (tA_seq (d := fun env => evL prog o env cs) A1 E1 P1) fun xs H2 ⟨vs, M2, ρ2, A2, E2, x2, r2, P2⟩ => ?_
    exact P2.now A2 _ ⟨_, _, rfl, Rep.ext x2 v r1, r2⟩
def noStar : List PySem.Expr → Bool
  | [] => true
  | .Starred _ _ :: _ => false
  | _ :: r => noStar r
theorem noStar_cons {e : PySem.Expr} {es : List PySem.Expr} (h : noStar (e :: es) = true) : (∀ a p, e ≠ .Starred a p) ∧ noStar es = true := by
  cases e <;> first
    | (cases h; done)
    | exact ⟨fun _ _ z => (by cases z), h⟩
theorem star_of {env : PySem.Env} {e : PySem.Expr} {es : List PySem.Expr} (h : noStar (e :: es) = true) : starEach (e :: es) env = (false, eval e env) :: starEach es env :=
  starEach.eq_3 _ _ _ fun a p z => (noStar_cons h).1 a p z
theorem star_any {env : PySem.Env} {pos : Pos} : ∀ {es : List PySem.Expr}, noStar es = true → ((backTo pos (starEach es env)).any fun x => x.fst) = false
  | [], _ => rfl
  | e :: es, h => by
    rw [star_of h]
    show (false || (backTo pos (starEach es env)).any fun x => x.fst) = false
    rw [star_any (noStar_cons h).2]
    rfl
def kwNm : List Keyword → List (List Nat) → Prop
  | [], ks => ks = []
  | k :: r, ks => ∃ a t, k.arg = some (sv a) ∧ ks = a :: t ∧ kwNm r t
theorem kw_all {env : PySem.Env} {pos : Pos} : ∀ {kws : List Keyword} {ks : List (List Nat)}, kwNm kws ks → ((backToKw pos (keywordEach kws env)).all fun x => x.fst.isSome) = true ∧ ((backToKw pos (keywordEach kws env)).any fun x => x.fst.isNone) = false ∧
    (backToKw pos (keywordEach kws env)).filterMap (fun x => x.fst) = ks.map sv
  | [], _, h => by subst h; exact ⟨rfl, rfl, rfl⟩
  | ⟨arg, value, kpos⟩ :: r, _, ⟨a, t, e, h, hr⟩ => by
    subst h
    cases e
    obtain ⟨h1, h2, h3⟩ := kw_all (env := env) (pos := pos) hr
    rw [keywordEach.eq_2]
    refine ⟨?_, ?_, ?_⟩
    · show (true && (backToKw pos (keywordEach r env)).all fun x => x.fst.isSome) = true
      rw [h1]; rfl
    · show (false || (backToKw pos (keywordEach r env)).any fun x => x.fst.isNone) = false
      rw [h2]; rfl
    · show sv a :: (backToKw pos (keywordEach r env)).filterMap (fun x => x.fst) = _
      rw [h3]; rfl
def PosOk (X : Cx) (S : Sta) (Wx : WP) (prog : Prog) (o : Orc) (es : List PySem.Expr) (c : CL) : Prop := (es = [] ∧ c = .nil) ∨ ∃ e r, es = e :: r ∧ PA X es (tA S Wx fun env => evL prog o env c)
theorem run_args {f : Value} {first : List Value} {es : List PySem.Expr} {kws : List Keyword} {ks : List (List Nat)} {c1 c2 : CL} {pos : Pos} {pins : List (Addr × Obj)} {s : Shared} {σ : L2.St} {env : Env} {Q : VK} {k : List PV → Sto → Rs α}
    {okP : α → Sto → List Addr → Hp → Prop} (hf : W.keepIn X.K f = true) (hn : noStar es = true) (hk : kwNm kws ks) (hl : c2.len = ks.length)
    (hp : PosOk X S Wx prog o es c1) (hkw : L2.PK X kws (tA S Wx fun env => evL prog o env c2)) (I : L2.Inv X pins σ H s) (A : Abs S H ρ M) (E : RepE S H ρ env σ)
    (P : Post S ρ H ((evL prog o env (c1.app c2) M).bind k) okP (Wx σ))
    (fin : ∀ (us ws : List Value) (vs zs : List V) (ps : List PV) (s2 : Shared) (H2 : Hp) (ρ2 : List Addr) (M2 : Sto), L2.Inv X pins σ H2 s2 → Vals vs us → Vals zs ws → zs.length = ks.length → Ext ρ H ρ2 H2 → Abs S H2 ρ2 M2 → RepE S H2 ρ2 env σ → RepL S H2 ρ2 ps (vs ++ zs) →
      Post S ρ2 H2 (k ps M2) okP (Wx σ) → wpAny (model X.prog X.w) X.A (call f (first ++ us) ((ks.map sv).zip ws)) (EP X pins σ Q) X.xe s2) :
    wpAny (model X.prog X.w) X.A (callWith pos f first (backTo pos (starEach es X.env)) (backToKw pos (keywordEach kws X.env))) (EP X pins σ Q) X.xe s := by
  obtain ⟨h1, h2, h3⟩ := kw_all (env := X.env) (pos := pos) hk
  have e2 : (evL prog o env (c1.app c2) M).bind k = (evL prog o env c1 M).bind fun xs M => (evL prog o env c2 M).bind fun ys M => k (xs ++ ys) M := by
    rw [evL_app]
    cases evL prog o env c1 M with
    | ok xs M1 =>
      show ((evL prog o env c2 M1).bind _).bind k = (evL prog o env c2 M1).bind _
      cases evL prog o env c2 M1 <;> rfl
    | _ => rfl
  rw [e2] at P
  have kwr : ∀ (us : List Value) (vs : List V) (xs : List PV) (s1 : Shared) (H1 : Hp) (ρ1 : List Addr) (M1 : Sto), L2.Inv X pins σ H1 s1 → Vals vs us → Ext ρ H ρ1 H1 → Abs S H1 ρ1 M1 → RepE S H1 ρ1 env σ → RepL S H1 ρ1 xs vs →
      Post S ρ1 H1 ((evL prog o env c2 M1).bind fun ys M => k (xs ++ ys) M) okP (Wx σ) →
      wpAny (model X.prog X.w) X.A (evalAll (List.map (fun x => x.snd) (backToKw pos (keywordEach kws X.env)))) (fun zs s₂ => X.K.In s₂.heap ∧ wpAny (model X.prog X.w) X.A (call f (first ++ us) ((ks.map sv).zip zs)) (EP X pins σ Q) X.xe s₂) X.xe s1 := by
    intro us vs xs s1 H1 ρ1 M1 I1 rv x1 A1 E1 r1 P1
    refine thn (hkw.run pos pins s1 σ H1 _ I1 (tA_seqE (d := fun env => evL prog o env c2) A1 E1 P1)) fun ws s2 ⟨zs, H2, I2, rz, ys, M2, ρ2, eq, A2, E2, x2, r2, P2⟩ => ?_
    refine ⟨Inv.kIn I2, fin us ws vs zs (xs ++ ys) s2 H2 ρ2 M2 I2 rv rz ?_ (x1.trans x2) A2 E2 ((RepL.ext x2 xs r1).app r2) P2⟩
    rw [← r2.len, evL_len eq, hl]
  rcases hp with ⟨rfl, rfl⟩ | ⟨e, r, rfl, ha⟩
  · refine W.callWith_KW0 (Inv.kIn I) hf h1 ?_ (by rw [h2]; rfl)
    rw [h3]
    exact kwr [] [] [] s H ρ M I Paired.nil Ext.refl A E rfl P
  · refine W.callWith_KW (Inv.kIn I) hf h1 ?_ (by rw [star_any hn, h2]; rfl) (star_of hn)
    rw [h3]
    refine thn (ha.run pos pins s σ H _ I (tA_seq (d := fun env => evL prog o env c1) A E P)) fun us s1 ⟨vs, H1, I1, rv, xs, M1, ρ1, A1, E1, x1, r1, P1⟩ => ?_
    exact kwr us vs xs s1 H1 ρ1 M1 I1 rv x1 A1 E1 r1 P1
theorem s_call (hC : CallOk X S Wx prog o) {f : Nat} {x : Str} {es : List PySem.Expr} {kws : List Keyword} {ks : List (List Nat)} {c1 c2 : CL} {p pos : Pos} (hg : Gl X x) (hm : X.mg x = some (.ref (S.fA f))) (hf : W.keepIn X.K (.ref (S.fA f)) = true)
    (hn : noStar es = true) (hk : kwNm kws ks) (hl : c2.len = ks.length) (hp : PosOk X S Wx prog o es c1) (hkw : L2.PK X kws (tA S Wx fun env => evL prog o env c2)) (hd : (x == ("__debug__" : Str)) = false) :
    PE X (.Call (.Name x p) es kws pos) (tE S Wx fun env => evE prog o env (.call f (c1.app c2) ks)) :=
  ⟨fun pins s σ H Q I ⟨ρ, M, env, A, E, P⟩ => wpAny_Call_Name_kw (ld_glob I hg hm (run_args (k := fun vs M => callF prog o f vs ks M) hf hn hk hl hp hkw I A E P
    fun us ws vs zs ps s2 H2 ρ2 M2 I2 rv rz lz x2 A2 E2 r2 P2 => hC f pins s2 σ H2 Q us ws vs zs ks ρ2 M2 ps I2 rv rz lz A2 r2 P2) hd)⟩
theorem s_new (hN : NewOk X S Wx prog o) {f : Nat} {x : Str} {es : List PySem.Expr} {kws : List Keyword} {ks : List (List Nat)} {c1 c2 : CL} {p pos : Pos} (ow : S.own f = true) (hg : Gl X x) (hm : X.mg x = some (.ref (S.cA f))) (hf : W.keepIn X.K (.ref (S.cA f)) = true)
    (hn : noStar es = true) (hk : kwNm kws ks) (hl : c2.len = ks.length) (hp : PosOk X S Wx prog o es c1) (hkw : L2.PK X kws (tA S Wx fun env => evL prog o env c2)) (hd : (x == ("__debug__" : Str)) = false) :
    PE X (.Call (.Name x p) es kws pos) (tE S Wx fun env => evE prog o env (.new f (c1.app c2) ks)) :=
  ⟨fun pins s σ H Q I ⟨ρ, M, env, A, E, P⟩ => wpAny_Call_Name_kw (ld_glob I hg hm (run_args (k := fun vs M => newR prog o f vs ks M) hf hn hk hl hp hkw I A E P
    fun us ws vs zs ps s2 H2 ρ2 M2 I2 rv rz lz x2 A2 E2 r2 P2 => hN f pins s2 σ H2 Q us ws vs zs ks ρ2 M2 ps ow I2 rv rz lz A2 r2 P2) hd)⟩
theorem methOf_some {v : PV} {m : List Nat} {f : Nat} (h : methOf prog M v m = some f) : ∃ n c fs k, v = .loc n ∧ M[n]? = some (.ins c fs) ∧ fget m fs = none ∧ prog.cls[c]? = some k ∧ fgetN m k.ms = some f := by
  unfold methOf at h
  split at h
  · rename_i n
    split at h
    · rename_i c fs e
      split at h
      · cases h
      · rename_i e2
        split at h
        · rename_i k e3
          exact ⟨n, c, fs, k, rfl, e, e2, e3, h⟩
        · cases h
    · cases h
  · cases h
theorem meth_rep (hc : ClsOk S prog) (A : Abs S H ρ M) (r : Rep S H ρ v x) {m : List Nat} {f : Nat} (h : methOf prog M v m = some f) : ∃ a c dx vs, x = .ref a ∧ S.own c = true ∧ H a = some (.ins (S.cA c) dx vs) ∧ List.lookup (sv m) vs = none ∧ Meth S.K (S.cA c) (sv m) (S.fA f) ∧ tyN M v = some (.c c) := by
  obtain ⟨n, c, fs, k, rfl, e, e2, e3, e4⟩ := methOf_some h
  obtain ⟨a, rfl, ha⟩ := r
  obtain ⟨b, u, hb, ho, dx, vs, rfl, ow, rf⟩ := A.get e
  rw [ha] at hb; cases hb
  have := RepF.get (k := m) rf
  rw [e2] at this
  refine ⟨a, c, dx, vs, rfl, ow, ho, this, hc.me c ow k e3 m f e4, ?_⟩
  show (match M[n]? with
      | some (.ins c _) => some (VT.c c)
      | some (.lst _) => some (.b 5)
      | some (.dic _) => some (.b 6)
      | some (.frz (.dic _)) => some (.b 6)
      | _ => none) = _
  rw [e]
theorem s_meth (hK : X.K = S.K) (hc : ClsOk S prog) (hC : CallOk X S Wx prog o) {e : PySem.Expr} {c : CE} {m : List Nat} {es : List PySem.Expr} {kws : List Keyword} {ks : List (List Nat)} {c1 c2 : CL} {apos pos : Pos} {pl : Sem Bool} (he : PE X e (tE S Wx fun env => evE prog o env c))
    (hn : noStar es = true) (hk : kwNm kws ks) (hl : c2.len = ks.length) (hp : PosOk X S Wx prog o es c1) (hkw : L2.PK X kws (tA S Wx fun env => evL prog o env c2))
    (ht : eval (.Call (.Attribute e (sv m) apos) es kws pos) X.env = (do
      let ov ← eval e X.env
      standAt apos.atName
      let fx ← holding [ov] (getMethod ov (sv m) pl)
      match fx with
        | (f, first) => callWith pos f first (backTo pos (starEach es X.env)) (backToKw pos (keywordEach kws X.env)))) :
    PE X (.Call (.Attribute e (sv m) apos) es kws pos) (tE S Wx fun env => evE prog o env (.meth c m (c1.app c2) ks)) :=
  ⟨fun pins s σ H Q I ⟨ρ, M, env, A, E, P⟩ => W.methodCall_KW (thn (he.run pins s σ H _ I (tE_seq (d := fun env => evE prog o env c) A E P)) fun u s1 ⟨x, H1, I1, rx, v, M1, ρ1, A1, E1, x1, r1, P1⟩ => by
    split at P1
    · rename_i f hf
      obtain ⟨a, d, dx, vs, rfl, ow, ha, hl0, hM, _⟩ := meth_rep hc A1 r1 hf
      cases rx
      refine getmeth_ok I1 ha (by rw [hK]; exact hc.cl d ow) (by rw [hK]; exact hM) hl0 ?_
      refine run_args (k := fun vs M => callF prog o f (v :: vs) ks M) (by rw [hK]; exact hM.kp) hn hk hl hp hkw I1 A1 E1 P1 fun us ws vs zs ps s2 H2 ρ2 M2 I2 rv rz lz x2 A2 E2 r2 P2 => ?_
      exact hC f pins s2 σ H2 Q (.ref a :: us) ws (.ref a :: vs) zs ks ρ2 M2 (v :: ps) I2 (Paired.cons rfl rv) rz lz A2 ⟨_, _, rfl, Rep.ext x2 v r1, r2⟩ P2
    · exact P1.elim) ht⟩
theorem own_eq (hK : X.K = S.K) (hc : ClsOk S prog) (hC : CallOk X S Wx prog o) (hu : X.A.units < cLine) : OwnEq X S prog o := by
  intro pins s σ H x y u v Q ρ M a b f I rx ry A ra rb hf hs P
  obtain ⟨p, c, dx, vs, rfl, ow, ha, hl0, hM, ht⟩ := meth_rep hc A ra hf
  cases rx
  unfold sameC at hs
  rw [ht] at hs
  have hb : tyN M b = some (.c c) := by
    split at hs
    · rename_i q1 q2
      cases q1
      rw [q2, Nat.eq_of_beq_eq_true hs]
    · cases hs
  have : ∃ q dy ws, y = .ref q ∧ H q = some (.ins (S.cA c) dy ws) := by
    cases b with
    | loc n =>
      obtain ⟨q, rfl, hq⟩ := rb
      have hb : (match M[n]? with
        | some (.ins c _) => some (VT.c c)
        | some (.lst _) => some (.b 5)
        | some (.dic _) => some (.b 6)
        | some (.frz (.dic _)) => some (.b 6)
        | _ => none) = some (.c c) := hb
      split at hb
      · rename_i e
        cases hb
        obtain ⟨b', u, hb', ho, dy, ws, rfl, _, _⟩ := A.get e
        rw [hq] at hb'; cases hb'
        exact ⟨q, dy, ws, rfl, ho⟩
      all_goals cases hb
    | _ => cases hb
  obtain ⟨q, dy, ws, rfl, hq⟩ := this
  cases ry
  obtain ⟨mA, J, _⟩ := ins_get I.hok ha
  obtain ⟨mB, J', _⟩ := ins_get I.hok hq
  obtain ⟨od, J, _⟩ := ObjM.look J
  obtain ⟨od', J', _⟩ := ObjM.look J'
  obtain ⟨m, hF⟩ := Inv.fr I
  show wpAny (model X.prog X.w) X.A (richCompare .Eq (.ref p) (.ref q)) (EP X pins σ Q) X.xe s
  refine W.cmp_K hu hF I.ok.mod.kin J J'.type (by unfold W.notFirst; rw [beq_self_eq_true]; rfl) (by rw [hK]; exact hM.at_) (by rw [hK]; exact hM.fn) ?_
  refine thn (hC f pins s σ H (fun z H' => (∃ k, z = .bl k) ∧ Q z H') [.ref p, .ref q] [] [.ref p, .ref q] [] [] ρ M [a, b] I (Paired.cons rfl (Paired.cons rfl Paired.nil)) Paired.nil rfl A ⟨_, _, rfl, ra, _, _, rfl, rb, rfl⟩ ?_) fun w s1 ⟨z, H1, I1, rz, ⟨k, ek⟩, qz⟩ => ?_
  · cases e : callF prog o f [a, b] [] M with
    | ok r M1 =>
      rw [e] at P
      have P : Post S ρ H (onlyB r M1) _ _ := P
      unfold onlyB at P
      split at P
      · intro ρ1 H1 x1 A1 z hz
        exact ⟨⟨_, hz⟩, P ρ1 H1 x1 A1 z hz⟩
      · exact P.elim
    | ex _ _ => rw [e] at P; exact P.elim
    | no w => rw [e] at P; exact P.elim
  · subst ek
    cases rz
    exact ⟨.bl k, H1, I1, rfl, qz⟩
end
end Pf
end
section
set_option Elab.async false
set_option linter.all false
set_option maxRecDepth 100000
set_option maxHeartbeats 4000000
namespace Pf
open PySem PySem.Spec PyProof.Rows L2
section
variable {S : Sta} {Wx : WP} {X : Cx} {α : Type} {prog : Prog} {o : Orc} {H : Hp} {ρ : List Addr} {M : Sto} {v : PV} {x : V}
structure KpOk (Kp : L2.St → L2.St → Prop) : Prop where
  rfl : ∀ σ, Kp σ σ
  tr : ∀ a b c, Kp a b → Kp b c → Kp a c
def kT : L2.St → L2.St → Prop := fun _ _ => True
theorem kT_ok : KpOk kT := ⟨fun _ => trivial, fun _ _ _ _ _ => trivial⟩
def tG (S : Sta) (Wx : WP) (Kp : L2.St → L2.St → Prop) (d : PV → Env → Sto → Rs Env) : TG := fun v σ H Q => ∃ ρ M env p, Abs S H ρ M ∧ RepE S H ρ env σ ∧ Rep S H ρ p v ∧
  Post S ρ H (d p env M) (fun env' _ ρ' H' => ∀ σ', RepE S H' ρ' env' σ' → Kp σ σ' → Q σ' H') (Wx σ)
variable {Kp : L2.St → L2.St → Prop}
theorem PG.imp {e : PySem.Expr} {t t' : TG} (h : PG X e t) (f : ∀ v σ H Q, t' v σ H Q → t v σ H Q) : PG X e t' :=
  ⟨fun pins s σ H v u Q I r q => h.run pins s σ H v u Q I r (f v σ H Q q)⟩
theorem PG.or {e : PySem.Expr} {t t' : TG} (h : PG X e t) (h' : PG X e t') : PG X e (fun v σ H Q => t v σ H Q ∨ t' v σ H Q) :=
  ⟨fun pins s σ H v u Q I r q => q.elim (h.run pins s σ H v u Q I r) (h'.run pins s σ H v u Q I r)⟩
theorem setAt_len {β : Type} : ∀ (l : List β) (i : Nat) (x : β), (setAt l i x).length = l.length
  | [], _, _ => rfl
  | _ :: r, 0, _ => rfl
  | _ :: r, i + 1, x => by show (setAt r i x).length + 1 = _; rw [setAt_len]; rfl
theorem setAt_get {β : Type} : ∀ (l : List β) (i j : Nat) (x : β), (setAt l i x)[j]? = if i = j then (if i < l.length then some x else none) else l[j]?
  | [], i, j, x => by simp [setAt]
  | y :: r, 0, 0, x => by simp [setAt]
  | y :: r, 0, j + 1, x => by simp [setAt]
  | y :: r, i + 1, 0, x => by simp [setAt]
  | y :: r, i + 1, j + 1, x => by
    show (setAt r i x)[j]? = _
    rw [setAt_get]
    simp
theorem repE_set {env : Env} {σ : L2.St} {i : Nat} {p : PV} {v : V} (E : RepE S H ρ env σ) (r : Rep S H ρ p v) : RepE S H ρ (setAt env i (some p)) (List.set σ i (some v)) := by
  refine ⟨by rw [setAt_len, List.length_set]; exact E.1, fun j q e => ?_⟩
  rw [setAt_get] at e
  rw [List.getElem?_set]
  split at e
  · rename_i hij
    subst hij
    split at e
    · rename_i hl
      cases e
      rw [E.1] at hl
      exact ⟨v, by simp [hl], r⟩
    · cases e
  · rename_i hij
    rw [if_neg hij]
    exact E.2 j q e
theorem repE_none {env : Env} {σ : L2.St} {i : Nat} (E : RepE S H ρ env σ) : RepE S H ρ (setAt env i none) σ := by
  refine ⟨by rw [setAt_len]; exact E.1, fun j q e => ?_⟩
  rw [setAt_get] at e
  split at e
  · split at e <;> cases e
  · exact E.2 j q e
theorem g_name {i : Nat} {x : Str} {pos : Pos} (hN : X.N.Nodup) (hi : X.N[i]? = some x) (hx : L2.Loc X.env.scope x) (hf : X.fn x = true ∨ List.lookup x X.env.scope.names = some NameKind.local) (hk : ∀ σ v, Kp σ (List.set σ i (some v))) :
    PG X (.Name x pos) (tG S Wx Kp fun p env M => evT prog o env (.v i) p M) :=
  PG.imp (pg_name hN hi hx hf) fun v σ H Q ⟨ρ, M, env, p, A, E, r, P⟩ => by
    exact (show Post S ρ H (Rs.ok (setAt env i (some p)) M) (fun env' _ ρ' H' => ∀ σ', RepE S H' ρ' env' σ' → Kp σ σ' → Q σ' H') (Wx σ) from P).now A _ (repE_set E r) (hk σ v)
def tGs (S : Sta) (Wx : WP) (Kp : L2.St → L2.St → Prop) (d : List PV → Env → Sto → Rs Env) : TGs := fun vs σ H Q => ∃ ρ M env ps, Abs S H ρ M ∧ RepE S H ρ env σ ∧ RepL S H ρ ps vs ∧
  Post S ρ H (d ps env M) (fun env' _ ρ' H' => ∀ σ', RepE S H' ρ' env' σ' → Kp σ σ' → Q σ' H') (Wx σ)
theorem PGs.imp {e : List PySem.Expr} {t t' : TGs} (h : PGs X e t) (f : ∀ v σ H Q, t' v σ H Q → t v σ H Q) : PGs X e t' :=
  ⟨fun pins s σ H v u Q I r q => h.run pins s σ H v u Q I r (f v σ H Q q)⟩
theorem tG_mono {d : PV → Env → Sto → Rs Env} {v : V} {σ : L2.St} {H : Hp} {Q Q' : L2.St → Hp → Prop} (h : tG S Wx Kp d v σ H Q) (f : ∀ x H', Q x H' → Q' x H') : tG S Wx Kp d v σ H Q' := by
  obtain ⟨ρ, M, env, p, A, e, r, P⟩ := h
  exact ⟨ρ, M, env, p, A, e, r, P.imp (fun v M1 ρ1 H1 _ _ _ q σ' E k => f σ' H1 (q σ' E k)) fun _ _ _ _ _ _ q => q⟩
theorem tG_seq (hW : ∀ σ σ', Wx σ = Wx σ') {d : PV → Env → Sto → Rs Env} {k : Env → Sto → Rs α} {σ : L2.St} {H : Hp} {ρ : List Addr} {M : Sto} {env : Env} {p : PV} {v : V} {okP : α → Sto → List Addr → Hp → Prop}
    (A : Abs S H ρ M) (e : RepE S H ρ env σ) (r : Rep S H ρ p v) (h : Post S ρ H ((d p env M).bind k) okP (Wx σ)) :
    tG S Wx Kp d v σ H fun σ1 H1 => ∃ env1 M1 ρ1, Abs S H1 ρ1 M1 ∧ RepE S H1 ρ1 env1 σ1 ∧ Ext ρ H ρ1 H1 ∧ Kp σ σ1 ∧ Post S ρ1 H1 (k env1 M1) okP (Wx σ1) :=
  ⟨ρ, M, env, p, A, e, r, h.bind.imp (fun env1 M1 ρ1 H1 _ x A1 P σ' E' kp => ⟨env1, M1, ρ1, A1, E', x, kp, by rw [hW σ' σ]; exact P⟩) fun _ _ _ _ _ _ P => P⟩
theorem g_nil (kp : KpOk Kp) : PGs X [] (tGs S Wx Kp fun ps env M => evTs prog o env .nil ps M) :=
  PGs.imp pgs_nil fun vs σ H Q ⟨ρ, M, env, ps, A, E, r, P⟩ => by
    cases ps with
    | nil =>
      cases r
      exact ⟨rfl, (show Post S ρ H (Rs.ok env M) (fun env' _ ρ' H' => ∀ σ', RepE S H' ρ' env' σ' → Kp σ σ' → Q σ' H') (Wx σ) from P).now A _ E (kp.rfl σ)⟩
    | cons _ _ => exact (show False from P).elim
theorem g_cons (kp : KpOk Kp) (hW : ∀ σ σ', Wx σ = Wx σ') {e : PySem.Expr} {es : List PySem.Expr} {t : CT} {ts : CTs} (h : PG X e (tG S Wx Kp fun p env M => evT prog o env t p M)) (ht : PGs X es (tGs S Wx Kp fun ps env M => evTs prog o env ts ps M))
    (hs : assignEach (e :: es) X.env = (false, assign e X.env) :: assignEach es X.env) : PGs X (e :: es) (tGs S Wx Kp fun ps env M => evTs prog o env (.cons t ts) ps M) :=
  PGs.imp (pgs_cons h ht (by rw [hs]; rfl)) fun vs σ H Q ⟨ρ, M, env, ps, A, E, r, P⟩ => by
    cases ps with
    | nil => exact (show False from P).elim
    | cons p ps =>
      obtain ⟨v, ws, rfl, r1, r2⟩ := r
      refine ⟨v, ws, rfl, ?_⟩
      refine tG_mono (tG_seq (d := fun p env M => evT prog o env t p M) (k := fun env M => evTs prog o env ts ps M) hW A E r1 P) fun σ1 H1 ⟨env1, M1, ρ1, A1, E1, x1, k1, P1⟩ => ?_
      exact ⟨ρ1, M1, env1, ps, A1, E1, RepL.ext x1 ps r2, P1.imp (fun v M2 ρ2 H2 _ _ _ q σ' E k2 => q σ' E (kp.tr _ _ _ k1 k2)) fun _ _ _ _ _ _ q => q⟩
theorem asg_of {env : PySem.Env} {e : PySem.Expr} {es : List PySem.Expr} (h : noStar (e :: es) = true) : assignEach (e :: es) env = (false, assign e env) :: assignEach es env :=
  assignEach.eq_3 _ _ _ fun a p z => (noStar_cons h).1 a p z
theorem asg_facts {env : PySem.Env} : ∀ {es : List PySem.Expr}, noStar es = true → (assignEach es env).length = es.length ∧ List.findIdx? (fun x => x.fst) (assignEach es env) = none
  | [], _ => ⟨rfl, rfl⟩
  | e :: es, h => by
    obtain ⟨h1, h2⟩ := asg_facts (env := env) (noStar_cons h).2
    rw [asg_of h]
    refine ⟨by simp [h1], ?_⟩
    rw [List.findIdx?_cons]
    simp [h2]
theorem g_tup (hK : X.K = S.K) (hc : X.calm = true) {es : List PySem.Expr} {ts : CTs} {k : Nat} {pos : Pos} (hn : noStar es = true) (hl : ts.len = es.length) (h : PGs X es (tGs S Wx Kp fun ps env M => evTs prog o env ts ps M)) :
    PG X (.Tuple es k pos) (tG S Wx Kp fun p env M => evT prog o env (.tup ts) p M) := by
  obtain ⟨f1, f2⟩ := asg_facts (env := X.env) hn
  refine PG.imp (PG.or (pg_tup hc h f1 f2) (pg_unl hc h f1 f2)) fun v σ H Q ⟨ρ, M, env, p, A, E, r, P⟩ => ?_
  have P : Post S ρ H (match seqOf (deref M p) with
    | some xs => (match Nat.beq ts.len xs.length with
      | true => evTs prog o env ts xs M
      | false => .no "unpacked: how many")
    | none => .no "unpacked") _ _ := P
  split at P
  · rename_i xs ex
    split at P
    · rename_i hb
      have hb := Nat.eq_of_beq_eq_true hb
      rcases seqOf_some ex with e1 | e1
      · obtain ⟨a, vs, rfl, t, rl⟩ := d_tup r e1
        exact .inl ⟨a, vs, rfl, by rw [hK]; exact t, by rw [← rl.len, ← hb, hl], ρ, M, env, xs, A, E, rl, P⟩
      · obtain ⟨a, vs, rfl, t, rl⟩ := d_lst A r e1
        exact .inr ⟨a, vs, rfl, by rw [hK]; exact t, by rw [← rl.len, ← hb, hl], ρ, M, env, xs, A, E, rl, P⟩
    · exact P.elim
  · exact P.elim
def okS (S : Sta) (D : Ends) : Fl → Sto → List Addr → Hp → Prop := fun f _ ρ' H' => match f with
  | .nx env' => ∀ σ', RepE S H' ρ' env' σ' → D.nx σ' H'
  | .rt v => ∀ x, Rep S H' ρ' v x → D.rt x H'
  | .bk env' => ∀ σ', RepE S H' ρ' env' σ' → D.bk σ' H'
  | .ct env' => ∀ σ', RepE S H' ρ' env' σ' → D.ct σ' H'
def tS (S : Sta) (Wx : WP) (d : Den Fl) : TS := fun D σ H => ∃ ρ M env, Abs S H ρ M ∧ RepE S H ρ env σ ∧ Post S ρ H (d env M) (okS S D) (Wx σ)
theorem PS.imp {st : Stmt} {t t' : TS} (h : L2.PS X st t) (f : ∀ D σ H, t' D σ H → t D σ H) : L2.PS X st t' :=
  ⟨fun pins s σ H D I q => h.run pins s σ H D I (f D σ H q)⟩
theorem PSs.imp {st : List Stmt} {t t' : TS} (h : PSs X st t) (f : ∀ D σ H, t' D σ H → t D σ H) : PSs X st t' :=
  ⟨fun pins s σ H D I q => h.run pins s σ H D I (f D σ H q)⟩
theorem tS_seq (hW : ∀ σ σ', Wx σ = Wx σ') {d : Den Fl} {k : Fl → Sto → Rs Fl} {σ : L2.St} {H : Hp} {ρ : List Addr} {M : Sto} {env : Env} {D : Ends}
    (A : Abs S H ρ M) (E : RepE S H ρ env σ) (P : Post S ρ H ((d env M).bind k) (okS S D) (Wx σ)) (hk : ∀ f M, (∀ e, f ≠ .nx e) → k f M = .ok f M) :
    tS S Wx d { nx := tS S Wx (fun env M => k (.nx env) M) D, rt := D.rt, bk := D.bk, ct := D.ct } σ H := by
  refine ⟨ρ, M, env, A, E, P.bind.imp (fun f M1 ρ1 H1 _ x A1 P => ?_) fun _ _ _ _ _ _ P => P⟩
  cases f with
  | nx e => exact fun σ' E' => ⟨ρ1, M1, e, A1, E', by rw [hW σ' σ]; exact P⟩
  | rt v => rw [hk _ _ (fun e z => by cases z)] at P; exact P.now A1
  | bk e => rw [hk _ _ (fun e z => by cases z)] at P; exact P.now A1
  | ct e => rw [hk _ _ (fun e z => by cases z)] at P; exact P.now A1
variable {hx : Option Exn}
theorem b_nil : PSs X [] (tS S Wx fun env => evB prog o hx env .nil) :=
  PSs.imp pss_nil fun D σ H ⟨ρ, M, env, A, E, P⟩ => (show Post S ρ H (Rs.ok (Fl.nx env) M) (okS S D) (Wx σ) from P).now A σ E
theorem b_cons (hW : ∀ σ σ', Wx σ = Wx σ') {st : Stmt} {r : List Stmt} {s : CS} {b : CB} (h : L2.PS X st (tS S Wx fun env => evS prog o hx env s)) (ht : PSs X r (tS S Wx fun env => evB prog o hx env b)) :
    PSs X (st :: r) (tS S Wx fun env => evB prog o hx env (.cons s b)) :=
  PSs.imp (pss_cons h ht) fun D σ H ⟨ρ, M, env, A, E, P⟩ => by
    refine tS_seq (d := fun env => evS prog o hx env s) (k := fun r M => match r with
      | .nx env => evB prog o hx env b M
      | r => .ok r M) hW A E P fun f M hf => ?_
    cases f with
    | nx e => exact absurd rfl (hf e)
    | _ => rfl
theorem c_stuck {st : Stmt} : L2.PS X st (tS S Wx fun env => evS prog o hx env .stuck) :=
  ⟨fun pins s σ H D I ⟨ρ, M, env, A, E, P⟩ => (show False from P).elim⟩
theorem s_stuck {e : PySem.Expr} : PE X e (tE S Wx fun env => evE prog o env .stuck) :=
  ⟨fun pins s σ H D I ⟨ρ, M, env, A, E, P⟩ => (show False from P).elim⟩
theorem c_pass {pos : Pos} : L2.PS X (.Pass pos) (tS S Wx fun env => evS prog o hx env .pass) :=
  PS.imp ps_pass fun D σ H ⟨ρ, M, env, A, E, P⟩ => (show Post S ρ H (Rs.ok (Fl.nx env) M) (okS S D) (Wx σ) from P).now A σ E
theorem c_ex {e : PySem.Expr} {c : CE} {pos : Pos} (h : PE X e (tE S Wx fun env => evE prog o env c)) (hs : swapsWith e none pos.line X.env = pure false) : L2.PS X (.Expr e pos) (tS S Wx fun env => evS prog o hx env (.ex c)) :=
  PS.imp (ps_expr h hs) fun D σ H ⟨ρ, M, env, A, E, P⟩ => by
    refine tE_mono (tE_seq (d := fun env => evE prog o env c) (k := fun _ M => Rs.ok (Fl.nx env) M) A E P) fun x H1 ⟨v, M1, ρ1, A1, E1, x1, r1, P1⟩ => ?_
    exact P1.now A1 σ E1
theorem c_ret {e : PySem.Expr} {c : CE} {pos : Pos} (h : PE X e (tE S Wx fun env => evE prog o env c)) : L2.PS X (.Return (some e) pos) (tS S Wx fun env => evS prog o hx env (.ret c)) :=
  PS.imp (ps_ret h) fun D σ H ⟨ρ, M, env, A, E, P⟩ => by
    refine tE_mono (tE_seq (d := fun env => evE prog o env c) (k := fun x M => Rs.ok (Fl.rt x) M) A E P) fun x H1 ⟨v, M1, ρ1, A1, E1, x1, r1, P1⟩ => ?_
    exact P1.now A1 x r1
theorem c_retN {pos : Pos} : L2.PS X (.Return none pos) (tS S Wx fun env => evS prog o hx env (.ret (.cst .non))) :=
  PS.imp ps_retN fun D σ H ⟨ρ, M, env, A, E, P⟩ => (show Post S ρ H (Rs.ok (Fl.rt .non) M) (okS S D) (Wx σ) from P).now A _ rfl
theorem c_if (hW : ∀ σ σ', Wx σ = Wx σ') {e : PySem.Expr} {c : CE} {a b : List Stmt} {ca cb : CB} {pos : Pos} (h : PT X e (tT S Wx (tst fun env => evE prog o env c))) (ha : PSs X a (tS S Wx fun env => evB prog o hx env ca)) (hb : PSs X b (tS S Wx fun env => evB prog o hx env cb)) :
    L2.PS X (.If e a b pos) (tS S Wx fun env => evS prog o hx env (.ite c ca cb)) :=
  PS.imp (ps_if h ha hb) fun D σ H ⟨ρ, M, env, A, E, P⟩ => by
    have e : evS prog o hx env (.ite c ca cb) M = (tst (fun env => evE prog o env c) env M).bind fun t M => match t with
        | true => evB prog o hx env ca M
        | false => evB prog o hx env cb M := by
      show ((evE prog o env c M).bind fun x M => (tstR x M).bind fun t M => _) = ((evE prog o env c M).bind tstR).bind _
      cases evE prog o env c M <;> rfl
    replace P : Post S ρ H (evS prog o hx env (.ite c ca cb) M) _ _ := P
    rw [e] at P
    refine tT_mono (tT_seq (d := tst fun env => evE prog o env c) A E P) fun b H1 ⟨M1, ρ1, A1, E1, x1, P1⟩ => ?_
    cases b with
    | true => exact ⟨ρ1, M1, env, A1, E1, P1⟩
    | false => exact ⟨ρ1, M1, env, A1, E1, P1⟩
theorem c_asg {tg e : PySem.Expr} {t : CT} {c : CE} {pos : Pos} (h : PE X e (tE S Wx fun env => evE prog o env c)) (hg : PG X tg (tG S Wx kT fun p env M => evT prog o env t p M))
    (h1 : swapsWithSole [tg] e pos.line X.env = pure false) (h2 : swappedStores [tg] e X.env = pure none) (h3 : List.map (fun x => x.snd) (assignEach [tg] X.env) = [assign tg X.env]) :
    L2.PS X (.Assign [tg] e pos) (tS S Wx fun env => evS prog o hx env (.asg t c)) :=
  PS.imp (ps_asg h hg h1 h2 h3) fun D σ H ⟨ρ, M, env, A, E, P⟩ => by
    refine tE_mono (tE_seq (d := fun env => evE prog o env c) (k := fun x M => (evT prog o env t x M).bind fun env M => Rs.ok (Fl.nx env) M) A E P) fun x H1 ⟨v, M1, ρ1, A1, E1, x1, r1, P1⟩ => ?_
    refine ⟨ρ1, M1, env, v, A1, E1, r1, P1.bind.imp (fun env1 M2 ρ2 H2 _ x2 A2 P2 σ' E' _ => ?_) fun _ _ _ _ _ _ P => P⟩
    exact P2.now A2 σ' E'
end
end Pf
end
section
set_option Elab.async false
set_option linter.all false
set_option maxRecDepth 100000
set_option maxHeartbeats 4000000
namespace Pf
open PySem PySem.Spec PyProof.Rows L2
section
variable {S : Sta} {Wx : WP} {X : Cx} {α : Type} {prog : Prog} {o : Orc} {H : Hp} {ρ : List Addr} {M : Sto} {v : PV} {x : V} {hx : Option Exn}
def Walks (S : Sta) (J : It) (src : Src) (ρ0 : List Addr) (H0 : Hp) : Prop := ∀ h ρ H M i, Mv S S.hid H0 ρ0 h H ρ → (∀ a o u, H0 a = some (.frz o u) → H a = some (.frz o u)) → Abs (S.wh h) H ρ M →
  (src.at M i = some none → J.stop i H) ∧ ∀ x, src.at M i = some (some x) → J.go i H ∧ ∀ v H', J.yld i H v H' → Ext ρ H ρ H' ∧ Abs (S.wh h) H' ρ M ∧ Rep (S.wh h) H' ρ x v
def tI (S : Sta) (Wx : WP) (d : Den Src) : TI := fun σ H R => ∃ ρ M env, Abs S H ρ M ∧ RepE S H ρ env σ ∧
  Post S ρ H (d env M) (fun src _ ρ' H' => ∀ J, Walks S J src ρ' H' → R J H') (Wx σ)
theorem PI.imp {tg e : PySem.Expr} {t t' : TI} (h : L2.PI X tg e t) (f : ∀ σ H R, t' σ H R → t σ H R) : L2.PI X tg e t' :=
  ⟨fun pins s σ H R I q => h.run pins s σ H R I (f σ H R q)⟩
theorem PI.or {tg e : PySem.Expr} {t t' : TI} (h : L2.PI X tg e t) (h' : L2.PI X tg e t') : L2.PI X tg e (fun σ H R => t σ H R ∨ t' σ H R) :=
  ⟨fun pins s σ H R I q => q.elim (h.run pins s σ H R I) (h'.run pins s σ H R I)⟩
theorem repL_nth {xs : List PV} {vs : List V} {i : Nat} {p : PV} {w : V} (r : RepL S H ρ xs vs) (h : xs[i]? = some p) (k : vs[i]? = some w) : Rep S H ρ p w := by
  obtain ⟨w', e, r'⟩ := r.get h
  rw [k] at e; cases e
  exact r'
theorem walks_lst {K : W.Frag} (hK : K = S.K) {a : Addr} {xs : List PV} {vs : List V} (t : RLst S H ρ a vs) (r : RepL S H ρ xs vs) : Walks S (Itl K a) (.pure xs) ρ H := by
  subst hK
  intro h' ρ' H' M' i x _ A
  have t' : RLst (S.wh h') H' ρ' a vs := x.kp _ _ t.1 t.2
  have r' := RepL.mv (S := S) x xs r
  have hS : SqL S.K H' a vs := .inl (.inl t'.1)
  refine ⟨fun e => ?_, fun p e => ?_⟩
  · have e : xs[i]? = none := by cases q : xs[i]? with | none => rfl | some z => rw [show (Src.pure xs).at M' i = some xs[i]? from rfl, q] at e; cases e
    exact ⟨vs, hS, by rw [← r'.len]; exact List.getElem?_eq_none_iff.mp e⟩
  · have e : xs[i]? = some p := Option.some.inj e
    obtain ⟨w, ew, rw'⟩ := r'.get e
    exact ⟨⟨vs, w, hS, ew⟩, fun v H2 ⟨e1, e2⟩ => by subst e1; exact ⟨Ext.refl, A, repL_nth r' e (e2 vs hS)⟩⟩
theorem walks_tup {K : W.Frag} (hK : K = S.K) {a : Addr} {xs : List PV} {vs : List V} (t : RTup S H ρ a vs) (r : RepL S H ρ xs vs) : Walks S (Itt K a) (.pure xs) ρ H := by
  subst hK
  intro h' ρ' H' M' i x _ A
  have t' : RTup (S.wh h') H' ρ' a vs := RTup.mv (S := S) x t
  have r' := RepL.mv (S := S) x xs r
  have hS : SqT S.K H' a vs := t'.sq
  refine ⟨fun e => ?_, fun p e => ?_⟩
  · have e : xs[i]? = none := by cases q : xs[i]? with | none => rfl | some z => rw [show (Src.pure xs).at M' i = some xs[i]? from rfl, q] at e; cases e
    exact ⟨vs, hS, by rw [← r'.len]; exact List.getElem?_eq_none_iff.mp e⟩
  · have e : xs[i]? = some p := Option.some.inj e
    obtain ⟨w, ew, rw'⟩ := r'.get e
    exact ⟨⟨vs, w, hS, ew⟩, fun v H2 ⟨e1, e2⟩ => by subst e1; exact ⟨Ext.refl, A, repL_nth r' e (e2 vs hS)⟩⟩
theorem walks_loc {K : W.Frag} (hK : K = S.K) {a : Addr} {n : Nat} (h : ρ[n]? = some a) : Walks S (Itl K a) (.loc n) ρ H := by
  subst hK
  intro h' ρ' H' M' i x _ A
  have at_ : (Src.loc n).at M' i = (match M'[n]? with
    | some (.lst xs) => some xs[i]?
    | _ => none) := rfl
  have get : ∀ xs, M'[n]? = some (.lst xs) → ∃ vs, SqL S.K H' a vs ∧ RepL (S.wh h') H' ρ' xs vs := by
    intro xs e
    obtain ⟨b, u, hb, ho, vs, rfl, r⟩ := A.get e
    rw [x.pre _ _ h] at hb; cases hb
    exact ⟨vs, .inl (.inl ho), r⟩
  refine ⟨fun e => ?_, fun p e => ?_⟩
  · rw [at_] at e
    split at e
    · rename_i xs e1
      obtain ⟨vs, hS, r'⟩ := get xs e1
      have e : xs[i]? = none := Option.some.inj e
      exact ⟨vs, hS, by rw [← r'.len]; exact List.getElem?_eq_none_iff.mp e⟩
    · cases e
  · rw [at_] at e
    split at e
    · rename_i xs e1
      obtain ⟨vs, hS, r'⟩ := get xs e1
      have e : xs[i]? = some p := Option.some.inj e
      obtain ⟨w, ew, rw'⟩ := r'.get e
      exact ⟨⟨vs, w, hS, ew⟩, fun v H2 ⟨e1, e2⟩ => by subst e1; exact ⟨Ext.refl, A, repL_nth r' e (e2 vs hS)⟩⟩
    · cases e
theorem walks_rng (lo : Int) (n : Nat) : Walks S (Itr lo n) (.rng lo n) ρ H := by
  intro h' ρ' H' M' i x _ A
  have at_ : (Src.rng lo n).at M' i = some (match Nat.blt i n with
    | true => some (.int (lo + i))
    | false => none) := rfl
  refine ⟨fun e => ?_, fun p e => ?_⟩
  · rw [at_] at e
    have e := Option.some.inj e
    split at e
    · cases e
    · rename_i hb
      show n ≤ i
      cases Nat.lt_or_ge i n with
      | inl h => rw [show Nat.blt i n = true from Nat.ble_eq_true_of_le h] at hb; cases hb
      | inr h => exact h
  · rw [at_] at e
    have e := Option.some.inj e
    split at e
    · rename_i hb
      cases e
      exact ⟨Nat.le_of_ble_eq_true hb, fun v H2 ⟨e1, e2⟩ => by subst e1; subst e2; exact ⟨Ext.refl, A, rfl⟩⟩
    · cases e
theorem RepD.len' : ∀ {xs : List (PV × PV)} {vs : List (Key × V)}, RepD S H ρ xs vs → xs.length = vs.length
  | [], _, h => by subst h; rfl
  | (k, p) :: ps, _, ⟨q, v, ws, e, _, _, t⟩ => by subst e; simp [RepD.len' t]
theorem kV_rep {k : PV} {q : Key} (h : keyP k = some q) : Rep S H ρ k (kV q) := by
  cases k with
  | int i => cases h; rfl
  | str s => cases h; rfl
  | _ => cases h
theorem RepD.key : ∀ {xs : List (PV × PV)} {vs : List (Key × V)} {i : Nat} {k v : PV}, RepD S H ρ xs vs → xs[i]? = some (k, v) → ∃ q w, vs[i]? = some (q, w) ∧ Rep S H ρ k (kV q)
  | [], _, _, _, _, _, h => by simp at h
  | (k, p) :: ps, _, 0, _, _, ⟨q, v, ws, e, hk, _, t⟩, h => by subst e; simp at h; obtain ⟨rfl, rfl⟩ := h; exact ⟨q, v, rfl, kV_rep hk⟩
  | (k, p) :: ps, _, i + 1, _, _, ⟨q, v, ws, e, _, _, t⟩, h => by subst e; simpa using RepD.key (i := i) t (by simpa using h)
theorem it_list {tg : PySem.Expr} {pins : List (Addr × Obj)} {s1 : Shared} {σ : L2.St} {H1 : Hp} {a : Addr} {xs : List V} {R : It → Hp → Prop} (I1 : L2.Inv X pins σ H1 s1) (hq : SqL X.K H1 a xs) (q : R (Itl X.K a) H1) :
    wpAny (model X.prog X.w) X.A (pyIter (.ref a)) (PIE X pins σ tg R) X.xe s1 := by
  obtain ⟨its, rv, p, hz⟩ := Inv.list I1 hq
  refine wpAny_pyIter_list (PlainL.isList p) ⟨s1.heap.objs.size, [s1.heap.objs.size], fun i h => h.IsListIter s1.heap.objs.size a i, Itl X.K a, H1, rfl, Inv.kept I1 fun b o e => Heap.get?_push_of_some _ e, turn_list a _, ⟨_, Heap.get?_push_size s1.1 rfl, rfl, rfl⟩, fun b hb => ?_, q⟩
  have e : b = s1.heap.objs.size := by simpa using hb
  subst e
  exact Inv.fpOk I1 (Nat.le_refl _) (HOk.fresh I1.hok (Nat.le_refl _))
theorem it_tup {tg : PySem.Expr} {pins : List (Addr × Obj)} {s1 : Shared} {σ : L2.St} {H1 : Hp} {a : Addr} {xs : List V} {R : It → Hp → Prop} (I1 : L2.Inv X pins σ H1 s1) (hq : SqT X.K H1 a xs) (q : R (Itt X.K a) H1) :
    wpAny (model X.prog X.w) X.A (pyIter (.ref a)) (PIE X pins σ tg R) X.xe s1 := by
  obtain ⟨its, rv, p, hz⟩ := Inv.tuple I1 hq
  refine wpAny_pyIter_tuple p ⟨s1.heap.objs.size, [s1.heap.objs.size], fun i h => h.IsTupleIter s1.heap.objs.size a i, Itt X.K a, H1, rfl, Inv.kept I1 fun b o e => Heap.get?_push_of_some _ e, turn_tuple a _, ⟨_, Heap.get?_push_size s1.1 rfl, rfl, rfl⟩, fun b hb => ?_, q⟩
  have e : b = s1.heap.objs.size := by simpa using hb
  subst e
  exact Inv.fpOk I1 (Nat.le_refl _) (HOk.fresh I1.hok (Nat.le_refl _))
theorem it_str {tg : PySem.Expr} {pins : List (Addr × Obj)} {s1 : Shared} {σ : L2.St} {H1 : Hp} {z : Str} {tk : Tok} {R : It → Hp → Prop} (I1 : L2.Inv X pins σ H1 s1) (q : R (Its z) H1) :
    wpAny (model X.prog X.w) X.A (pyIter (.str z tk)) (PIE X pins σ tg R) X.xe s1 := by
  cases ha : (z.cps.all fun x => decide (x < 128)) with
  | false => exact wpAny_pyIter_wide ha (pi_one I1 { cls := .type "str_iterator", data := .fields #[.str z tk, .int 0 0] } (turn_str s1.heap.objs.size z tk "str_iterator" (.inr rfl)) ⟨_, Heap.get?_push_size s1.heap rfl, rfl, rfl⟩ q)
  | true => exact wpAny_pyIter_ascii ha (pi_one I1 { cls := .type "str_ascii_iterator", data := .fields #[.str z tk, .int 0 0] } (turn_str s1.heap.objs.size z tk "str_ascii_iterator" (.inl rfl)) ⟨_, Heap.get?_push_size s1.heap rfl, rfl, rfl⟩ q)
theorem walks_str {s : List Nat} : Walks S (Its (sv s)) (.pure (s.map fun c => .str [c])) ρ H := by
  intro h' ρ' H' M' i x _ A
  have at_ : (Src.pure (s.map fun c => PV.str [c])).at M' i = some ((s.map fun c => PV.str [c])[i]?) := rfl
  have sz : (sv s).cps.size = s.length := by simp [sv]
  refine ⟨fun e => ?_, fun p e => ?_⟩
  · rw [at_] at e
    have e := Option.some.inj e
    rw [List.getElem?_map] at e
    show (sv s).cps.size ≤ i
    rw [sz]
    cases q : s[i]? with
    | none => exact List.getElem?_eq_none_iff.mp q
    | some c => rw [q] at e; cases e
  · rw [at_] at e
    have e := Option.some.inj e
    rw [List.getElem?_map] at e
    obtain ⟨c, q, rfl⟩ := Option.map_eq_some_iff.mp e
    refine ⟨?_, fun v H2 ⟨e1, d, e2, e3⟩ => ?_⟩
    · show i < (sv s).cps.size
      rw [sz]
      exact (List.getElem?_eq_some_iff.mp q).1
    · subst e1; subst e3
      have : (sv s).cps[i]? = s[i]? := by simp [sv]
      rw [this, q] at e2
      cases e2
      exact ⟨Ext.refl, A, rfl⟩
theorem walks_dks {a : Addr} {n : Nat} {ob : Obj} {ks : List (Key × V)} (h : ρ[n]? = some a) (ho : H a = some (.frz ob (.dK ks))) : Walks S (Itk a ob ks) (.dks n) ρ H := by
  intro h' ρ' H' M' i x xf A
  have ha := x.pre n a h
  have hf := xf a ob _ ho
  have at_ : (Src.dks n).at M' i = (match M'[n]? with
    | some (.frz (.dic kvs)) => some (kvs[i]?.map (·.1))
    | _ => none) := rfl
  rw [at_]
  split
  · rename_i kvs e
    obtain ⟨b, w, hb, hw, ob2, u, rfl, ks2, rfl, rd⟩ := A.get e
    rw [ha] at hb; cases hb
    rw [hf] at hw; cases hw
    refine ⟨fun e2 => ?_, fun p e2 => ?_⟩
    · have e2 := Option.some.inj e2
      refine ⟨hf, ?_⟩
      rw [← rd.len']
      cases q : kvs[i]? with
      | none => exact List.getElem?_eq_none_iff.mp q
      | some c => rw [q] at e2; cases e2
    · have e2 := Option.some.inj e2
      obtain ⟨⟨k, v⟩, q, rfl⟩ := Option.map_eq_some_iff.mp e2
      obtain ⟨kk, vv, h1, h2⟩ := rd.key q
      refine ⟨⟨hf, (List.getElem?_eq_some_iff.mp h1).1⟩, fun v2 H2 ⟨e3, k2, v3, e4, e5⟩ => ?_⟩
      subst e3
      rw [h1] at e4; cases e4
      subst e5
      exact ⟨Ext.refl, A, h2⟩
  · exact ⟨fun e => (by cases e), fun _ e => (by cases e)⟩
theorem i_e (hK : X.K = S.K) {tg e : PySem.Expr} {c : CE} (h : PE X e (tE S Wx fun env => evE prog o env c)) : L2.PI X tg e (tI S Wx fun env => evI prog o env (.e c)) :=
  ⟨fun pins s σ H R I ⟨ρ, M, env, A, E, P⟩ => by
    refine thn (h.run pins s σ H _ I (tE_seq (d := fun env => evE prog o env c) (k := srcR) A E P)) fun u s1 ⟨x, H1, I1, rx, v, M1, ρ1, A1, E1, x1, r1, P1⟩ => ?_
    cases v with
    | loc n =>
      obtain ⟨a, rfl, ha⟩ := r1
      cases rx
      have P2 : Post S ρ1 H1 (match M1[n]? with
        | some (.lst _) => Rs.ok (Src.loc n) M1
        | some (.frz (.dic _)) => Rs.ok (Src.dks n) M1
        | _ => .no "walked") (fun src _ ρ' H' => ∀ J, Walks S J src ρ' H' → R J H') (Wx σ) := P1
      split at P2
      · rename_i xs e
        obtain ⟨b, w, hb, ho, vs, rfl, r⟩ := A1.get e
        rw [ha] at hb; cases hb
        exact it_list I1 (.inl (.inl ho)) (P2.now A1 _ (walks_loc hK ha))
      · rename_i kvs e
        obtain ⟨b, w, hb, ho, ob, u, rfl, ks, rfl, rd⟩ := A1.get e
        rw [ha] at hb; cases hb
        obtain ⟨hs, hgd, hx, es, ep, vs, hdt, hsz, kv, hm⟩ := Inv.frzK I1 ho
        refine iter_keys hs hgd hx hdt (pi_one (tk := s1.toks) I1 _ (turn_keys _ hdt) ⟨_, Heap.get?_push_size _ rfl, rfl, ?_⟩ (P2.now A1 _ (walks_dks ha ho)))
        rw [hsz] <;> rfl
      · exact P2.elim
    | tup xs =>
      obtain ⟨a, vs, rfl, t, r⟩ := r1
      cases rx
      exact it_tup I1 (by rw [hK]; exact t.sq) ((show Post S ρ1 H1 (Rs.ok (Src.pure xs) M1) (fun src _ ρ' H' => ∀ J, Walks S J src ρ' H' → R J H') (Wx σ) from P1).now A1 _ (walks_tup hK t r))
    | lst xs =>
      obtain ⟨a, vs, rfl, t, r⟩ := r1
      cases rx
      exact it_list I1 (.inl (.inl t.1)) ((show Post S ρ1 H1 (Rs.ok (Src.pure xs) M1) (fun src _ ρ' H' => ∀ J, Walks S J src ρ' H' → R J H') (Wx σ) from P1).now A1 _ (walks_lst hK t r))
    | str s =>
      cases (show x = .str (sv s) from r1)
      obtain ⟨tk, rfl⟩ := rx
      exact it_str I1 ((show Post S ρ1 H1 (Rs.ok (Src.pure (s.map fun c => .str [c])) M1) (fun src _ ρ' H' => ∀ J, Walks S J src ρ' H' → R J H') (Wx σ) from P1).now A1 _ walks_str)
    | _ => exact P1.elim⟩
theorem inR_of {i : Int} (h : inR i = true) : -(2 ^ 62) ≤ i ∧ i < 2 ^ 62 := by
  unfold inR at h
  rw [Bool.and_eq_true] at h
  exact ⟨of_decide_eq_true h.1, of_decide_eq_true h.2⟩
theorem i_rng {tg a : PySem.Expr} {c : CE} {p pos : Pos} (hg : Gl X ("range" : Str)) (hm : X.mg ("range" : Str) = none) (h : PE X a (tE S Wx fun env => evE prog o env c)) (hn : noStar [a] = true) :
    L2.PI X tg (.Call (.Name (Str.ofString "range") p) [a] [] pos) (tI S Wx fun env => evI prog o env (.rng c)) :=
  PI.imp (pi_range1 hg hm (pa_cons h pa_nil (star_of hn)) (star_of hn)) fun σ H R ⟨ρ, M, env, A, E, P⟩ => by
    refine tE_mono (tE_seq (d := fun env => evE prog o env c) (k := rngR) A E P) fun x H1 ⟨v, M1, ρ1, A1, E1, x1, r1, P1⟩ => ?_
    cases v with
    | int j =>
      have P1 : Post S ρ1 H1 (match inR j with
        | true => Rs.ok (Src.rng 0 j.toNat) M1
        | false => .no "a great range") (fun src _ ρ' H' => ∀ J, Walks S J src ρ' H' → R J H') (Wx σ) := P1
      split at P1
      · rename_i hb
        exact ⟨j, by rw [show x = .int j from r1], (inR_of hb).1, (inR_of hb).2, P1.now A1 _ (walks_rng 0 _)⟩
      · exact P1.elim
    | _ => exact P1.elim
theorem i_rng2 {tg a b : PySem.Expr} {c d : CE} {p pos : Pos} (hg : Gl X ("range" : Str)) (hm : X.mg ("range" : Str) = none) (ha : PE X a (tE S Wx fun env => evE prog o env c)) (hb : PE X b (tE S Wx fun env => evE prog o env d)) (hn : noStar [a, b] = true) :
    L2.PI X tg (.Call (.Name (Str.ofString "range") p) [a, b] [] pos) (tI S Wx fun env => evI prog o env (.rng2 c d)) :=
  PI.imp (pi_range2 hg hm (pa_cons ha (pa_cons hb pa_nil (star_of (noStar_cons hn).2)) (star_of hn)) (by rw [star_of hn, star_of (noStar_cons hn).2]; rfl) (star_of (noStar_cons hn).2)) fun σ H R ⟨ρ, M, env, A, E, P⟩ => by
    refine tE_mono (tE_seq (d := fun env => evE prog o env c) A E P) fun x H1 ⟨v, M1, ρ1, A1, E1, x1, r1, P1⟩ => ?_
    refine tE_mono (tE_seq (d := fun env => evE prog o env d) A1 E1 P1) fun y H2 ⟨w, M2, ρ2, A2, E2, x2, r2, P2⟩ => ?_
    cases v with
    | int i =>
      cases w with
      | int j =>
        have P2 : Post S ρ2 H2 (match inR i && inR j with
          | true => Rs.ok (Src.rng i (j - i).toNat) M2
          | false => .no "a great range") (fun src _ ρ' H' => ∀ J, Walks S J src ρ' H' → R J H') (Wx σ) := P2
        split at P2
        · rename_i hb
          rw [Bool.and_eq_true] at hb
          have h1 := inR_of hb.1
          have h2 := inR_of hb.2
          exact ⟨i, j, by rw [show x = .int i from r1, show y = .int j from r2], ⟨h1.1, h1.2, h2.1, h2.2⟩, P2.now A2 _ (walks_rng i _)⟩
        · exact P2.elim
      | _ => exact P2.elim
    | _ => exact P2.elim
theorem Post.ext {r : Rs α} {okP : α → Sto → List Addr → Hp → Prop} {exP : Exn → Sto → List Addr → Hp → Prop} {ρ' : List Addr} {H' : Hp} (h : Post S ρ H r okP exP) (x : Ext ρ H ρ' H') : Post S ρ' H' r okP exP := by
  cases r with
  | ok v M1 => exact fun ρ2 H2 x2 A2 => h ρ2 H2 (x.trans x2) A2
  | ex e M1 => exact fun ρ2 H2 x2 A2 => h ρ2 H2 (x.trans x2) A2
  | no w => exact h
theorem Rs.bind_assoc {β γ : Type} (r : Rs α) (f : α → Sto → Rs β) (g : β → Sto → Rs γ) : (r.bind f).bind g = r.bind fun x M => (f x M).bind g := by
  cases r <;> rfl
theorem c_for (hW : ∀ σ σ', Wx σ = Wx σ') (hP : PassesOwn (model X.prog X.w) X.A X.env X.xe) (hc : X.calm = true) {tg iter : PySem.Expr} {body : List Stmt} {t : CT} {s : CI} {b : CB} {pos : Pos}
    (hi : L2.PI X tg iter (tI S Wx fun env => evI prog o env s)) (hg : PG X tg (tG S Wx kT fun p env M => evT prog o env t p M)) (hb : PSs X body (tS S Wx fun env => evB prog o hx env b))
    (hf : ∀ x : Value, foldedSetIterable iter X.env x = pure x) : L2.PS X (.For tg iter body [] pos) (tS S Wx fun env => evS prog o hx env (.for_ t s b)) :=
  PS.imp (ps_for hP hc hi hg hb hf) fun D σ H ⟨ρ, M, env, A, E, P⟩ => by
    have P : Post S ρ H ((evI prog o env s M).bind fun sv M => walkF sv (fun x env M => (evT prog o env t x M).bind fun env M => evB prog o hx env b M) (sv.len M + 1) 0 env M) (okS S D) (Wx σ) := P
    refine ⟨ρ, M, env, A, E, P.bind.imp (fun src M1 ρ1 H1 _ x1 A1 P1 J hJ => ?_) fun _ _ _ _ _ _ P => P⟩
    refine ⟨fun i m σ H => ∃ ρ M env, Ext ρ1 H1 ρ H ∧ Abs S H ρ M ∧ RepE S H ρ env σ ∧ Post S ρ H (walkF src (fun x env M => (evT prog o env t x M).bind fun env M => evB prog o hx env b M) m i env M) (okS S D) (Wx σ),
      ⟨_, ρ1, M1, env, Ext.refl, A1, E.ext x1, P1⟩, fun i m σ2 H2 ⟨ρ2, M2, env2, x2, A2, E2, P2⟩ => ?_⟩
    cases m with
    | zero => exact (show False from P2).elim
    | succ m =>
      have P2 : Post S ρ2 H2 (match src.at M2 i with
        | none => .no "walkF at"
        | some none => .ok (.nx env2) M2
        | some (some x) => ((evT prog o env2 t x M2).bind fun env M => evB prog o hx env b M).bind fun r M => match r with
          | .nx e => walkF src (fun x env M => (evT prog o env t x M).bind fun env M => evB prog o hx env b M) m (i + 1) e M
          | .ct e => walkF src (fun x env M => (evT prog o env t x M).bind fun env M => evB prog o hx env b M) m (i + 1) e M
          | .bk e => .ok (.nx e) M
          | .rt v => .ok (.rt v) M) (okS S D) (Wx σ2) := P2
      obtain ⟨hstop, hgo⟩ := hJ S.hid ρ2 H2 M2 i (mv_ext x2) x2.frz A2
      split at P2
      · exact P2.elim
      · rename_i e
        exact .inl ⟨hstop e, P2.now A2 σ2 E2⟩
      · rename_i p e
        obtain ⟨g1, g2⟩ := hgo p e
        refine .inr ⟨g1, fun σ' H' => ∃ ρ M env, Ext ρ1 H1 ρ H' ∧ Abs S H' ρ M ∧ RepE S H' ρ env σ' ∧ Post S ρ H' (walkF src (fun x env M => (evT prog o env t x M).bind fun env M => evB prog o hx env b M) m (i + 1) env M) (okS S D) (Wx σ'), fun σ' H' h => ⟨m, Nat.lt_succ_self m, h⟩, fun v H3 hy => ?_⟩
        obtain ⟨x3, A3, r3⟩ := g2 v H3 hy
        have P3 : Post S ρ2 H3 ((evT prog o env2 t p M2).bind fun env M => (evB prog o hx env b M).bind fun r M => match r with
          | .nx e => walkF src (fun x env M => (evT prog o env t x M).bind fun env M => evB prog o hx env b M) m (i + 1) e M
          | .ct e => walkF src (fun x env M => (evT prog o env t x M).bind fun env M => evB prog o hx env b M) m (i + 1) e M
          | .bk e => .ok (.nx e) M
          | .rt v => .ok (.rt v) M) (okS S D) (Wx σ2) := by
          rw [Rs.bind_assoc] at P2
          exact P2.ext x3
        refine tG_mono (tG_seq (d := fun p env M => evT prog o env t p M) hW A3 (E2.ext x3) r3 P3) fun σ4 H4 ⟨env4, M4, ρ4, A4, E4, x4, _, P4⟩ => ?_
        refine ⟨ρ4, M4, env4, A4, E4, P4.bind.imp (fun fl M5 ρ5 H5 _ x5 A5 P5 => ?_) fun _ _ _ _ _ _ P => P⟩
        have xx : Ext ρ1 H1 ρ5 H5 := x2.trans (x3.trans (x4.trans x5))
        cases fl with
        | nx e => exact fun σ' E' => ⟨ρ5, M5, e, xx, A5, E', by rw [hW σ' σ4]; exact P5⟩
        | ct e => exact fun σ' E' => ⟨ρ5, M5, e, xx, A5, E', by rw [hW σ' σ4]; exact P5⟩
        | bk e => exact fun σ' E' => P5.now A5 σ' E'
        | rt v => exact P5.now A5
end
end Pf
end
section
set_option Elab.async false
set_option linter.all false
set_option maxRecDepth 100000
set_option maxHeartbeats 4000000
namespace Pf
open PySem PySem.Spec PyProof.Rows L2
section
variable {S : Sta} {Wx : WP} {X : Cx} {α : Type} {prog : Prog} {o : Orc} {H : Hp} {ρ : List Addr} {M : Sto} {v : PV} {x : V} {hx : Option Exn}
theorem RepF.len : ∀ {fs : List (List Nat × PV)} {vs : List (Str × V)}, RepF S H ρ fs vs → fs.length = vs.length
  | [], _, h => by subst h; rfl
  | (_, _) :: xs, _, ⟨v, ws, e, _, t⟩ => by subst e; simp [RepF.len t]
theorem sv_ne {a b : List Nat} (h : seq a b = false) : sv a ≠ sv b := fun e => by
  have := sv_inj e
  subst this
  rw [seq_iff.mpr rfl] at h; cases h
theorem RepF.put {k : List Nat} {z : PV} {y : V} (r : Rep S H ρ z y) : ∀ {fs : List (List Nat × PV)} {vs : List (Str × V)}, RepF S H ρ fs vs → RepF S H ρ (fput k z fs) (putF (sv k) y vs)
  | [], _, h => by subst h; exact ⟨y, [], rfl, r, rfl⟩
  | (a, b) :: xs, _, ⟨v, ws, e, rv, t⟩ => by
    subst e
    show RepF S H ρ (match seq a k with
      | true => (a, z) :: xs
      | false => (a, b) :: fput k z xs) (if sv a = sv k then (sv a, y) :: ws else (sv a, v) :: putF (sv k) y ws)
    cases q : seq a k with
    | true =>
      have := seq_iff.mp q
      subst this
      rw [if_pos rfl]
      exact ⟨y, ws, rfl, r, t⟩
    | false =>
      rw [if_neg (sv_ne q)]
      exact ⟨v, _, rfl, rv, RepF.put r t⟩
theorem repH_ins {c : Nat} {dx : Addr} {fs : List (List Nat × PV)} {vs : List (Str × V)} (ow : S.own c = true) (r : RepF S H ρ fs vs) : RepH S H ρ (.ins c fs) (.ins (S.cA c) dx vs) := ⟨dx, vs, rfl, ow, r⟩
theorem c_setA (hK : X.K = S.K) (hc : ClsOk S prog) {a e : PySem.Expr} {c d : CE} {f : List Nat} {pos pos' : Pos} (ha : PE X a (tE S Wx fun env => evE prog o env c)) (he : PE X e (tE S Wx fun env => evE prog o env d))
    (hf : ∀ d, S.own d = true → NoAttr S.K (S.cA d) (sv f)) (hs : swapsWith e (some (.Attribute a (sv f) pos')) pos.line X.env = pure false) :
    L2.PS X (.Assign [.Attribute a (sv f) pos'] e pos) (tS S Wx fun env => evS prog o hx env (.asg (.attr c f) d)) :=
  PS.imp (ps_fld ha he hs) fun D σ H ⟨ρ, M, env, A, E, P⟩ => by
    have e2 : evS prog o hx env (.asg (.attr c f) d) M = (evE prog o env d M).bind fun x M => (evE prog o env c M).bind fun ov M => (putA env ov f x M).bind fun env M => .ok (.nx env) M := by
      show ((evE prog o env d M).bind fun x M => ((evE prog o env c M).bind fun ov M => putA env ov f x M).bind fun env M => Rs.ok (Fl.nx env) M) = _
      cases evE prog o env d M with
      | ok x M1 => exact Rs.bind_assoc _ _ _
      | _ => rfl
    replace P : Post S ρ H (evS prog o hx env (.asg (.attr c f) d) M) _ _ := P
    rw [e2] at P
    refine tE_mono (tE_seq (d := fun env => evE prog o env d) A E P) fun y H1 ⟨z, M1, ρ1, A1, E1, x1, r1, P1⟩ => ?_
    refine tE_mono (tE_seq (d := fun env => evE prog o env c) A1 E1 P1) fun x H2 ⟨w, M2, ρ2, A2, E2, x2, r2, P2⟩ => ?_
    have r1 := Rep.ext x2 z r1
    have P2 : Post S ρ2 H2 ((match setAttr M2 w f z with
      | some M => Rs.ok env M
      | none => .no "store to an attribute").bind fun env M => Rs.ok (Fl.nx env) M) (okS S D) (Wx σ) := P2
    cases q : setAttr M2 w f z with
    | none => rw [q] at P2; exact P2.elim
    | some M3 =>
      rw [q] at P2
      have P2 : Post S ρ2 H2 (Rs.ok (Fl.nx env) M3) (okS S D) (Wx σ) := P2
      cases w with
      | loc n =>
        have q : (match M2[n]? with
          | some (.ins c fs) => (match Nat.blt fs.length 1000 with
            | true => some (setAt M2 n (.ins c (fput f z fs)))
            | false => none)
          | _ => none) = some M3 := q
        split at q
        · rename_i k fs e3
          split at q
          · rename_i hb
            cases q
            obtain ⟨p, rfl, hp⟩ := r2
            obtain ⟨b, u, hb', ho, dx, vs, rfl, ow, rf⟩ := A2.get e3
            rw [hp] at hb'; cases hb'
            have hl : vs.length < 1000 := by rw [← rf.len]; exact Nat.le_of_ble_eq_true hb
            refine ⟨p, S.cA k, dx, vs, rfl, ho, by rw [hK]; exact hc.cl k ow, by rw [hK]; exact hf k ow, hl, ?_⟩
            have x3 : Ext ρ2 H2 ρ2 (upd H2 p (.ins (S.cA k) dx (putF (sv f) y vs))) := ext_write (M := M2) (List.mem_of_getElem? hp) ho
            exact P2 ρ2 _ x3 (abs_write A2 hp ho (repH_ins ow (rf.put r1))) σ (E2.ext x3)
          · cases q
        · cases q
      | _ => cases q
theorem RepL.set {j : Nat} {z : PV} {y : V} (r : Rep S H ρ z y) : ∀ {xs : List PV} {vs : List V} {j : Nat}, RepL S H ρ xs vs → RepL S H ρ (setAt xs j z) (List.set vs j y)
  | [], _, _, h => by subst h; exact rfl
  | _ :: xs, _, 0, ⟨v, ws, e, _, t⟩ => by subst e; exact ⟨y, ws, rfl, r, t⟩
  | _ :: xs, _, j + 1, ⟨v, ws, e, rv, t⟩ => by subst e; exact ⟨v, _, rfl, rv, RepL.set (j := j) r t⟩
theorem RepD.app : ∀ {xs ys : List (PV × PV)} {vs ws : List (Key × V)}, RepD S H ρ xs vs → RepD S H ρ ys ws → RepD S H ρ (xs ++ ys) (vs ++ ws)
  | [], _, _, _, h, k => by subst h; exact k
  | (_, _) :: xs, _, _, _, ⟨q, v, us, e, hk, r, t⟩, k => by subst e; exact ⟨q, v, us ++ _, rfl, hk, r, RepD.app t k⟩
theorem RepD.rep {k z : PV} {q : Key} {y : V} (hk : keyP k = some q) (r : Rep S H ρ z y) : ∀ {kvs : List (PV × PV)} {ks : List (Key × V)}, RepD S H ρ kvs ks → RepD S H ρ (drep k z kvs) (List.map (fun kv => if kv.fst = q then (kv.fst, y) else kv) ks)
  | [], _, h => by subst h; exact rfl
  | (a, b) :: xs, _, ⟨p, v, us, e, hp, rv, t⟩ => by
    subst e
    show RepD S H ρ (match eqV a k with
      | true => (a, z) :: drep k z xs
      | false => (a, b) :: drep k z xs) ((if p = q then (p, y) else (p, v)) :: _)
    rw [keyP_eq hp hk]
    by_cases h : p = q
    · rw [if_pos h, decide_eq_true h]
      exact ⟨p, y, _, rfl, hp, r, RepD.rep hk r t⟩
    · rw [if_neg h, decide_eq_false h]
      exact ⟨p, v, _, rfl, hp, rv, RepD.rep hk r t⟩
theorem any_valV : ∀ {ks : List (Key × V)} {q : Key}, (ks.any fun kv => decide (kv.fst = q)) = (valV ks q).isSome
  | [], _ => rfl
  | (p, v) :: ws, q => by
    have e2 : valV ((p, v) :: ws) q = if decide (p = q) = true then some v else valV ws q := by
      unfold valV
      rw [List.find?_cons]
      by_cases z : p = q <;> simp [z]
    rw [List.any_cons, e2, any_valV]
    by_cases z : p = q <;> simp [z]
theorem RepD.put {k z : PV} {q : Key} {y : V} (hk : keyP k = some q) (r : Rep S H ρ z y) {kvs : List (PV × PV)} {ks : List (Key × V)} (h : RepD S H ρ kvs ks) : RepD S H ρ (dput k z kvs) (putK ks q y) := by
  have g := dget_rep hk h
  unfold dput putK
  rw [any_valV]
  cases e : dget k kvs with
  | none =>
    rw [e] at g
    rw [show valV ks q = none from g]
    exact h.app ⟨q, y, [], rfl, hk, r, rfl⟩
  | some w =>
    rw [e] at g
    obtain ⟨u, hu, _⟩ := g
    rw [hu]
    exact RepD.rep hk r h
theorem PSet.or {t t' : TSet} (h : PSet X t) (h' : PSet X t') : PSet X (fun o i v H Q => t o i v H Q ∨ t' o i v H Q) :=
  fun pins s σ H o i v ov iv u Q I a b c q => q.elim (h pins s σ H o i v ov iv u Q I a b c) (h' pins s σ H o i v ov iv u Q I a b c)
theorem PSet.imp {t t' : TSet} (h : PSet X t) (f : ∀ o i v H Q, t' o i v H Q → t o i v H Q) : PSet X t' :=
  fun pins s σ H o i v ov iv u Q I a b c q => h pins s σ H o i v ov iv u Q I a b c (f _ _ _ _ _ q)
def rSet (S : Sta) : TSet := fun x y v H Q => ∃ ρ M a b c M', Abs S H ρ M ∧ Rep S H ρ a x ∧ Rep S H ρ b y ∧ Rep S H ρ c v ∧ setItem M a b c = some M' ∧ ∀ ρ' H', Ext ρ H ρ' H' → Abs S H' ρ' M' → Q H'
theorem set_all (hu : X.A.units + 1 < cLine) : PSet X (rSet S) := by
  refine PSet.imp (PSet.or set_list (set_dict hu)) fun x y v H Q ⟨ρ, M, a, b, c, M', A, ra, rb, rc, e, q⟩ => ?_
  cases a with
  | loc n =>
    obtain ⟨p, rfl, hp⟩ := ra
    have e : (match M[n]? with
      | some (.lst xs) => (match (generalizing := false) b with
        | .int k => (match ixN k xs.length with
          | some j => some (setAt M n (.lst (setAt xs j c)))
          | none => none)
        | _ => none)
      | some (.dic kvs) => (match keyOk b && Nat.blt kvs.length cap with
        | true => some (setAt M n (.dic (dput b c kvs)))
        | false => none)
      | _ => none) = some M' := e
    split at e
    · rename_i xs e1
      obtain ⟨p', u, hp', ho, vs, rfl, rl⟩ := A.get e1
      rw [hp] at hp'; cases hp'
      cases b with
      | int k =>
        simp only at e
        split at e
        · rename_i j ej
          cases e
          refine .inl ⟨p, vs, k, j, rfl, rb, ho, by rw [← rl.len]; exact ixN_eq ej, ?_⟩
          exact q ρ _ (ext_write (M := M) (List.mem_of_getElem? hp) ho) (abs_write A hp ho ⟨_, rfl, RepL.set (j := j) rc rl⟩)
        · cases e
      | _ => cases e
    · rename_i kvs e1
      obtain ⟨p', u, hp', ho, ks, rfl, rd⟩ := A.get e1
      rw [hp] at hp'; cases hp'
      split at e
      · rename_i hb
        cases e
        rw [Bool.and_eq_true] at hb
        obtain ⟨k, hk⟩ := keyP_of hb.1
        refine .inr ⟨p, _, rfl, .inl ⟨ks, k, ho, keyP_rep hk rb, ?_, rfl⟩, ?_⟩
        · rw [← rd.len, sizeLine_eq]
          exact Nat.le_of_ble_eq_true hb.2
        · exact q ρ _ (ext_write (M := M) (List.mem_of_getElem? hp) ho) (abs_write A hp ho ⟨_, rfl, rd.put hk rc⟩)
      · cases e
    · cases e
  | _ => cases e
theorem g_idx (hu : X.A.units + 1 < cLine) {a b : PySem.Expr} {c d : CE} {pos : Pos} (ha : PE X a (tE S Wx fun env => evE prog o env c)) (hb : PE X b (tE S Wx fun env => evE prog o env d))
    (hs : ∀ (v : Value), assign (a.Subscript b pos) X.env v = do
                let ov ← holding [v] (eval a X.env)
                let iv ← holding [v, ov] (eval b X.env)
                standAt pos
                holding [v, ov, iv] (PySem.setItem ov iv v)
                release [v, ov, iv] []) :
    PG X (.Subscript a b pos) (tG S Wx kT fun p env M => evT prog o env (.idx c d) p M) :=
  PG.imp (pg_sub ha hb (set_all (S := S) hu) hs) fun v σ H Q ⟨ρ, M, env, p, A, E, r, P⟩ => by
    refine tE_mono (tE_seq (d := fun env => evE prog o env c) (k := fun ov M => (evE prog o env d M).bind fun iv M => putI env ov iv p M) A E P) fun x H1 ⟨v1, M1, ρ1, A1, E1, x1, r1, P1⟩ => ?_
    refine tE_mono (tE_seq (d := fun env => evE prog o env d) (k := fun iv M => putI env v1 iv p M) A1 E1 P1) fun y H2 ⟨v2, M2, ρ2, A2, E2, x2, r2, P2⟩ => ?_
    have P2 : Post S ρ2 H2 (match setItem M2 v1 v2 p with
      | some M => Rs.ok env M
      | none => .no "store to an item") (fun env' _ ρ' H' => ∀ σ', RepE S H' ρ' env' σ' → kT σ σ' → Q σ' H') (Wx σ) := P2
    cases q : setItem M2 v1 v2 p with
    | none => rw [q] at P2; exact P2.elim
    | some M3 =>
      rw [q] at P2
      exact ⟨ρ2, M2, v1, v2, p, M3, A2, Rep.ext x2 v1 r1, r2, Rep.ext x2 p (Rep.ext x1 p r), q, fun ρ' H' x3 A3 => P2 ρ' H' x3 A3 σ (E2.ext x3) trivial⟩
theorem PIp.imp {op : Operator} {t t' : TIp} (h : PIp X op t) (f : ∀ x y H Q, t' x y H Q → t x y H Q) : PIp X op t' :=
  fun pins s σ H x y v u Q I a b q => h pins s σ H x y v u Q I a b (f _ _ _ _ q)
theorem c_aug {p : BOp} (hp : p = .add ∨ p = .sub) {i : Nat} {x : Str} {e : PySem.Expr} {c : CE} {pos pos' : Pos} (hN : X.N.Nodup) (hi : X.N[i]? = some x) (hl : L2.Loc X.env.scope x) (he : PE X e (tE S Wx fun env => evE prog o env c))
    (hf : X.fn x = true ∨ List.lookup x X.env.scope.names = some NameKind.local) : L2.PS X (.AugAssign (.Name x pos') (opA p) e pos) (tS S Wx fun env => evS prog o hx env (.aug p (.v i) c)) := by
  have main : ∀ {g : Int → Int → Int}, PIp X (opA p) (ipI g) → (∀ a b env M, augR p i (.int a) (.int b) env M = .ok (.nx (setAt env i (some (.int (g a b))))) M) → L2.PS X (.AugAssign (.Name x pos') (opA p) e pos) (tS S Wx fun env => evS prog o hx env (.aug p (.v i) c)) := by
    intro g hip hg
    refine PS.imp (ps_aug hN hi hl he hip hf) fun D σ H ⟨ρ, M, env, A, E, P⟩ => ?_
    have P : Post S ρ H (match env[i]? with
      | some (some x) => (evE prog o env c M).bind fun y M => augR p i x y env M
      | _ => .no "unset") (okS S D) (Wx σ) := P
    split at P
    · rename_i z ez
      obtain ⟨w, ew, rw'⟩ := E.2 i z ez
      refine ⟨w, ew, ?_⟩
      refine tE_mono (tE_seq (d := fun env => evE prog o env c) (k := fun y M => augR p i z y env M) A E P) fun y H1 ⟨v, M1, ρ1, A1, E1, x1, r1, P1⟩ => ?_
      cases z with
      | int a =>
        cases v with
        | int b =>
          rw [hg] at P1
          exact ⟨a, b, rw', r1, P1.now A1 _ (repE_set E1 rfl)⟩
        | _ => exact P1.elim
      | _ => exact (show False from P1).elim
    · exact P.elim
  rcases hp with rfl | rfl
  · exact main ip_add fun _ _ _ _ => rfl
  · exact main ip_sub fun _ _ _ _ => rfl
end
end Pf
end
section
set_option Elab.async false
set_option linter.all false
set_option maxRecDepth 100000
set_option maxHeartbeats 4000000
namespace Pf
open PySem PySem.Spec PyProof.Rows L2
section
variable {S : Sta} {Wx : WP} {X : Cx} {α : Type} {prog : Prog} {o : Orc} {H H2 : Hp} {ρ ρ2 : List Addr} {M : Sto} {v : PV} {x : V} {hx : Option Exn} {h1 h2 : Addr → Prop}
def plus (h : Addr → Prop) (D : Addr) : Addr → Prop := fun a => h a ∨ a = D
theorem mv_open {h : Addr → Prop} {D : Addr} {u : HO} (hD : H D = none) : Mv S h H ρ (plus h D) (upd H D u) ρ :=
  ⟨fun _ _ e => e, fun a o e n => ⟨by rw [upd_ne (ne_of_none e hD)]; exact e, n.1, fun z => z.elim n.2 (ne_of_none e hD)⟩⟩
theorem abs_open {h : Addr → Prop} {D : Addr} {u : HO} (A : Abs (S.wh h) H ρ M) (hD : H D = none) : Abs (S.wh (plus h D)) (upd H D u) ρ M :=
  ⟨RepM.mv (mv_open hD) A.m fun a ha o e => by rw [upd_ne (ne_of_none e hD)]; exact e, A.nd, fun a z => by
    rcases z with z | z
    · rw [upd_ne (fun q => A.hd a z (by rw [q]; exact hD))]
      exact A.hd a z
    · rw [z, upd_same]; exact fun q => by cases q⟩
theorem mv_turn {h : Addr → Prop} {D : Addr} {u : HO} (hD : D ∉ ρ) : Mv S (plus h D) H ρ (plus h D) (upd H D u) ρ :=
  ⟨fun _ _ e => e, fun a o e n => ⟨by rw [upd_ne (fun q => n.2 (.inr q))]; exact e, n⟩⟩
theorem abs_turn {h : Addr → Prop} {D : Addr} {u : HO} (A : Abs (S.wh (plus h D)) H ρ M) (hD : D ∉ ρ) : Abs (S.wh (plus h D)) (upd H D u) ρ M :=
  ⟨RepM.mv (mv_turn hD) A.m fun a ha o e => by rw [upd_ne (fun q => hD (by rw [← q]; exact ha))]; exact e, A.nd, fun a z => by
    by_cases q : a = D
    · rw [q, upd_same]; exact fun q => by cases q
    · rw [upd_ne q]; exact A.hd a z⟩
theorem mv_close {h : Addr → Prop} {D : Addr} : Mv S (plus h D) H ρ h H ρ := ⟨fun _ _ e => e, fun a o e n => ⟨e, n.1, fun z => n.2 (.inl z)⟩⟩
theorem abs_close {h : Addr → Prop} {D : Addr} (A : Abs (S.wh (plus h D)) H ρ M) : Abs (S.wh h) H ρ M :=
  ⟨RepM.mv mv_close A.m fun _ _ _ e => e, A.nd, fun a z => A.hd a (.inl z)⟩
theorem mv_place {h : Addr → Prop} {D : Addr} : Mv S (plus h D) H ρ h H (ρ ++ [D]) :=
  ⟨fun n a e => by rw [List.getElem?_append_left (List.getElem?_eq_some_iff.mp e).1]; exact e, fun a o e n => ⟨e, fun m => by
    rcases List.mem_append.mp m with m | m
    · exact n.1 m
    · exact n.2 (.inr (List.mem_singleton.mp m)), fun z => n.2 (.inl z)⟩⟩
theorem abs_place {h : Addr → Prop} {D : Addr} {p : PO} {u : HO} (A : Abs (S.wh (plus h D)) H ρ M) (hD : D ∉ ρ) (hu : H D = some u) (r : RepH (S.wh h) H (ρ ++ [D]) p u) : Abs (S.wh h) H (ρ ++ [D]) (M ++ [p]) :=
  ⟨RepM.app (RepM.mv mv_place A.m fun _ _ _ e => e) hu r, List.nodup_append.mpr ⟨A.nd, by simp, fun a ha b hb => by
    rw [List.mem_singleton.mp hb]
    intro e
    subst e
    exact hD ha⟩, fun a z => A.hd a (.inl z)⟩
theorem Post.re {β : Type} {S2 : Sta} {r : Rs α} {f : α → Sto → Rs β} {okP : β → Sto → List Addr → Hp → Prop} {exP : Exn → Sto → List Addr → Hp → Prop} (h : Post S ρ H (r.bind f) okP exP) (x : Ext ρ H ρ2 H2) (wk : ∀ H' ρ' M', Abs S2 H' ρ' M' → Abs S H' ρ' M') :
    Post S2 ρ2 H2 r (fun v M' ρ' H' => Ext ρ2 H2 ρ' H' ∧ Post S ρ H (f v M') okP exP) exP := by
  cases r with
  | ok v M1 => exact fun ρ' H' x' A => ⟨x', h⟩
  | ex e M1 => exact fun ρ' H' x' A => h ρ' H' (x.trans x') (wk _ _ _ A)
  | no w => exact h
end
end Pf
end
section
set_option Elab.async false
set_option linter.all false
set_option maxRecDepth 100000
set_option maxHeartbeats 4000000
namespace Pf
open PySem PySem.Spec PyProof.Rows L2
section
variable {S : Sta} {Wx : WP} {X : Cx} {α : Type} {prog : Prog} {o : Orc} {H H2 : Hp} {ρ ρ2 : List Addr} {M : Sto} {v : PV} {x : V} {hx : Option Exn} {h1 h2 : Addr → Prop}
def kW (vs : List Nat) : L2.St → L2.St → Prop := fun σ σ' => σ'.length = σ.length ∧ ∀ i : Nat, i ∉ vs → σ'[i]? = σ[i]?
theorem kW_ok (vs : List Nat) : KpOk (kW vs) := ⟨fun σ => ⟨rfl, fun _ _ => rfl⟩, fun a b c h k => ⟨k.1.trans h.1, fun i n => (k.2 i n).trans (h.2 i n)⟩⟩
theorem kW_set {vs : List Nat} {i : Nat} (h : i ∈ vs) (σ : L2.St) (v : V) : kW vs σ (List.set σ i (some v)) :=
  ⟨List.length_set, fun j n => by rw [List.getElem?_set_ne]; exact fun e => n (e ▸ h)⟩
theorem wipe_in {σ : L2.St} {i : Nat} : ∀ {vs : List Nat}, i ∈ vs → i < σ.length → (L2.wipe σ vs)[i]? = some none
  | v :: vs, h, hl => by
    rw [L2.wipe.eq_def]
    simp only
    rw [List.getElem?_set]
    by_cases e : v = i
    · subst e
      rw [if_pos rfl, if_pos (by rw [L2.wipe_length]; exact hl)]
    · rw [if_neg e]
      rcases List.mem_cons.mp h with q | q
      · exact absurd q.symm e
      · exact wipe_in q hl
theorem wipe_eq {σ τ : L2.St} {vs : List Nat} (h : τ.length = σ.length) (k : ∀ i : Nat, i ∉ vs → τ[i]? = σ[i]?) : L2.wipe τ vs = L2.wipe σ vs := by
  refine List.ext_getElem? fun i => ?_
  by_cases m : i ∈ vs
  · by_cases hl : i < σ.length
    · rw [wipe_in m hl, wipe_in m (by omega)]
    · rw [List.getElem?_eq_none_iff.mpr (by rw [L2.wipe_length]; omega), List.getElem?_eq_none_iff.mpr (by rw [L2.wipe_length]; omega)]
  · rw [L2.wipe_out m, L2.wipe_out m, k i m]
theorem kW_wipe {vs : List Nat} {σ σ2 : L2.St} (h : kW vs (L2.wipe σ vs) σ2) : L2.wipe σ2 vs = L2.wipe σ vs :=
  wipe_eq (by rw [h.1, L2.wipe_length]) fun i n => by rw [h.2 i n, L2.wipe_out n]
theorem wipeP {i : Nat} {v : PV} : ∀ {vs : List Nat} {e : Env}, (Pf.wipe vs e)[i]? = some (some v) → i ∉ vs ∧ e[i]? = some (some v)
  | [], e, h => ⟨by simp, h⟩
  | a :: vs, e, h => by
    obtain ⟨h1, h2⟩ := wipeP (vs := vs) (e := setAt e a none) h
    rw [setAt_get] at h2
    split at h2
    · split at h2 <;> cases h2
    · rename_i hne
      exact ⟨fun m => by
        rcases List.mem_cons.mp m with q | q
        · exact hne q.symm
        · exact h1 q, h2⟩
theorem wipe_len : ∀ {vs : List Nat} {e : Env}, (Pf.wipe vs e).length = e.length
  | [], e => rfl
  | a :: vs, e => by
    show (Pf.wipe vs (setAt e a none)).length = _
    rw [wipe_len, setAt_len]
theorem repE_wipe {env : Env} {σ : L2.St} {vs : List Nat} (E : RepE S H ρ env σ) : RepE S H ρ (Pf.wipe vs env) (L2.wipe σ vs) :=
  ⟨by rw [wipe_len, L2.wipe_length]; exact E.1, fun i v e => by
    obtain ⟨n, e1⟩ := wipeP e
    obtain ⟨x, e2, r⟩ := E.2 i v e1
    exact ⟨x, by rw [L2.wipe_out n]; exact e2, r⟩⟩
def condR (prog : Prog) (o : Orc) (c : CO) : Den Bool := match c with
  | .n => fun _ M => .ok true M
  | .s e => tst fun env => evE prog o env e
def turnL (prog : Prog) (o : Orc) (env : Env) (t : CT) (c : CO) (f : Env → Sto → List PV → Rs (List PV)) : PV → List PV → Sto → Rs (List PV) := fun x acc M =>
  (evT prog o env t x M).bind fun env M => (condR prog o c env M).bind fun b M => match b with
    | true => f env M acc
    | false => .ok acc M
theorem evG_one {f : Env → Sto → List PV → Rs (List PV)} {env out : Env} {t : CT} {s : CI} {c : CO} {acc : List PV} :
    evG prog o f env out (.cons t s c .nil) M acc = (evI prog o out s M).bind fun sv M => walk sv (turnL prog o env t c f) (sv.len M + 1) 0 acc M := by
  cases c with
  | n =>
    show (evI prog o out s M).bind (fun sv M => walk sv (fun x (acc : List PV) M => (evT prog o env t x M).bind fun env M => f env M acc) (sv.len M + 1) 0 acc M) = _
    rfl
  | s e =>
    show (evI prog o out s M).bind (fun sv M => walk sv (fun x (acc : List PV) M => (evT prog o env t x M).bind fun env M => (evE prog o env e M).bind fun b M => (tstR b M).bind fun t M => match t with
      | true => f env M acc
      | false => .ok acc M) (sv.len M + 1) 0 acc M) = _
    congr 1
    funext sv M
    congr 1
    funext x acc M
    unfold turnL
    congr 1
    funext env M
    show _ = ((evE prog o env e M).bind tstR).bind _
    rw [Rs.bind_assoc]
theorem mv_loop {h0 : Addr → Prop} {D : Addr} (x : Ext ρ H ρ2 H2) (hD : H D = none) : Mv S h0 H ρ (plus h0 D) H2 ρ2 :=
  ⟨fun n a e => x.get e, fun a o e n => ⟨x.keep a o e n.1, x.nmem e n.1, fun z => z.elim n.2 (ne_of_none e hD)⟩⟩
theorem lc_read (hW : ∀ σ σ', Wx σ = Wx σ') {h0 : Addr → Prop} {σ : L2.St} {Q : VK} {t : CT} {s : CI} {c : CO} {ce : CE} {vs : List Nat} {env : Env} {k : List PV → Sto → Rs α} {okP : α → Sto → List Addr → Hp → Prop}
    (A : Abs (S.wh h0) H ρ M) (E : RepE (S.wh h0) H ρ env σ)
    (P : Post (S.wh h0) ρ H ((evG prog o (fun env M acc => (evE prog o env ce M).bind (accR acc)) (Pf.wipe vs env) env (.cons t s c .nil) M []).bind k) okP (Wx σ))
    (hF : ∀ xs M' ρ1 H1 ρ' H' D ws, Ext ρ H ρ1 H1 → H1 D = none → Ext ρ1 H1 ρ' H' → Abs (S.wh (plus h0 D)) H' ρ' M' → D ∉ ρ' → H' D = some (.lst ws) → RepL (S.wh (plus h0 D)) H' ρ' xs ws → Post (S.wh h0) ρ1 H1 (k xs M') okP (Wx σ) → Q (.ref D) H') :
    tLc (tI (S.wh h0) Wx fun env => evI prog o env s) (fun v σ H Q => ∃ h, tG (S.wh h) Wx (kW vs) (fun p env M => evT prog o env t p M) v σ H Q) (fun σ H Q => ∃ h, tT (S.wh h) Wx (condR prog o c) σ H Q)
      (fun σ H Q => ∃ h, tE (S.wh h) Wx (fun env => evE prog o env ce) σ H Q) vs σ H Q := by
  rw [evG_one, Rs.bind_assoc] at P
  refine ⟨ρ, M, env, A, E, P.bind.imp (fun src M1 ρ1 H1 _ x1 A1 P1 J hJ D hD => ?_) fun _ _ _ _ _ _ P => P⟩
  have E1 := E.ext x1
  refine ⟨fun i m Hc => ∃ ρc Mc acc ws, Ext ρ1 H1 ρc Hc ∧ Abs (S.wh (plus h0 D)) Hc ρc Mc ∧ D ∉ ρc ∧ Hc D = some (.lst ws) ∧ RepL (S.wh (plus h0 D)) Hc ρc acc ws ∧
    Post (S.wh h0) ρ1 H1 ((walk src (turnL prog o (Pf.wipe vs env) t c (fun env M acc => (evE prog o env ce M).bind (accR acc))) m i acc Mc).bind k) okP (Wx σ),
    ⟨_, ρ1, M1, [], [], ext_new hD, abs_open A1 hD, (A1.fresh hD).1, upd_same, rfl, P1⟩, ?_⟩
  intro i m Hc ⟨ρc, Mc, acc, ws, xc, Ac, nD, eD, rc, Pc⟩
  cases m with
  | zero => exact (show False from Pc).elim
  | succ m =>
    obtain ⟨hstop, hgo⟩ := hJ (plus h0 D) ρc Hc Mc i (mv_loop xc hD) xc.frz Ac
    have Pc : Post (S.wh h0) ρ1 H1 ((match src.at Mc i with
      | none => Rs.no "walk at"
      | some none => .ok acc Mc
      | some (some x) => (turnL prog o (Pf.wipe vs env) t c (fun env M acc => (evE prog o env ce M).bind (accR acc)) x acc Mc).bind fun b M => walk src (turnL prog o (Pf.wipe vs env) t c (fun env M acc => (evE prog o env ce M).bind (accR acc))) m (i + 1) b M).bind k) okP (Wx σ) := Pc
    split at Pc
    · exact Pc.elim
    · rename_i e
      exact .inl ⟨hstop e, hF acc Mc ρ1 H1 ρc Hc D ws x1 hD xc Ac nD eD rc Pc⟩
    · rename_i p e
      obtain ⟨g1, g2⟩ := hgo p e
      refine .inr ⟨g1, fun H' => ∃ ρc Mc acc ws, Ext ρ1 H1 ρc H' ∧ Abs (S.wh (plus h0 D)) H' ρc Mc ∧ D ∉ ρc ∧ H' D = some (.lst ws) ∧ RepL (S.wh (plus h0 D)) H' ρc acc ws ∧
        Post (S.wh h0) ρ1 H1 ((walk src (turnL prog o (Pf.wipe vs env) t c (fun env M acc => (evE prog o env ce M).bind (accR acc))) m (i + 1) acc Mc).bind k) okP (Wx σ), fun H' h => ⟨m, Nat.lt_succ_self m, h⟩, fun v H3 hy => ?_⟩
      obtain ⟨x3, A3, r3⟩ := g2 v H3 hy
      rw [Rs.bind_assoc] at Pc
      unfold turnL at Pc
      rw [Rs.bind_assoc] at Pc
      have wk : ∀ H' ρ' M', Abs (S.wh (plus h0 D)) H' ρ' M' → Abs (S.wh h0) H' ρ' M' := fun _ _ _ A => abs_close A
      have Ew : RepE (S.wh (plus h0 D)) H3 ρc (Pf.wipe vs env) (L2.wipe σ vs) := repE_wipe ((RepE.mv (mv_loop xc hD) E1).ext x3)
      refine ⟨plus h0 D, ρc, Mc, Pf.wipe vs env, p, A3, Ew, r3, ?_⟩
      rw [hW (L2.wipe σ vs) σ]
      refine (Pc.re (xc.trans x3) wk).imp (fun env4 M4 ρ4 H4 _ _ A4 ⟨x4, P4⟩ σ4 E4 k4 => ⟨kW_wipe k4, ?_⟩) fun _ _ _ _ _ _ P => P
      rw [Rs.bind_assoc] at P4
      have x14 := (xc.trans x3).trans x4
      refine ⟨plus h0 D, ρ4, M4, env4, A4, E4, ?_⟩
      rw [hW σ4 σ]
      refine (P4.re x14 wk).imp (fun b M5 ρ5 H5 _ _ A5 ⟨x5, P5⟩ => ?_) fun _ _ _ _ _ _ P => P
      have x15 := x14.trans x5
      have D3 := x3.keep D _ eD nD
      have n4 := x4.nmem D3 nD
      have D4 := x4.keep D _ D3 nD
      have n5 := x5.nmem D4 n4
      have D5 := x5.keep D _ D4 n4
      have r5 := RepL.ext x5 _ (RepL.ext x4 _ (RepL.ext x3 _ rc))
      cases b with
      | false => exact ⟨ρ5, M5, acc, ws, x15, A5, n5, D5, r5, P5⟩
      | true =>
        show ∃ h, tE (S.wh h) Wx (fun env => evE prog o env ce) σ4 H5 _
        rw [Rs.bind_assoc] at P5
        refine ⟨plus h0 D, ρ5, M5, env4, A5, E4.ext x5, ?_⟩
        rw [hW σ4 σ]
        refine (P5.re x15 wk).imp (fun y M6 ρ6 H6 _ _ A6 ⟨x6, P6⟩ w rw' => ?_) fun _ _ _ _ _ _ P => P
        have n6 := x6.nmem D5 n5
        have D6 := x6.keep D _ D5 n5
        have r6 := RepL.ext x6 _ r5
        have P6 : Post (S.wh h0) ρ1 H1 ((match Nat.blt acc.length cap with
          | true => Rs.ok (acc ++ [y]) M6
          | false => .no "a great list").bind fun b M => (walk src (turnL prog o (Pf.wipe vs env) t c (fun env M acc => (evE prog o env ce M).bind (accR acc))) m (i + 1) b M).bind k) okP (Wx σ) := P6
        split at P6
        · rename_i hb
          refine ⟨ws, D6, ?_, ?_⟩
          · rw [← r6.len, sizeLine_eq]
            exact Nat.le_of_ble_eq_true hb
          · refine ⟨ρ6, M6, acc ++ [y], ws ++ [w], ?_, abs_turn A6 n6, n6, upd_same, ?_, P6⟩
            · have x16 := x15.trans x6
              exact ⟨x16.pre, fun a o e n => by rw [upd_ne (ne_of_none e hD)]; exact x16.keep a o e n, fun a e => by
                by_cases q : a = D
                · exact absurd (q ▸ hD) e
                · rw [upd_ne q]; exact x16.dom a e, fun a o u e => by rw [upd_ne (ne_of_none e hD)]; exact x16.frz a o u e⟩
            · exact (RepL.mv (mv_turn n6) _ r6).app ⟨w, [], rfl, Rep.mv (mv_turn n6) y rw', rfl⟩
        · exact P6.elim
theorem rep_closed {h0 : Addr → Prop} {D : Addr} {xs : List PV} {ws : List V} (nD : D ∉ ρ) (hh : ¬ h0 D) (e : H D = some (.lst ws)) (r : RepL (S.wh (plus h0 D)) H ρ xs ws) : Rep (S.wh h0) H ρ (.lst xs) (.ref D) :=
  ⟨D, ws, rfl, ⟨e, nD, hh⟩, RepL.mv mv_close xs r⟩
abbrev gC (S : Sta) (Wx : WP) (prog : Prog) (o : Orc) (vs : List Nat) (t : CT) : TG := fun v σ H Q => ∃ h, tG (S.wh h) Wx (kW vs) (fun p env M => evT prog o env t p M) v σ H Q
abbrev tC' (S : Sta) (Wx : WP) (prog : Prog) (o : Orc) (c : CO) : TT := fun σ H Q => ∃ h, tT (S.wh h) Wx (condR prog o c) σ H Q
abbrev eC (S : Sta) (Wx : WP) (prog : Prog) (o : Orc) (ce : CE) : TE := fun σ H Q => ∃ h, tE (S.wh h) Wx (fun env => evE prog o env ce) σ H Q
theorem r_lc (hW : ∀ σ σ', Wx σ = Wx σ') {t : CT} {s : CI} {c : CO} {ce : CE} {vs : List Nat} {σ : L2.St} {Q : VK} (h : tE S Wx (fun env => evE prog o env (.comp vs ce (.cons t s c .nil))) σ H Q) :
    tLc (tI S Wx fun env => evI prog o env s) (gC S Wx prog o vs t) (tC' S Wx prog o c) (eC S Wx prog o ce) vs σ H Q := by
  obtain ⟨ρ, M, env, A, E, P⟩ := h
  refine lc_read (S := S) (h0 := S.hid) (k := fun xs M => Rs.ok (PV.lst xs) M) hW A E P fun xs M' ρ1 H1 ρ' H' D ws x1 hD x2 A2 nD eD r P2 => ?_
  have hh : ¬ S.hid D := fun z => (A.hd D z) (by
    cases q : H D with
    | none => rfl
    | some u => exact absurd hD (x1.dom D (by rw [q]; exact fun z => by cases z)))
  exact P2 ρ' H' x2 (abs_close A2) _ (rep_closed nD hh eD r)
theorem ext_place {D : Addr} (x : Ext ρ H ρ2 H2) (hD : H D = none) : Ext ρ H (ρ2 ++ [D]) H2 := by
  obtain ⟨l, e, f⟩ := x.pre
  exact ⟨⟨l ++ [D], by rw [e, List.append_assoc], fun a ha => by
    rcases List.mem_append.mp ha with m | m
    · exact f a m
    · rw [List.mem_singleton.mp m]; exact hD⟩, x.keep, x.dom, x.frz⟩
theorem r_mklc (hW : ∀ σ σ', Wx σ = Wx σ') {t : CT} {s : CI} {c : CO} {ce : CE} {vs : List Nat} {σ : L2.St} {Q : VK} (h : tE S Wx (fun env => evE prog o env (.mk (.comp vs ce (.cons t s c .nil)))) σ H Q) :
    tLc (tI S Wx fun env => evI prog o env s) (gC S Wx prog o vs t) (tC' S Wx prog o c) (eC S Wx prog o ce) vs σ H Q := by
  obtain ⟨ρ, M, env, A, E, P⟩ := h
  have P : Post S ρ H (((evG prog o (fun env M acc => (evE prog o env ce M).bind (accR acc)) (Pf.wipe vs env) env (.cons t s c .nil) M []).bind fun xs M => Rs.ok (PV.lst xs) M).bind mkR) _ (Wx σ) := P
  rw [Rs.bind_assoc] at P
  refine lc_read (S := S) (h0 := S.hid) (k := fun xs M => newO (PO.lst xs) M) hW A E P fun xs M' ρ1 H1 ρ' H' D ws x1 hD x2 A2 nD eD r P2 => ?_
  have A3 := abs_place (p := .lst xs) A2 nD eD ⟨ws, rfl, RepL.mv mv_place xs r⟩
  refine P2 (ρ' ++ [D]) H' (ext_place x2 hD) A3 _ ⟨D, rfl, ?_⟩
  rw [A2.len]
  simp
theorem blk_pts {Y : Cx} {ifs : List PySem.Expr} {c : CO} (h : (ifs = [] ∧ c = .n) ∨ ∃ e ce, ifs = [e] ∧ c = .s ce ∧ ∀ h, PT Y e (tT (S.wh h) Wx (tst fun env => evE prog o env ce))) : PTs Y ifs (tC' S Wx prog o c) := by
  rcases h with ⟨rfl, rfl⟩ | ⟨e, ce, rfl, rfl, h⟩
  · exact ⟨fun pins s σ H Q I ⟨h, ρ, M, env, A, E, P⟩ => pts_nil.run pins s σ H Q I ((show Post (S.wh h) ρ H (Rs.ok true M) (fun v _ _ H' => Q v H') (Wx σ) from P).now A)⟩
  · exact ⟨fun pins s σ H Q I ⟨hh, q⟩ => (pts_one (h hh)).run pins s σ H Q I q⟩
section
variable {elt tg iter : PySem.Expr} {ifs : List PySem.Expr} {scope : PySem.Scope} {own : List (Str × Nat)} {pos : Pos} {t : CT} {s : CI} {c : CO} {ce : CE}
structure BlkS (S : Sta) (Wx : WP) (prog : Prog) (o : Orc) (X : Cx) (elt tg : PySem.Expr) (ifs : List PySem.Expr) (scope : PySem.Scope) (vs : List Nat) (t : CT) (c : CO) (ce : CE) : Prop where
  g : ∀ h (s : Shared) (H : Hp) (C : Addr) (cl : List (Str × Addr)) (fp : List Addr), PG (X.blk s H scope (compEnvC scope cl C X.env) fp) tg (tG (Sta.wh S h) Wx (kW vs) fun p env M => evT prog o env t p M)
  i : ∀ (s : Shared) (H : Hp) (C : Addr) (cl : List (Str × Addr)) (fp : List Addr), (ifs = [] ∧ c = .n) ∨ ∃ e ce, ifs = [e] ∧ c = .s ce ∧ ∀ h, PT (X.blk s H scope (compEnvC scope cl C X.env) fp) e (tT (Sta.wh S h) Wx (tst fun env => evE prog o env ce))
  e : ∀ h (s : Shared) (H : Hp) (C : Addr) (cl : List (Str × Addr)) (fp : List Addr), PE (X.blk s H scope (compEnvC scope cl C X.env) fp) elt (tE (Sta.wh S h) Wx fun env => evE prog o env ce)
theorem PG.ex {Y : Cx} {e : PySem.Expr} {g : (Addr → Prop) → TG} (h : ∀ k, PG Y e (g k)) : PG Y e (fun v σ H Q => ∃ k, g k v σ H Q) :=
  ⟨fun pins s σ H v u Q I r ⟨k, q⟩ => (h k).run pins s σ H v u Q I r q⟩
theorem PE.ex {Y : Cx} {e : PySem.Expr} {g : (Addr → Prop) → TE} (h : ∀ k, PE Y e (g k)) : PE Y e (fun σ H Q => ∃ k, g k σ H Q) :=
  ⟨fun pins s σ H Q I ⟨k, q⟩ => (h k).run pins s σ H Q I q⟩
theorem s_lc (hW : ∀ σ σ', Wx σ = Wx σ') (hc : X.calm = true) (hN : X.N.Nodup) (hi : L2.PI X tg iter (tI S Wx fun env => evI prog o env s)) (ok : BlkOk X.N X.env.scope scope own)
    (b : BlkS S Wx prog o X elt tg ifs scope (own.map (·.2)) t c ce) (hf : ∀ x : Value, foldedSetIterable iter X.env x = pure x) :
    PE X (.ListComp elt [⟨tg, iter, ifs, 0⟩] scope pos) (tE S Wx fun env => evE prog o env (.comp (own.map (·.2)) ce (.cons t s c .nil))) :=
  PE.imp (pe_lc hc hN hi ok (fun s H C cl fp => PG.ex fun h => b.g h s H C cl fp) (fun s H C cl fp => blk_pts (b.i s H C cl fp)) (fun s H C cl fp => PE.ex fun h => b.e h s H C cl fp) hf) fun σ H Q h => r_lc hW h
theorem s_mklc (hW : ∀ σ σ', Wx σ = Wx σ') (hc : X.calm = true) (hN : X.N.Nodup) (hi : L2.PI X tg iter (tI S Wx fun env => evI prog o env s)) (ok : BlkOk X.N X.env.scope scope own)
    (b : BlkS S Wx prog o X elt tg ifs scope (own.map (·.2)) t c ce) (hf : ∀ x : Value, foldedSetIterable iter X.env x = pure x) :
    PE X (.ListComp elt [⟨tg, iter, ifs, 0⟩] scope pos) (tE S Wx fun env => evE prog o env (.mk (.comp (own.map (·.2)) ce (.cons t s c .nil)))) :=
  PE.imp (pe_lc hc hN hi ok (fun s H C cl fp => PG.ex fun h => b.g h s H C cl fp) (fun s H C cl fp => blk_pts (b.i s H C cl fp)) (fun s H C cl fp => PE.ex fun h => b.e h s H C cl fp) hf) fun σ H Q h => r_mklc hW h
theorem c_setLc (hW : ∀ σ σ', Wx σ = Wx σ') (hc : X.calm = true) (hN : X.N.Nodup) {i : Nat} {y : Str} {py spos : Pos} (hy : X.N[i]? = some y) (hyl : List.lookup y X.env.scope.names = some NameKind.local)
    (hsw : swapsWith (.ListComp elt [⟨tg, iter, ifs, 0⟩] scope pos) (some (.Name y py)) spos.line X.env = pure true) (hi : L2.PI X tg iter (tI S Wx fun env => evI prog o env s)) (ok : BlkOk X.N X.env.scope scope own)
    (b : BlkS S Wx prog o X elt tg ifs scope (own.map (·.2)) t c ce) (hf : ∀ x : Value, foldedSetIterable iter X.env x = pure x) {d : CE} (hd : d = .comp (own.map (·.2)) ce (.cons t s c .nil) ∨ d = .mk (.comp (own.map (·.2)) ce (.cons t s c .nil))) :
    L2.PS X (.Assign [.Name y py] (.ListComp elt [⟨tg, iter, ifs, 0⟩] scope pos) spos) (tS S Wx fun env => evS prog o hx env (.asg (.v i) d)) :=
  PS.imp (ps_setLc hc hN hy hyl hsw hi ok (fun s H C cl fp => PG.ex fun h => b.g h s H C cl fp) (fun s H C cl fp => blk_pts (b.i s H C cl fp)) (fun s H C cl fp => PE.ex fun h => b.e h s H C cl fp) hf) fun D σ H ⟨ρ, M, env, A, E, P⟩ => by
    have h := tE_seq (d := fun env => evE prog o env d) (k := fun x M => (evT prog o env (.v i) x M).bind fun env M => Rs.ok (Fl.nx env) M) A E P
    have fin : tE S Wx (fun env => evE prog o env d) σ H (fun x H1 => gName i x σ H1 D.nx) := tE_mono h fun x H1 ⟨v, M1, ρ1, A1, E1, x1, r1, P1⟩ =>
      (show Post S ρ1 H1 (Rs.ok (Fl.nx (setAt env i (some v))) M1) (okS S D) (Wx σ) from P1).now A1 _ (repE_set E1 r1)
    rcases hd with rfl | rfl
    · exact r_lc hW fin
    · exact r_mklc hW fin
end
end
end Pf
end
section
set_option Elab.async false
set_option linter.all false
set_option maxRecDepth 100000
set_option maxHeartbeats 4000000
namespace Pf
open PySem PySem.Spec PyProof.Rows L2
section
variable {S : Sta} {Wx : WP} {X : Cx} {α : Type} {prog : Prog} {o : Orc} {H H2 : Hp} {ρ ρ2 : List Addr} {M : Sto} {v : PV} {x : V} {hx : Option Exn} {h1 h2 : Addr → Prop}
theorem dc_read (hW : ∀ σ σ', Wx σ = Wx σ') {h0 : Addr → Prop} {σ : L2.St} {Q : VK} {t : CT} {s : CI} {c : CO} {ck ce : CE} {vs : List Nat} {env : Env} {k : List PV → Sto → Rs α} {okP : α → Sto → List Addr → Hp → Prop}
    (A : Abs (S.wh h0) H ρ M) (E : RepE (S.wh h0) H ρ env σ)
    (P : Post (S.wh h0) ρ H ((evG prog o (fun env M (acc : List PV) => (evE prog o env ck M).bind fun x M => (evE prog o env ce M).bind fun y M => dAcc acc x y M) (Pf.wipe vs env) env (.cons t s c .nil) M [.dic []]).bind k) okP (Wx σ))
    (hF : ∀ xs M' ρ1 H1 ρ' H' D ws, Ext ρ H ρ1 H1 → H1 D = none → Ext ρ1 H1 ρ' H' → Abs (S.wh (plus h0 D)) H' ρ' M' → D ∉ ρ' → H' D = some (.dK ws) → RepD (S.wh (plus h0 D)) H' ρ' xs ws → Post (S.wh h0) ρ1 H1 (k [PV.dic xs] M') okP (Wx σ) → Q (.ref D) H') :
    tDc (tI (S.wh h0) Wx fun env => evI prog o env s) (fun v σ H Q => ∃ h, tG (S.wh h) Wx (kW vs) (fun p env M => evT prog o env t p M) v σ H Q) (fun σ H Q => ∃ h, tT (S.wh h) Wx (condR prog o c) σ H Q)
      (fun σ H Q => ∃ h, tE (S.wh h) Wx (fun env => evE prog o env ck) σ H Q) (fun σ H Q => ∃ h, tE (S.wh h) Wx (fun env => evE prog o env ce) σ H Q) vs σ H Q := by
  rw [evG_one, Rs.bind_assoc] at P
  refine ⟨ρ, M, env, A, E, P.bind.imp (fun src M1 ρ1 H1 _ x1 A1 P1 J hJ D hD => ?_) fun _ _ _ _ _ _ P => P⟩
  have E1 := E.ext x1
  refine ⟨fun i m Hc => ∃ ρc Mc acc ws, Ext ρ1 H1 ρc Hc ∧ Abs (S.wh (plus h0 D)) Hc ρc Mc ∧ D ∉ ρc ∧ Hc D = some (.dK ws) ∧ RepD (S.wh (plus h0 D)) Hc ρc acc ws ∧
    Post (S.wh h0) ρ1 H1 ((walk src (turnL prog o (Pf.wipe vs env) t c (fun env M (acc : List PV) => (evE prog o env ck M).bind fun x M => (evE prog o env ce M).bind fun y M => dAcc acc x y M)) m i [PV.dic acc] Mc).bind k) okP (Wx σ),
    ⟨_, ρ1, M1, [], [], ext_new hD, abs_open A1 hD, (A1.fresh hD).1, upd_same, rfl, P1⟩, ?_⟩
  intro i m Hc ⟨ρc, Mc, acc, ws, xc, Ac, nD, eD, rc, Pc⟩
  cases m with
  | zero => exact (show False from Pc).elim
  | succ m =>
    obtain ⟨hstop, hgo⟩ := hJ (plus h0 D) ρc Hc Mc i (mv_loop xc hD) xc.frz Ac
    have Pc : Post (S.wh h0) ρ1 H1 ((match src.at Mc i with
      | none => Rs.no "walk at"
      | some none => Rs.ok [PV.dic acc] Mc
      | some (some x) => (turnL prog o (Pf.wipe vs env) t c (fun env M (acc : List PV) => (evE prog o env ck M).bind fun x M => (evE prog o env ce M).bind fun y M => dAcc acc x y M) x [PV.dic acc] Mc).bind fun b M => walk src (turnL prog o (Pf.wipe vs env) t c (fun env M (acc : List PV) => (evE prog o env ck M).bind fun x M => (evE prog o env ce M).bind fun y M => dAcc acc x y M)) m (i + 1) b M).bind k) okP (Wx σ) := Pc
    split at Pc
    · exact Pc.elim
    · rename_i e
      exact .inl ⟨hstop e, hF acc Mc ρ1 H1 ρc Hc D ws x1 hD xc Ac nD eD rc Pc⟩
    · rename_i p e
      obtain ⟨g1, g2⟩ := hgo p e
      refine .inr ⟨g1, fun H' => ∃ ρc Mc acc ws, Ext ρ1 H1 ρc H' ∧ Abs (S.wh (plus h0 D)) H' ρc Mc ∧ D ∉ ρc ∧ H' D = some (.dK ws) ∧ RepD (S.wh (plus h0 D)) H' ρc acc ws ∧
        Post (S.wh h0) ρ1 H1 ((walk src (turnL prog o (Pf.wipe vs env) t c (fun env M (acc : List PV) => (evE prog o env ck M).bind fun x M => (evE prog o env ce M).bind fun y M => dAcc acc x y M)) m (i + 1) [PV.dic acc] Mc).bind k) okP (Wx σ), fun H' h => ⟨m, Nat.lt_succ_self m, h⟩, fun v H3 hy => ?_⟩
      obtain ⟨x3, A3, r3⟩ := g2 v H3 hy
      rw [Rs.bind_assoc] at Pc
      unfold turnL at Pc
      rw [Rs.bind_assoc] at Pc
      have wk : ∀ H' ρ' M', Abs (S.wh (plus h0 D)) H' ρ' M' → Abs (S.wh h0) H' ρ' M' := fun _ _ _ A => abs_close A
      have Ew : RepE (S.wh (plus h0 D)) H3 ρc (Pf.wipe vs env) (L2.wipe σ vs) := repE_wipe ((RepE.mv (mv_loop xc hD) E1).ext x3)
      refine ⟨plus h0 D, ρc, Mc, Pf.wipe vs env, p, A3, Ew, r3, ?_⟩
      rw [hW (L2.wipe σ vs) σ]
      refine (Pc.re (xc.trans x3) wk).imp (fun env4 M4 ρ4 H4 _ _ A4 ⟨x4, P4⟩ σ4 E4 k4 => ⟨kW_wipe k4, ?_⟩) fun _ _ _ _ _ _ P => P
      rw [Rs.bind_assoc] at P4
      have x14 := (xc.trans x3).trans x4
      refine ⟨plus h0 D, ρ4, M4, env4, A4, E4, ?_⟩
      rw [hW σ4 σ]
      refine (P4.re x14 wk).imp (fun b M5 ρ5 H5 _ _ A5 ⟨x5, P5⟩ => ?_) fun _ _ _ _ _ _ P => P
      have x15 := x14.trans x5
      have D3 := x3.keep D _ eD nD
      have n4 := x4.nmem D3 nD
      have D4 := x4.keep D _ D3 nD
      have n5 := x5.nmem D4 n4
      have D5 := x5.keep D _ D4 n4
      have r5 := RepD.ext x5 _ (RepD.ext x4 _ (RepD.ext x3 _ rc))
      cases b with
      | false => exact ⟨ρ5, M5, acc, ws, x15, A5, n5, D5, r5, P5⟩
      | true =>
        show ∃ h, tE (S.wh h) Wx (fun env => evE prog o env ck) σ4 H5 _
        rw [Rs.bind_assoc] at P5
        refine ⟨plus h0 D, ρ5, M5, env4, A5, E4.ext x5, ?_⟩
        rw [hW σ4 σ]
        refine (P5.re x15 wk).imp (fun y M6 ρ6 H6 _ _ A6 ⟨x6, P6⟩ w rw' => ?_) fun _ _ _ _ _ _ P => P
        have n6 := x6.nmem D5 n5
        have D6 := x6.keep D _ D5 n5
        have r6 := RepD.ext x6 _ r5
        have x16 := x15.trans x6
        rw [Rs.bind_assoc] at P6
        refine ⟨plus h0 D, ρ6, M6, env4, A6, (E4.ext x5).ext x6, ?_⟩
        rw [hW σ4 σ]
        refine (P6.re x16 wk).imp (fun z M7 ρ7 H7 _ _ A7 ⟨x7, P7⟩ u ru => ?_) fun _ _ _ _ _ _ P => P
        have n7 := x7.nmem D6 n6
        have D7 := x7.keep D _ D6 n6
        have r7 := RepD.ext x7 _ r6
        have x17 := x16.trans x7
        have P7 : Post (S.wh h0) ρ1 H1 ((match keyOk y && Nat.blt acc.length cap with
          | true => Rs.ok [PV.dic (dput y z acc)] M7
          | false => .no "a dict's key").bind fun b M => (walk src (turnL prog o (Pf.wipe vs env) t c (fun env M (acc : List PV) => (evE prog o env ck M).bind fun x M => (evE prog o env ce M).bind fun y M => dAcc acc x y M)) m (i + 1) b M).bind k) okP (Wx σ) := P7
        split at P7
        · rename_i hb
          rw [Bool.and_eq_true] at hb
          obtain ⟨q, hq⟩ := keyP_of hb.1
          refine ⟨ws, q, keyP_rep hq rw', D7, ?_, ?_⟩
          · rw [← r7.len, sizeLine_eq]
            exact Nat.le_of_ble_eq_true hb.2
          · refine ⟨ρ7, M7, dput y z acc, putK ws q u, ?_, abs_turn A7 n7, n7, upd_same, ?_, P7⟩
            · exact ⟨x17.pre, fun a o e n => by rw [upd_ne (ne_of_none e hD)]; exact x17.keep a o e n, fun a e => by
                by_cases q : a = D
                · exact absurd (q ▸ hD) e
                · rw [upd_ne q]; exact x17.dom a e, fun a o u e => by rw [upd_ne (ne_of_none e hD)]; exact x17.frz a o u e⟩
            · exact (RepD.mv (mv_turn n7) _ r7).put hq (Rep.mv (mv_turn n7) z ru)
        · exact P7.elim
theorem r_mkdc (hW : ∀ σ σ', Wx σ = Wx σ') {t : CT} {s : CI} {c : CO} {ck ce : CE} {vs : List Nat} {σ : L2.St} {Q : VK} (h : tE S Wx (fun env => evE prog o env (.mk (.dcomp vs ck ce (.cons t s c .nil)))) σ H Q) :
    tDc (tI S Wx fun env => evI prog o env s) (gC S Wx prog o vs t) (tC' S Wx prog o c) (eC S Wx prog o ck) (eC S Wx prog o ce) vs σ H Q := by
  obtain ⟨ρ, M, env, A, E, P⟩ := h
  have P : Post S ρ H (((evG prog o (fun env M (acc : List PV) => (evE prog o env ck M).bind fun x M => (evE prog o env ce M).bind fun y M => dAcc acc x y M) (Pf.wipe vs env) env (.cons t s c .nil) M [.dic []]).bind dFin).bind mkR) _ (Wx σ) := P
  rw [Rs.bind_assoc] at P
  refine dc_read (S := S) (h0 := S.hid) (k := fun xs M => (dFin xs M).bind mkR) hW A E P fun xs M' ρ1 H1 ρ' H' D ws x1 hD x2 A2 nD eD r P2 => ?_
  have A3 := abs_place (p := .dic xs) A2 nD eD ⟨ws, rfl, RepD.mv mv_place xs r⟩
  refine P2 (ρ' ++ [D]) H' (ext_place x2 hD) A3 _ ⟨D, rfl, ?_⟩
  rw [A2.len]
  simp
end
end Pf
end
section
set_option Elab.async false
set_option linter.all false
set_option maxRecDepth 100000
set_option maxHeartbeats 4000000
namespace Pf
open PySem PySem.Spec PyProof.Rows L2
section
variable {S : Sta} {Wx : WP} {X : Cx} {α : Type} {prog : Prog} {o : Orc} {H H2 : Hp} {ρ ρ2 : List Addr} {M : Sto} {v : PV} {x : V} {hx : Option Exn} {h1 h2 : Addr → Prop}
section
variable {elt kx tg iter : PySem.Expr} {ifs : List PySem.Expr} {scope : PySem.Scope} {own : List (Str × Nat)} {pos : Pos} {t : CT} {s : CI} {c : CO} {ck ce : CE}
theorem s_mkdc (hW : ∀ σ σ', Wx σ = Wx σ') (hc : X.calm = true) (hN : X.N.Nodup) (hi : L2.PI X tg iter (tI S Wx fun env => evI prog o env s)) (ok : BlkOk X.N X.env.scope scope own)
    (b : BlkS S Wx prog o X elt tg ifs scope (own.map (·.2)) t c ce) (bk : BlkS S Wx prog o X kx tg ifs scope (own.map (·.2)) t c ck) (hf : ∀ x : Value, foldedSetIterable iter X.env x = pure x) :
    PE X (.DictComp kx elt [⟨tg, iter, ifs, 0⟩] scope pos) (tE S Wx fun env => evE prog o env (.mk (.dcomp (own.map (·.2)) ck ce (.cons t s c .nil)))) :=
  PE.imp (pe_dc hc hN hi ok (fun s H C cl fp => PG.ex fun h => b.g h s H C cl fp) (fun s H C cl fp => blk_pts (b.i s H C cl fp)) (fun s H C cl fp => PE.ex fun h => bk.e h s H C cl fp) (fun s H C cl fp => PE.ex fun h => b.e h s H C cl fp) hf) fun σ H Q h => r_mkdc hW h
end
inductive DispS (S : Sta) (Wx : WP) (prog : Prog) (o : Orc) (X : Cx) (pos : Pos) : List (Option PySem.Expr) → List PySem.Expr → List (List Nat) → CL → List (TE × TE) → Prop
  | nil : DispS S Wx prog o X pos [] [] [] .nil []
  | cons {k : List Nat} {j : Nat} {p : Pos} {e : PySem.Expr} {c : CE} {ks es qs cs trs} : PE X e (tE S Wx fun env => evE prog o env c) → DispS S Wx prog o X pos ks es qs cs trs →
    DispS S Wx prog o X pos (some (.Constant (.str (sv k)) j p) :: ks) (e :: es) (k :: qs) (.cons c cs) ((tC (.str (sv k)), tE S Wx fun env => evE prog o env c) :: trs)
theorem disp_pps {pos : Pos} {ks es qs cs trs} (d : DispS S Wx prog o X pos ks es qs cs trs) : PPs X pos ks es trs ∧ (ks.all fun x => x.isSome) = true ∧ ks.length = es.length ∧ ks.length = qs.length ∧ cs.len = qs.length := by
  induction d with
  | nil => exact ⟨pps_nil, rfl, rfl, rfl, rfl⟩
  | cons h _ ih => exact ⟨pps_cons pe_str h ih.1, by simpa using ih.2.1, by simpa using ih.2.2.1, by simpa using ih.2.2.2.1, by simpa [CL.len] using ih.2.2.2.2⟩
def kvOf (q : List Nat) (v : V) : Key × V := (.inr (sv q), v)
theorem disp_read {pos : Pos} {ks es qs cs trs} (d : DispS S Wx prog o X pos ks es qs cs trs) : ∀ {σ : L2.St} {H : Hp} {ρ : List Addr} {M : Sto} {env : Env} {k : List PV → Sto → Rs α} {okP : α → Sto → List Addr → Hp → Prop} {Q : List (V × V) → Hp → Prop},
    Abs S H ρ M → RepE S H ρ env σ → Post S ρ H ((evL prog o env cs M).bind k) okP (Wx σ) →
    (∀ vs xs M2 ρ2 H2, Abs S H2 ρ2 M2 → Ext ρ H ρ2 H2 → RepL S H2 ρ2 xs vs → xs.length = qs.length → Post S ρ2 H2 (k xs M2) okP (Wx σ) → Q ((List.zipWith kvOf qs vs).map fun kv => (kV kv.1, kv.2)) H2) → tPairs trs σ H Q := by
  induction d with
  | nil =>
    intro σ H ρ M env k okP Q A E P f
    exact f [] [] M ρ H A Ext.refl rfl rfl P
  | cons h _ ih =>
    rename_i c _ _ qs cs trs _
    intro σ H ρ M env k okP Q A E P f
    have e : (evL prog o env (.cons c cs) M).bind k = (evE prog o env c M).bind fun x M => (evL prog o env cs M).bind fun xs M => k (x :: xs) M := by
      show ((evE prog o env c M).bind fun x M => (evL prog o env cs M).bind fun xs M => Rs.ok (x :: xs) M).bind k = _
      rw [Rs.bind_assoc]
      congr 1
      funext x M
      rw [Rs.bind_assoc]
      rfl
    rw [e] at P
    show tC _ σ H fun k1 H1 => tE S Wx (fun env => evE prog o env c) σ H1 fun v1 H2 => tPairs trs σ H2 fun ps H3 => Q ((k1, v1) :: ps) H3
    refine tE_mono (tE_seq (d := fun env => evE prog o env c) A E P) fun x H1 ⟨v, M1, ρ1, A1, E1, x1, r1, P1⟩ => ?_
    refine ih A1 E1 P1 fun vs xs M2 ρ2 H2 A2 x2 r2 l2 P2 => ?_
    exact f (x :: vs) (v :: xs) M2 ρ2 H2 A2 (x1.trans x2) ⟨_, _, rfl, Rep.ext x2 v r1, r2⟩ (by simp [l2]) P2
theorem disp_merge {qs : List (List Nat)} : ∀ {xs : List PV} {vs : List V} {d : List (PV × PV)} {ks : List (Key × V)}, xs.length = qs.length → RepL S H ρ xs vs → RepD S H ρ d ks →
    RepD S H ρ (((qs.map PV.str).zip xs).foldl (fun d kv => dput kv.1 kv.2 d) d) (mergeK ks (List.zipWith kvOf qs vs)) := by
  induction qs with
  | nil =>
    intro xs vs d ks l r h
    cases xs with
    | nil => cases r; exact h
    | cons _ _ => cases l
  | cons q qs ih =>
    intro xs vs d ks l r h
    cases xs with
    | nil => cases l
    | cons x xs =>
      obtain ⟨v, ws, rfl, r1, r2⟩ := r
      exact ih (by simpa using l) r2 (RepD.put (k := .str q) rfl r1 h)
theorem s_mkd {ks : List (Option PySem.Expr)} {es : List PySem.Expr} {qs : List (List Nat)} {cs : CL} {trs : List (TE × TE)} {pos : Pos} (d : DispS S Wx prog o X pos ks es qs cs trs) (h0 : ks ≠ []) (h15 : ks.length ≤ 15) :
    PE X (.Dict ks es pos) (tE S Wx fun env => evE prog o env (.mkd (qs.map PV.str) cs)) := by
  obtain ⟨p1, p2, p3, p4, p5⟩ := disp_pps d
  refine PE.imp (pe_disp p1 p2 p3 h0 h15) fun σ H Q ⟨ρ, M, env, A, E, P⟩ p hp => ?_
  have A1 : Abs S (upd H p (.dK [])) (ρ ++ [p]) (M ++ [.dic []]) := abs_loc A hp (repH_dic hp (show RepD S H ρ [] [] from rfl))
  have P : Post S ρ H ((evL prog o env cs (M ++ [.dic []])).bind fun xs M1 => mkdR (qs.map PV.str) xs M.length M1) _ (Wx σ) := P
  refine disp_read d A1 (E.ext (ext_loc hp)) (P.ext (ext_loc hp)) fun vs xs M2 ρ2 H2 A2 x2 r2 l2 P2 => ?_
  have hn : ρ2[M.length]? = some p := x2.get (by rw [A.len]; simp)
  have P2 : Post S ρ2 H2 (match M2[M.length]? with
    | some (.dic []) => Rs.ok (PV.loc M.length) (setAt M2 M.length (.dic (((qs.map PV.str).zip xs).foldl (fun d kv => dput kv.1 kv.2 d) [])))
    | _ => .no "mkd") (fun v _ ρ' H' => ∀ x, Rep S H' ρ' v x → Q x H') (Wx σ) := P2
  split at P2
  · rename_i e
    obtain ⟨p', u, hp', ho, k0, rfl, rd⟩ := A2.get e
    rw [hn] at hp'; cases hp'
    cases rd
    refine ⟨ho, List.zipWith kvOf qs vs, rfl, ?_, ?_⟩
    · rw [List.length_zipWith, ← r2.len, l2]
      omega
    · have x3 : Ext ρ2 H2 ρ2 (upd H2 p (.dK (mergeK [] (List.zipWith kvOf qs vs)))) := ext_write (M := M2) (List.mem_of_getElem? hn) ho
      exact P2 ρ2 _ x3 (abs_write A2 hn ho ⟨_, rfl, disp_merge l2 r2 (show RepD S H2 ρ2 [] [] from rfl)⟩) _ ⟨p, rfl, hn⟩
  · exact P2.elim
end
end Pf
end
section
set_option Elab.async false
set_option linter.all false
set_option maxRecDepth 100000
set_option maxHeartbeats 4000000
namespace Pf
open PySem PySem.Spec PyProof.Rows L2
section
variable {S : Sta} {Wx : WP} {X : Cx} {α : Type} {prog : Prog} {o : Orc} {H H2 : Hp} {ρ ρ2 : List Addr} {M : Sto} {v : PV} {x : V} {hx : Option Exn} {h1 h2 : Addr → Prop}
theorem s_append (hK : X.K = S.K) {a e : PySem.Expr} {c d : CE} {apos cpos : Pos} (ha : PE X a (tE S Wx fun env => evE prog o env c)) (he : PE X e (tE S Wx fun env => evE prog o env d)) (hn : noStar [e] = true)
    (hb : attributeBase a (Str.ofString "append") X.env (eval a X.env) = eval a X.env) (hp : (apos.endLine == cpos.line) = true)
    (h2 : (((backTo cpos (starEach [e] X.env)).all fun x => !x.fst) && (backToKw cpos (keywordEach [] X.env)).all fun x => x.fst.isSome) && decide (([e] : List PySem.Expr).length + ([] : List Keyword).length + (if ([] : List Keyword).isEmpty = true then 0 else 1) < 30) = true) :
    PE X (.Call (.Attribute a (Str.ofString "append") apos) [e] [] cpos) (tE S Wx fun env => evE prog o env (.sm .append c (.cons d .nil))) :=
  PE.imp (pe_bm PySem.F.plainAttrs_list PySem.F.slot_list_append PySem.F.type_list_append mt_append ha (pa_cons he pa_nil (star_of hn)) hb h2 hp (star_of hn) rfl) fun σ H Q ⟨ρ, M, env, A, E, P⟩ => by
    have P : Post S ρ H ((evE prog o env c M).bind fun x M => match smOk .append x M with
      | true => (evL prog o env (.cons d .nil) M).bind fun vs M => smV .append x vs M
      | false => .no "a method of another") (fun v _ ρ' H' => ∀ x, Rep S H' ρ' v x → Q x H') (Wx σ) := P
    refine tE_mono (tE_seq (d := fun env => evE prog o env c) A E P) fun x H1 ⟨v, M1, ρ1, A1, E1, x1, r1, P1⟩ => ?_
    split at P1
    · rename_i hl
      have hl : isLst (deref M1 v) = true := hl
      have ty : tyV X.K "list" x H1 := by
        generalize e : deref M1 v = w at hl
        cases w with
        | lst xs =>
          obtain ⟨p, vs, rfl, t, _⟩ := d_lst A1 r1 e
          exact .inl ⟨rfl, vs, by rw [hK]; exact t⟩
        | _ => cases hl
      refine ⟨ty, ?_⟩
      have e2 : ((evL prog o env (.cons d .nil) M1).bind fun vs M => smV .append v vs M) = (evE prog o env d M1).bind fun y M => ofA (appV v y M) := by
        show (((evE prog o env d M1).bind fun y M => (Rs.ok [] M).bind fun ys M => Rs.ok (y :: ys) M).bind fun vs M => smV .append v vs M) = _
        rw [Rs.bind_assoc]
        rfl
      rw [e2] at P1
      refine tE_mono (tE_seq (d := fun env => evE prog o env d) A1 E1 P1) fun y H2 ⟨w, M2, ρ2, A2, E2, x2, r2, P2⟩ => ?_
      have r1 := Rep.ext x2 v r1
      cases q : appV v w M2 with
      | none => rw [q] at P2; exact P2.elim
      | some M3 =>
        rw [q] at P2
        have P2 : Post S ρ2 H2 (Rs.ok PV.non M3) (fun v _ ρ' H' => ∀ x, Rep S H' ρ' v x → Q x H') (Wx σ) := P2
        unfold appV at q
        split at q
        · rename_i n
          split at q
          · rename_i xs e
            split at q
            · rename_i hb
              cases q
              obtain ⟨p, rfl, hp⟩ := r1
              obtain ⟨b, u, hb', ho, vs, rfl, rl⟩ := A2.get e
              rw [hp] at hb'; cases hb'
              refine ⟨p, vs, y, rfl, rfl, ho, ?_, ?_⟩
              · rw [← rl.len, sizeLine_eq]
                exact Nat.le_of_ble_eq_true hb
              · exact P2 ρ2 _ (ext_write (M := M2) (List.mem_of_getElem? hp) ho) (abs_write A2 hp ho ⟨_, rfl, rl.app ⟨y, [], rfl, r2, rfl⟩⟩) _ rfl
            · cases q
          · cases q
        · cases q
    · exact P1.elim
end
end Pf
end
section
set_option Elab.async false
set_option linter.all false
set_option maxRecDepth 100000
set_option maxHeartbeats 400000
namespace Pf
open PySem PySem.Spec PyProof.Rows L2
section
variable {S : Sta} {Wx : WP} {X : Cx} {α : Type} {prog : Prog} {o : Orc} {H H2 : Hp} {ρ ρ2 : List Addr} {M : Sto} {v : PV} {x : V} {hx : Option Exn} {h1 h2 : Addr → Prop}
def setR : List (Nat × V) → L2.St → L2.St
  | [], σ => σ
  | p :: r, σ => setR r (List.set σ p.1 (some p.2))
theorem aio {L : List (Str × Nat)} (hN : X.N.Nodup) : ∀ {pins : List (Addr × Obj)} {σ : L2.St} {H : Hp} {s : Shared} {us : List Value} {vs : List V} {Q : Unit → Shared → Prop}, (∀ p ∈ L, X.N[p.2]? = some p.1 ∧ List.lookup p.1 X.env.scope.names = some NameKind.local) →
    L2.Inv X pins σ H s → Vals vs us → vs.length = L.length → (∀ s', L2.Inv X pins (setR ((L.map (·.2)).zip vs) σ) H s' → Q () s') → wpAny (model X.prog X.w) X.A (assignInOrder (L.map fun p => bindName X.env p.1) us) Q X.xe s := by
  induction L with
  | nil =>
    intro pins σ H s us vs Q hp I rv hl hQ
    exact assignInOrder_nil (hQ s (by simpa [setR] using I))
  | cons p L ih =>
    intro pins σ H s us vs Q hp I rv hl hQ
    cases rv with
    | nil => cases hl
    | cons r1 r2 =>
      have h := hp p List.mem_cons_self
      refine assignInOrder_cons (wpAny_bindName (store_ok I hN h.1 (.inl h.2) r1 (fun s' I' => ?_) (.inr h.2)))
      exact ih (fun q hq => hp q (List.mem_cons_of_mem _ hq)) I' r2 (by simpa using hl) hQ
theorem vals_rev {vs : List V} {us : List Value} (h : Vals vs us) : Vals vs.reverse us.reverse := by
  induction h with
  | nil => exact Paired.nil
  | cons a _ ih =>
    rw [List.reverse_cons, List.reverse_cons]
    exact Vals.append ih (Paired.cons a Paired.nil)
def tParN (L : List (Str × Nat)) (ta : TA) : TS := fun D σ H => ta σ H fun vs H1 => vs.length = L.length ∧ D.nx (setR ((L.map (·.2)).zip vs).reverse σ) H1
theorem zip_rev {β γ : Type} : ∀ {a : List β} {b : List γ}, a.length = b.length → (a.zip b).reverse = a.reverse.zip b.reverse
  | [], [], _ => rfl
  | x :: a, y :: b, h => by
    have h' : a.length = b.length := by simpa using h
    rw [List.zip_cons_cons, List.reverse_cons, List.reverse_cons, List.reverse_cons, zip_rev h', List.zip_append (by simp [h'])]
    rfl
theorem ps_parN {L : List (Str × Nat)} {ts es : List PySem.Expr} {ta : TA} {kt k2 : Nat} {pt pt2 pos : Pos} (hc : X.calm = true) (hN : X.N.Nodup) (hp : ∀ p ∈ L, X.N[p.2]? = some p.1 ∧ List.lookup p.1 X.env.scope.names = some NameKind.local) (ha : PA X es ta)
    (hl : L.length ≤ 3) (hw : swappedStores [.Tuple ts kt pt] (.Tuple es k2 pt2) X.env = pure (some (L.map (·.1)))) (hs : swapsWithSole [.Tuple ts kt pt] (.Tuple es k2 pt2) pos.line X.env = pure false) :
    L2.PS X (.Assign [.Tuple ts kt pt] (.Tuple es k2 pt2) pos) (tParN L ta) :=
  ⟨fun pins s σ H D I h => by
    rw [exec_Assign_arm]
    refine wpAny_bind (wpAny_standAt ?_)
    rw [hs]
    refine wpAny_bind (wpAny_pure ?_)
    rw [if_neg (by decide)]
    refine wpAny_bind (Tuple_ (thn (ha.run pt2 pins s σ H _ I h) fun us s1 ⟨vs, H1, I1, r1, hlen, q1⟩ => ?_))
    have hul : us.length = L.length := by rw [← hlen]; exact (Vals.length r1).symm
    refine wpAny_newObj_type ?_ ?_
    · have I2 : L2.Inv X pins σ H1 ⟨s1.heap.push { cls := .type "tuple", data := .seq us.toArray }, s1.gens, s1.drawn, s1.toks, s1.os⟩ := Inv.kept I1 fun b o e => Heap.get?_push_of_some _ e
      rw [hw]
      refine wpAny_bind (wpAny_pure ?_)
      rw [assignStores.eq_1]
      refine wpAny_bind (wpAny_rule (wpAny_bind ?_))
      rw [show (L.map (·.1)).length = us.toArray.size by simp [hul]]
      refine unpackItems_tuple (I.ok.hd hc) (IsTup.new s1.heap us.toArray) fun h' hx' => ?_
      have I3 := Inv.kept (h' := h') (t' := s1.toks) I2 fun b o e => hx' b o (Nat.ne_of_lt (Heap.lt_size e)) e
      refine wpAny_bind ?_
      rw [show List.map (fun n => bindName X.env n) (L.map (·.1)).reverse = L.reverse.map fun p => bindName X.env p.1 by rw [← List.map_reverse, List.map_map]; rfl, List.toList_toArray]
      refine aio hN (fun p hp' => hp p (List.mem_reverse.mp hp')) I3 (vals_rev r1) (by simp [hlen]) fun s' I' => ?_
      refine wpAny_pure ⟨_, H1, I', ?_⟩
      rw [zip_rev (by simp [hlen]), ← List.map_reverse] at q1
      exact q1
    · show us.toArray.size ≤ sizeLine
      rw [List.size_toArray, hul, sizeLine_eq]
      omega⟩
theorem repE_putR : ∀ {is : List Nat} {xs : List PV} {vs : List V} {env : Env} {σ : L2.St}, RepE S H ρ env σ → RepL S H ρ xs vs → RepE S H ρ (putR (is.zip xs) env) (setR (is.zip vs) σ)
  | [], _, _, _, _, E, _ => E
  | _ :: _, [], _, _, _, E, r => by cases r; exact E
  | i :: is, x :: xs, _, _, _, E, ⟨v, ws, e, r1, r2⟩ => by
    subst e
    exact repE_putR (is := is) (env := setAt _ i (some x)) (σ := List.set _ i (some v)) (repE_set E r1) r2
theorem RepL.rev : ∀ {xs : List PV} {vs : List V}, RepL S H ρ xs vs → RepL S H ρ xs.reverse vs.reverse
  | [], _, h => by cases h; exact rfl
  | x :: xs, _, ⟨v, ws, e, r, t⟩ => by
    subst e
    rw [List.reverse_cons, List.reverse_cons]
    exact t.rev.app ⟨v, [], rfl, r, rfl⟩
theorem c_par {L : List (Str × Nat)} {ts es : List PySem.Expr} {cs : CL} {kt k2 : Nat} {pt pt2 pos : Pos} (hc : X.calm = true) (hN : X.N.Nodup) (hp : ∀ p ∈ L, X.N[p.2]? = some p.1 ∧ List.lookup p.1 X.env.scope.names = some NameKind.local)
    (ha : PA X es (tA S Wx fun env => evL prog o env cs)) (hl : L.length ≤ 3) (hw : swappedStores [.Tuple ts kt pt] (.Tuple es k2 pt2) X.env = pure (some (L.map (·.1)))) (hs : swapsWithSole [.Tuple ts kt pt] (.Tuple es k2 pt2) pos.line X.env = pure false) :
    L2.PS X (.Assign [.Tuple ts kt pt] (.Tuple es k2 pt2) pos) (tS S Wx fun env => evS prog o hx env (.par (L.map (·.2)) cs)) :=
  PS.imp (ps_parN hc hN hp ha hl hw hs) fun D σ H ⟨ρ, M, env, A, E, P⟩ => by
    refine tA_mono (tA_seq (d := fun env => evL prog o env cs) (k := fun xs M => parR (L.map fun p : Str × Nat => p.2) xs env M) A E P) fun xs H1 ⟨vs, M1, ρ1, A1, E1, x1, r1, P1⟩ => ?_
    have P1 : Post S ρ1 H1 (match Nat.beq (L.map fun p : Str × Nat => p.2).length vs.length with
      | true => Rs.ok (Fl.nx (putR ((L.map (·.2)).zip vs).reverse env)) M1
      | false => .no "par") (okS S D) (Wx σ) := P1
    split at P1
    · rename_i hb
      have hb := Nat.eq_of_beq_eq_true hb
      refine ⟨by rw [← r1.len, ← hb, List.length_map], P1.now A1 _ ?_⟩
      rw [zip_rev hb, zip_rev (by rw [hb, r1.len])]
      exact repE_putR E1 r1.rev
    · exact P1.elim
end
end Pf
end
section
set_option Elab.async false
set_option linter.all false
set_option maxRecDepth 100000
set_option maxHeartbeats 400000
namespace Pf
open PySem PySem.Spec PyProof.Rows L2
theorem fn_ofG {CX : CXT} {P : Program} {w : World} {K : W.Frag} {mg : Str → Option Value} {base : Heap} {k : Nat}
  {f : Addr} {name qual : Str} {params : Arguments} {body : List Stmt} {scope : PySem.Scope} {dV kV doc pm cdv ct oc : Value}
  {an od : Option Addr} {osl : Array (Option Value)} {N ps : List Str} {sp : Sp}
  (lk : List.lookup f K = some { cls := oc, dict := od, data := Data.func (W.fnOf name qual params body scope dV kV doc pm an cdv ct), slots := osl })
  (hcd : W.codeIn K cdv qual = true) (S : FnScope N ps scope) (len : ∀ (vs : List V) (H : Hp) (Q : VK) (E : XK), sp vs H Q E → vs.length = ps.length)
  (hbody : ∀ (A : Around) (outer : List PySem.Env) (s : Shared) (H : Hp) (vs : List V) (Q : VK) (E : XK), A.guards = some [] → Room k (A.deeper (envOfC qual scope s.heap.objs.size f cdv)) → sp vs H Q E →
    ∃ t, PSs (cxOf CX P w K mg base N qual scope f cdv A outer s H E) body t ∧ t { nx := fun x H' => Q V.non H', rt := Q } (L2.start N vs) H)
  (A : Around) (outer : List PySem.Env) (s : Shared) (H : Hp) (args : Args) (us : List Value) (vs : List V) (Q : VK) (E : XK) (hG : A.guards = some []) (hr : Room (k + 1) A)
  (e0 : Env0 P w K mg base A outer s H) (hb : BindsTo s (W.fnOf name qual params body scope dV kV doc pm an cdv ct) args (List.zip ps us)) (r : Vals vs us) (hsp : sp vs H Q E) :
  codeAny (model P w) A (Code.call (Value.ref f) args) (CR CX outer P w H s Q E) s := by
  have hl := len vs H Q E hsp
  have KX := W.Frag.In.keeps e0.mod.kin fun b o e => (e0.bs b o e).left
  have lim := Heap.NoLimit.keeps e0.mod.nolimit fun b o e => (e0.bs b o e).left
  refine codeAny_call_function (Room.depth hr) (KX f _ lk) rfl S.co S.gen rfl (W.codeRec_of KX hcd) (hb (model P w) A.in1 (fun e s' => CR CX outer P w H s Q E (Except.error e) s') _ ?_)
  refine wpAny_newFunctionEnv_cells S.kind (fun x hy => ?_) fun env he s1 x => ?_
  · obtain ⟨n, v⟩ := x
    exact (S.par n (List.of_mem_zip hy).left).elim (fun q => .inl q) fun q => .inr ⟨q, W.cellsFrom_some scope.names (s.heap.objs.size + 1) [] (.inl q)⟩
  · subst he
    refine ⟨Heap.NoLimit.keeps lim x.toInCall.keep, codeAny_func ?_⟩
    obtain ⟨t, ht, hq⟩ := hbody A outer s H vs Q E hG (Room.deeper hr (envOfC qual scope s.heap.objs.size f cdv)) hsp
    have I := inv_start (CX := CX) (E := E) S hr.hd e0 hl r x
    refine wpAny_mono (ht.run [] s1 (L2.start N vs) H { nx := fun x H' => Q V.non H', rt := Q } I hq) (fun fl s' hs => ?_) fun e s' hs => hs
    cases fl with
    | next =>
      obtain ⟨σ', H', J, q⟩ := hs
      exact ⟨.non, H', J.os, J.bare, J.base, J.hok, rfl, q⟩
    | brk =>
      obtain ⟨σ', H', J, q⟩ := hs
      exact q.elim
    | cont =>
      obtain ⟨σ', H', J, q⟩ := hs
      exact q.elim
    | ret u =>
      obtain ⟨v, σ', H', J, rv, q⟩ := hs
      exact ⟨v, H', J.os, J.bare, J.base, J.hok, rv, q⟩
structure FnG (P : Program) (w : World) (K : W.Frag) (mg : Str → Option Value) (base : Heap) (CX : CXT) (k : Nat) (f : Addr) (fd : FuncData) (ps : List Str) (sp : Sp) : Prop where
  len : ∀ (vs : List V) (H : Hp) (Q : VK) (E : XK), sp vs H Q E → vs.length = ps.length
  run : ∀ (A : Around) (outer : List PySem.Env) (s : Shared) (H : Hp) (args : Args) (us : List Value) (vs : List V) (Q : VK) (E : XK), A.guards = some [] → Room k A → Env0 P w K mg base A outer s H →
    BindsTo s fd args (List.zip ps us) → Vals vs us → sp vs H Q E → codeAny (model P w) A (Code.call (Value.ref f) args) (CR CX outer P w H s Q E) s
theorem run_fnG {X : Cx} {CX : CXT} {k : Nat} {f : Addr} {fd : FuncData} {ps : List Str} {sp : Sp} {E : XK} {pins : List (Addr × Obj)} {σ : L2.St} {H : Hp} {s : Shared} {Q : VK} {us bs : List Value} {kw : List (Str × Value)} {vs : List V}
    (F : FnG X.prog X.w X.K X.mg X.base CX k f fd ps sp) (hG : X.A.guards = some []) (hr : Room k X.A) (hb : BindsTo s fd { pos := us, kw := kw } (List.zip ps bs)) (hx : ∀ e s', CX X.stack H s E e s' → X.xe e s')
    (I : L2.Inv X pins σ H s) (r : Vals vs bs) (h : sp vs H Q E) : wpAny (model X.prog X.w) X.A (call (Value.ref f) us kw) (EP X pins σ Q) X.xe s := by
  refine wpAny_call (codeAny_mono (F.run X.A X.stack s H _ bs vs Q E hG hr (Inv.env0 I) hb r h) fun r' s' hq => ?_)
  cases r' with
  | error e => exact hx e s' hq
  | ok fl =>
    cases fl with
    | ret u => exact Inv.after I hq
    | _ => exact False.elim hq
theorem FunD.okG {P : Program} {w : World} {K : W.Frag} {mg : Str → Option Value} {base : Heap} {x qual : Str} {params : Arguments} {body : List Stmt} {scope : PySem.Scope} {dvs : List V} {kws : List (Str × V)} {f : Addr} {fd : FuncData} {CX : CXT} {N ps : List Str} {k : Nat} {sp : Sp}
    (F : FunD K x qual params body scope dvs kws f fd) (S : FnScope N ps scope) (len : ∀ (vs : List V) (H : Hp) (Q : VK) (E : XK), sp vs H Q E → vs.length = ps.length)
    (hbody : ∀ (cdv : Value) (A : Around) (outer : List PySem.Env) (s : Shared) (H : Hp) (vs : List V) (Q : VK) (E : XK), A.guards = some [] → Room k (A.deeper (envOfC qual scope s.heap.objs.size f cdv)) → sp vs H Q E →
      ∃ t, PSs (cxOf CX P w K mg base N qual scope f cdv A outer s H E) body t ∧ t { nx := fun x H' => Q V.non H', rt := Q } (L2.start N vs) H) : FnG P w K mg base CX (k + 1) f fd ps sp := by
  obtain ⟨oc, od, dV, kV, doc, pm, an, cdv, ct, osl, rfl, lk, hcd, _, _⟩ := F.ex
  exact ⟨len, fun A outer s H args us vs Q E hG hr e0 hb r hsp => fn_ofG lk hcd S len (fun A outer s H vs Q E hG hr hsp => hbody cdv A outer s H vs Q E hG hr hsp) A outer s H args us vs Q E hG hr e0 hb r hsp⟩
theorem run_makeG {X : Cx} {CX : CXT} {k : Nat} {f C : Addr} {fd : FuncData} {ps : List Str} {sp : Sp} {E : XK} {pins : List (Addr × Obj)} {σ : L2.St} {H : Hp} {s : Shared} {Q : VK} {us bs : List Value} {kw : List (Str × Value)} {vs : List V}
    (M : Mk X.K C f) (F : FnG X.prog X.w X.K X.mg X.base CX k f fd ps sp) (hG : X.A.guards = some []) (hr : Room (k + 1) X.A)
    (hb : ∀ s' : Shared, X.K.In s'.heap → BindsTo s' fd { pos := .ref (s.heap.objs.size + 1) :: us, kw := kw } (List.zip ps (.ref (s.heap.objs.size + 1) :: bs)))
    (hx : ∀ H s e s', L2.Inv X pins σ H s → CX X.stack H s E e s' → X.xe e s') (I : L2.Inv X pins σ H s) (r : Vals vs bs)
    (h : ∀ (x dx : Addr), H x = none → H dx = none → dx ≠ x → sp (V.ref x :: vs) (upd (upd H dx (HO.own x)) x (HO.ins C dx [])) (fun v H2 => v = V.non ∧ Q (V.ref x) H2) E) :
    wpAny (model X.prog X.w) X.A (call (Value.ref C) us kw) (EP X pins σ Q) X.xe s := by
  have hq := h (s.heap.objs.size + 1) s.heap.objs.size (HOk.fresh I.hok (Nat.le_succ _)) (HOk.fresh I.hok (Nat.le_refl _)) (Nat.ne_of_lt (Nat.lt_succ_self _))
  have I2 := Inv.made (C := C) I
  refine wpAny_call (make_map (Inv.kIn I) M.makes M.init (beq_iff_eq.mp M.fn) (codeAny_mono (F.run (X.A.under (Code.builtin "type.__call__" { pos := Value.ref C :: us, kw := kw })) X.stack _ _ _ (.ref (s.heap.objs.size + 1) :: bs) (.ref (s.heap.objs.size + 1) :: vs) _ E ?_ (Room.make hr C us kw) (Env0.make (Inv.env0 I2) C us kw) (hb _ (Inv.kIn I2)) (Paired.cons rfl r) hq) fun r' s' hq' => ?_))
  · unfold Around.under
    simp [hG]
    rfl
  · cases r' with
    | error e => exact hx _ _ _ _ I2 hq'
    | ok fl =>
      cases fl with
      | ret u =>
        obtain ⟨v, H', I3, rv, ev, q3⟩ := Inv.after I2 hq'
        subst ev
        exact ⟨rv, .ref (s.heap.objs.size + 1), H', I3, rfl, q3⟩
      | _ => exact False.elim hq'
end Pf
end
section
set_option Elab.async false
set_option linter.all false
set_option maxRecDepth 100000
set_option maxHeartbeats 400000
namespace Pf
open PySem PySem.Spec PyProof.Rows L2
theorem lookup_app1 {sl : List (Str × Value)} {q : Str × Value} {x : Str} (h : sl.lookup x = none) (hne : x ≠ q.1) : (sl ++ [q]).lookup x = none := by
  rw [List.lookup_append, h]
  obtain ⟨a, b⟩ := q
  simp only [List.lookup, beq_eq_false_iff_ne.mpr hne]
  rfl
theorem bind_kw {M : Model} {h : Heap} : ∀ (kw : List (Str × Value)) (slots extra : List (Str × Value)) (body : Str × Value → List (Str × Value) × List (Str × Value) → Sem (ForInStep (List (Str × Value) × List (Str × Value)))),
    (∀ q ∈ kw, ∀ sl : List (Str × Value), sl.lookup q.1 = none → body q (sl, extra) = pure (ForInStep.yield (sl ++ [q], extra))) → (kw.map (·.1)).Nodup → (∀ q ∈ kw, slots.lookup q.1 = none) →
    W.Looks M h (forIn kw (slots, extra) body) (slots ++ kw, extra)
  | [], slots, extra, body, _, _, _ => by
    rw [List.append_nil]
    exact W.Looks.now
  | q :: kw, slots, extra, body, hb, nd, hs => by
    have nd := List.nodup_cons.mp nd
    rw [List.forIn_cons, hb q List.mem_cons_self slots (hs q List.mem_cons_self)]
    refine W.Looks.andThen W.Looks.now ?_
    have := bind_kw (M := M) (h := h) kw (slots ++ [q]) extra body (fun r hr sl hl => hb r (List.mem_cons_of_mem _ hr) sl hl) nd.2 fun r hr =>
      lookup_app1 (hs r (List.mem_cons_of_mem _ hr)) fun e => nd.1 (List.mem_map.mpr ⟨r, hr, e⟩)
    rw [List.append_assoc] at this
    exact this
def dfl : List (Str × Value) → List (Str × Value) → List (Str × Value)
  | [], sl => sl
  | q :: r, sl => dfl r (if (sl.lookup q.1).isNone = true then sl ++ [q] else sl)
theorem bind_dfl {M : Model} {h : Heap} : ∀ (ds slots : List (Str × Value)) (body : Str × Value → List (Str × Value) → Sem (ForInStep (List (Str × Value)))),
    (∀ q ∈ ds, ∀ sl : List (Str × Value), body q sl = if (sl.lookup q.1).isNone = true then pure (ForInStep.yield (sl ++ [q])) else pure (ForInStep.yield sl)) → W.Looks M h (forIn ds slots body) (dfl ds slots)
  | [], slots, body, _ => W.Looks.now
  | q :: ds, slots, body, hb => by
    rw [List.forIn_cons, hb q List.mem_cons_self slots]
    show W.Looks M h _ (dfl ds (if (slots.lookup q.1).isNone = true then slots ++ [q] else slots))
    split
    · exact W.Looks.andThen W.Looks.now (bind_dfl ds _ body fun r hr => hb r (List.mem_cons_of_mem _ hr))
    · exact W.Looks.andThen W.Looks.now (bind_dfl ds _ body fun r hr => hb r (List.mem_cons_of_mem _ hr))
def kwd (g : Str → Value) : List Str → List (Str × Value) → List (Str × Value)
  | [], sl => sl
  | n :: r, sl => kwd g r (if (sl.lookup n).isNone = true then sl ++ [(n, g n)] else sl)
theorem bind_kwd {M : Model} {h : Heap} {g : Str → Value} {ms : List Str} {G : List (Str × Value) → Prop} : ∀ (ns : List Str) (slots : List (Str × Value)) (body : Str → List (Str × Value) × List Str → Sem (ForInStep (List (Str × Value) × List Str))),
    (∀ n ∈ ns, ∀ sl : List (Str × Value), (sl.lookup n).isNone = false → body n (sl, ms) = pure (ForInStep.yield (sl, ms))) →
    (∀ n ∈ ns, ∀ sl : List (Str × Value), G sl → (sl.lookup n).isNone = true → W.Looks M h (body n (sl, ms)) (ForInStep.yield (sl ++ [(n, g n)], ms)) ∧ G (sl ++ [(n, g n)])) → G slots → W.Looks M h (forIn ns (slots, ms) body) (kwd g ns slots, ms)
  | [], slots, body, _, _, _ => W.Looks.now
  | n :: ns, slots, body, hb, hc, hG => by
    rw [List.forIn_cons]
    show W.Looks M h _ (kwd g ns (if (slots.lookup n).isNone = true then slots ++ [(n, g n)] else slots), ms)
    cases e : (slots.lookup n).isNone with
    | true =>
      obtain ⟨h1, h2⟩ := hc n List.mem_cons_self slots hG e
      exact W.Looks.andThen h1 (bind_kwd ns _ body (fun r hr => hb r (List.mem_cons_of_mem _ hr)) (fun r hr => hc r (List.mem_cons_of_mem _ hr)) h2)
    | false =>
      rw [hb n List.mem_cons_self slots e]
      exact W.Looks.andThen W.Looks.now (bind_kwd ns _ body (fun r hr => hb r (List.mem_cons_of_mem _ hr)) (fun r hr => hc r (List.mem_cons_of_mem _ hr)) hG)
end Pf
end
section
set_option Elab.async false
set_option linter.all false
set_option maxRecDepth 100000
set_option maxHeartbeats 400000
namespace Pf
open PySem PySem.Spec PyProof.Rows L2
def bindsOf (P Kn : List Str) (sl : List (Str × Value)) : List (Str × Value) := List.filterMap (fun n => Option.map (fun x => (n, x)) (List.lookup n sl)) (P ++ Kn)
theorem bind_looks {M : Model} {h : Heap} {fd : FuncData} {us : List Value} {kw : List (Str × Value)} (h1 : fd.params.posonlyargs = []) (h2 : fd.params.vararg = none) (h3 : fd.params.kwarg = none) {P Kn : List Str} (hP : fd.params.args.map (·.arg) = P) (hKn : fd.params.kwonlyargs.map (·.arg) = Kn)
    (hu : us.length ≤ P.length) (hkn : ∀ q ∈ kw, (P.contains q.1 || Kn.contains q.1) = true) (hkd : (kw.map (·.1)).Nodup) (hks : ∀ q ∈ kw, (P.zip us).lookup q.1 = none)
    {D : List Value} {od : Option (Array Value)} (hD : W.Looks M h (seqItems? fd.defaults) od) (eD : (od.getD #[]).toList = D) (lD : D.length ≤ P.length)
    (hm : ∀ n ∈ P.take (P.length - D.length), ((P.zip us ++ kw).lookup n).isNone = false) {g : Str → Value} {G : List (Str × Value) → Prop} (hG0 : G (dfl ((P.drop (P.length - D.length)).zip D) (P.zip us ++ kw)))
    (hg : ∀ n ∈ Kn, ∀ sl : List (Str × Value), G sl → (sl.lookup n).isNone = true → (∃ d, fd.kwdefaults = .ref d ∧ W.Looks M h (nsGet d n) (some (g n))) ∧ G (sl ++ [(n, g n)])) :
    W.Looks M h (bindArgs fd { pos := us, kw := kw }) (bindsOf P Kn (kwd g Kn (dfl ((P.drop (P.length - D.length)).zip D) (P.zip us ++ kw)))) := by
  unfold bindArgs
  simp only [h1, h2, h3, hP, hKn, List.map_nil, List.nil_append]
  refine W.Looks.andThen (bind_kw kw (P.zip us) [] _ (fun q hq sl hl => ?_) hkd hks) ?_
  · rw [if_pos (hkn q hq), if_neg (by rw [hl]; decide)]
  · refine W.Looks.andThen hD ?_
    rw [eD]
    have e1 : (decide (us.length > P.length) && (none : Option Arg).isNone) = false := by
      rw [decide_eq_false (by omega)]; rfl
    rw [e1, if_neg (by decide)]
    have e2 : D.drop (D.length - P.length) = D := by rw [show D.length - P.length = 0 by omega]; rfl
    rw [e2]
    have e3 : (P.take (P.length - D.length)).filter (fun n => Option.isNone (List.lookup n (P.zip us ++ kw))) = [] := List.filter_eq_nil_iff.mpr fun n hn => by rw [hm n hn]; decide
    rw [e3, if_neg (by decide)]
    refine W.Looks.andThen (bind_dfl _ _ _ fun q hq sl => by obtain ⟨a, b⟩ := q; rfl) ?_
    refine W.Looks.andThen (bind_kwd (g := g) (ms := []) (G := G) Kn _ _ (fun n hn sl he => ?_) (fun n hn sl hG he => ?_) hG0) ?_
    · rw [if_neg (by rw [he]; decide)]
    · obtain ⟨⟨d, e, hl⟩, hG'⟩ := hg n hn sl hG he
      refine ⟨?_, hG'⟩
      rw [if_pos he, e]
      exact W.Looks.andThen hl W.Looks.now
    · rw [if_neg (fun z => Bool.noConfusion z)]
      exact W.Looks.now
end Pf
end
section
set_option Elab.async false
set_option linter.all false
set_option maxRecDepth 100000
set_option maxHeartbeats 400000
namespace Pf
open PySem PySem.Spec PyProof.Rows L2
theorem lookup_one {q : Str × Value} {n : Str} : List.lookup n [q] = if n = q.1 then some q.2 else none := by
  obtain ⟨a, b⟩ := q
  rw [List.lookup_cons]
  by_cases h : n = a
  · subst h
    simp
  · simp [h, beq_eq_false_iff_ne.mpr h]
theorem lookup_cons' {q : Str × Value} {r : List (Str × Value)} {n : Str} : List.lookup n (q :: r) = if n = q.1 then some q.2 else r.lookup n := by
  obtain ⟨a, b⟩ := q
  rw [List.lookup_cons]
  by_cases h : n = a
  · subst h
    simp
  · simp [h, beq_eq_false_iff_ne.mpr h]
theorem dfl_lookup {n : Str} : ∀ {ds sl : List (Str × Value)}, (dfl ds sl).lookup n = (sl.lookup n).or (ds.lookup n)
  | [], sl => by show sl.lookup n = _; simp
  | q :: r, sl => by
    show (dfl r (if (sl.lookup q.1).isNone = true then sl ++ [q] else sl)).lookup n = _
    rw [dfl_lookup, lookup_cons']
    by_cases h : n = q.1
    · subst h
      rw [if_pos rfl]
      cases e : sl.lookup q.1 with
      | none =>
        simp only [Option.isNone_none, if_true]
        rw [List.lookup_append, e, lookup_one, if_pos rfl]
        rfl
      | some z =>
        simp only [Option.isNone_some, Bool.false_eq_true, if_false]
        rw [e]; rfl
    · rw [if_neg h]
      split
      · rw [List.lookup_append, lookup_one, if_neg h]
        simp
      · rfl
theorem kwd_lookup {g : Str → Value} {n : Str} : ∀ {ns : List Str} {sl : List (Str × Value)}, (kwd g ns sl).lookup n = (sl.lookup n).or (if n ∈ ns then some (g n) else none)
  | [], sl => by show sl.lookup n = _; simp
  | m :: r, sl => by
    show (kwd g r (if (sl.lookup m).isNone = true then sl ++ [(m, g m)] else sl)).lookup n = _
    rw [kwd_lookup]
    by_cases h : n = m
    · subst h
      rw [if_pos List.mem_cons_self]
      cases e : sl.lookup n with
      | none =>
        simp only [Option.isNone_none, if_true]
        rw [List.lookup_append, e, lookup_one, if_pos rfl]
        rfl
      | some z =>
        simp only [Option.isNone_some, Bool.false_eq_true, if_false]
        rw [e]; rfl
    · have hm : (n ∈ m :: r) ↔ n ∈ r := by simp [h]
      simp only [hm]
      split
      · rw [List.lookup_append, lookup_one, if_neg h]
        simp
      · rfl
theorem bindsOf_zip {P Kn : List Str} {sl : List (Str × Value)} {bs : List Value} (h : ∀ q ∈ (P ++ Kn).zip bs, sl.lookup q.1 = some q.2) (hl : bs.length = (P ++ Kn).length) : bindsOf P Kn sl = (P ++ Kn).zip bs := by
  unfold bindsOf
  generalize P ++ Kn = l at *
  induction l generalizing bs with
  | nil => rfl
  | cons n l ih =>
    cases bs with
    | nil => cases hl
    | cons b bs =>
      have h0 := h (n, b) List.mem_cons_self
      rw [List.filterMap_cons, h0]
      show (n, b) :: _ = (n, b) :: l.zip bs
      rw [ih (fun q hq => h q (List.mem_cons_of_mem _ hq)) (by simpa using hl)]
end Pf
end
section
set_option Elab.async false
set_option linter.all false
set_option maxRecDepth 100000
set_option maxHeartbeats 400000
namespace Pf
open PySem PySem.Spec PyProof.Rows L2
theorem bindGo_spec {β : Type} {kv : List (List Nat × β)} : ∀ {pn : List (List Nat)} {dv : List (Option β)} {w bs : List β}, bindGo kv pn dv w = some bs → bs.length = pn.length ∧ w.length ≤ pn.length ∧
    ∀ (i : Nat) (p : List Nat), pn[i]? = some p → ∃ b, bs[i]? = some b ∧ (w[i]? = some b ∨ (w.length ≤ i ∧ fget p kv = some b) ∨ (w.length ≤ i ∧ fget p kv = none ∧ dv[i]? = some (some b)))
  | [], dv, [], bs, h => by
    cases h
    exact ⟨rfl, Nat.le_refl _, fun i p e => by simp at e⟩
  | [], dv, _ :: _, bs, h => by cases h
  | p :: ps, d :: ds, x :: w, bs, h => by
    obtain ⟨cs, e, rfl⟩ := Option.map_eq_some_iff.mp (show (bindGo kv ps ds w).map (x :: ·) = some bs from h)
    obtain ⟨h1, h2, h3⟩ := bindGo_spec e
    refine ⟨by simp [h1], by simp; omega, fun i q eq => ?_⟩
    cases i with
    | zero => exact ⟨x, rfl, .inl rfl⟩
    | succ i =>
      obtain ⟨b, e1, e2⟩ := h3 i q (by simpa using eq)
      exact ⟨b, by simpa using e1, by simpa using e2⟩
  | p :: ps, d :: ds, [], bs, h => by
    have h : (match fget p kv with
      | some x => (bindGo kv ps ds []).map (x :: ·)
      | none => match (generalizing := false) d with
        | some x => (bindGo kv ps ds []).map (x :: ·)
        | none => none) = some bs := h
    split at h
    · rename_i x ex
      obtain ⟨cs, e, rfl⟩ := Option.map_eq_some_iff.mp h
      obtain ⟨h1, h2, h3⟩ := bindGo_spec e
      refine ⟨by simp [h1], by simp, fun i q eq => ?_⟩
      cases i with
      | zero =>
        cases (show some p = some q from eq)
        exact ⟨x, rfl, .inr (.inl ⟨Nat.le_refl _, ex⟩)⟩
      | succ i =>
        obtain ⟨b, e1, e2⟩ := h3 i q (by simpa using eq)
        exact ⟨b, by simpa using e1, by simpa using e2⟩
    · rename_i ex
      split at h
      · rename_i x h
        obtain ⟨cs, e, rfl⟩ := Option.map_eq_some_iff.mp h
        obtain ⟨h1, h2, h3⟩ := bindGo_spec e
        refine ⟨by simp [h1], by simp, fun i q eq => ?_⟩
        cases i with
        | zero =>
          cases (show some p = some q from eq)
          exact ⟨x, rfl, .inr (.inr ⟨Nat.le_refl _, ex, rfl⟩)⟩
        | succ i =>
          obtain ⟨b, e1, e2⟩ := h3 i q (by simpa using eq)
          exact ⟨b, by simpa using e1, by simpa using e2⟩
      · cases h
  | _ :: _, [], _ :: _, _, h => by cases h
  | _ :: _, [], [], _, h => by cases h
end Pf
end
section
set_option Elab.async false
set_option linter.all false
set_option maxRecDepth 100000
set_option maxHeartbeats 400000
namespace Pf
open PySem PySem.Spec PyProof.Rows L2
def OptR {β γ : Type} (R : β → γ → Prop) : Option β → Option γ → Prop
  | none, none => True
  | some a, some b => R a b
  | _, _ => False
theorem fget_rel {β γ : Type} {R : β → γ → Prop} {k : List Nat} : ∀ {ks : List (List Nat)} {as : List β} {bs : List γ}, Paired R as bs → OptR R (fget k (ks.zip as)) (fget k (ks.zip bs))
  | [], _, _, _ => trivial
  | _ :: _, _, _, .nil => trivial
  | q :: ks, _, _, .cons (a := a) (b := b) h t => by
    show OptR R (match seq q k with
      | true => some a
      | false => fget k (ks.zip _)) (match seq q k with
      | true => some b
      | false => fget k (ks.zip _))
    cases seq q k with
    | true => exact h
    | false => exact fget_rel t
theorem bindGo_rel {β γ : Type} {R : β → γ → Prop} {ks : List (List Nat)} {as : List β} {bs : List γ} (hk : Paired R as bs) : ∀ {pn : List (List Nat)} {da : List (Option β)} {db : List (Option γ)} {wa : List β} {wb : List γ} {ra : List β},
    Paired (OptR R) da db → Paired R wa wb → bindGo (ks.zip as) pn da wa = some ra → ∃ rb, bindGo (ks.zip bs) pn db wb = some rb ∧ Paired R ra rb
  | [], _, _, _, _, ra, _, .nil, h => by
    cases h
    exact ⟨[], rfl, .nil⟩
  | [], _, _, _, _, _, _, .cons _ _, h => by cases h
  | p :: ps, _, _, _, _, ra, .cons (l₁ := da) (l₂ := db) _ hd, .cons (a := x) (b := y) (l₁ := wa) (l₂ := wb) hx hw, h => by
    obtain ⟨cs, e, rfl⟩ := Option.map_eq_some_iff.mp (show (bindGo (ks.zip as) ps da wa).map (x :: ·) = some ra from h)
    obtain ⟨rb, e2, hr⟩ := bindGo_rel hk hd hw e
    exact ⟨y :: rb, by show (bindGo (ks.zip bs) ps db wb).map (y :: ·) = _; rw [e2]; rfl, .cons hx hr⟩
  | p :: ps, _, _, _, _, ra, .cons (a := d) (b := d') (l₁ := da) (l₂ := db) h0 hd, .nil, h => by
    have h : (match fget p (ks.zip as) with
      | some x => (bindGo (ks.zip as) ps da []).map (x :: ·)
      | none => match (generalizing := false) d with
        | some x => (bindGo (ks.zip as) ps da []).map (x :: ·)
        | none => none) = some ra := h
    have f := fget_rel (k := p) (ks := ks) hk
    show ∃ rb, (match fget p (ks.zip bs) with
      | some x => (bindGo (ks.zip bs) ps db []).map (x :: ·)
      | none => match (generalizing := false) d' with
        | some x => (bindGo (ks.zip bs) ps db []).map (x :: ·)
        | none => none) = some rb ∧ _
    cases ea : fget p (ks.zip as) with
    | some x =>
      cases eb : fget p (ks.zip bs) with
      | some y =>
        rw [ea] at h
        rw [ea, eb] at f
        obtain ⟨cs, e, rfl⟩ := Option.map_eq_some_iff.mp (show (bindGo (ks.zip as) ps da []).map (x :: ·) = some ra from h)
        obtain ⟨rb, e2, hr⟩ := bindGo_rel hk hd .nil e
        exact ⟨y :: rb, by show (bindGo (ks.zip bs) ps db []).map (y :: ·) = _; rw [e2]; rfl, .cons f hr⟩
      | none => rw [ea, eb] at f; exact f.elim
    | none =>
      cases eb : fget p (ks.zip bs) with
      | some y => rw [ea, eb] at f; exact f.elim
      | none =>
        rw [ea] at h
        cases d with
        | none => cases h
        | some x =>
          cases d' with
          | none => exact h0.elim
          | some y =>
            obtain ⟨cs, e, rfl⟩ := Option.map_eq_some_iff.mp (show (bindGo (ks.zip as) ps da []).map (x :: ·) = some ra from h)
            obtain ⟨rb, e2, hr⟩ := bindGo_rel hk hd .nil e
            exact ⟨y :: rb, by show (bindGo (ks.zip bs) ps db []).map (y :: ·) = _; rw [e2]; rfl, .cons h0 hr⟩
  | _ :: _, _, _, _, _, _, .nil, .cons _ _, h => by cases h
  | _ :: _, _, _, _, _, _, .nil, .nil, h => by cases h
end Pf
end
section
set_option Elab.async false
set_option linter.all false
set_option maxRecDepth 100000
set_option maxHeartbeats 400000
namespace Pf
open PySem PySem.Spec PyProof.Rows L2
structure DefOk (K : W.Frag) (d : Fn) (fd : FuncData) (dV : List (Option Value)) : Prop where
  po : fd.params.posonlyargs = []
  va : fd.params.vararg = none
  ka : fd.params.kwarg = none
  args : fd.params.args.map (·.arg) = (d.pn.take d.np).map sv
  kwo : fd.params.kwonlyargs.map (·.arg) = (d.pn.drop d.np).map sv
  nd : d.pn.Nodup
  np : d.np ≤ d.pn.length
  ln : dV.length = d.pn.length
  df : ∃ (od : Option (Array Value)) (D : List Value), (∀ (M : Model) (h : Heap), K.In h → W.Looks M h (seqItems? fd.defaults) od) ∧ (od.getD #[]).toList = D ∧ D.length ≤ d.np ∧ (∀ i, i < d.np - D.length → dV[i]? = some none) ∧ ∀ i, d.np - D.length ≤ i → i < d.np → ∃ v, dV[i]? = some (some v) ∧ D[i - (d.np - D.length)]? = some v
  kd : ∀ i p v, d.np ≤ i → d.pn[i]? = some p → dV[i]? = some (some v) → ∃ a, fd.kwdefaults = .ref a ∧ W.nsIn K a (sv p) = some (some v)
theorem lookup_zip {k : List Nat} : ∀ {ks : List (List Nat)} {zs : List Value}, List.lookup (sv k) ((ks.map sv).zip zs) = fget k (ks.zip zs)
  | [], _ => rfl
  | q :: ks, [] => rfl
  | q :: ks, z :: zs => by
    show List.lookup (sv k) ((sv q, z) :: (ks.map sv).zip zs) = (match seq q k with
      | true => some z
      | false => fget k (ks.zip zs))
    rw [lookup_cons', lookup_zip]
    cases e : seq q k with
    | true =>
      have := seq_iff.mp e
      subst this
      simp
    | false =>
      have hne : sv k ≠ sv q := fun z => by
        have := sv_inj z
        subst this
        rw [seq_iff.mpr rfl] at e; cases e
      simp [hne]
theorem lookup_zip_at {β : Type} [BEq β] [LawfulBEq β] {γ : Type} {i : Nat} {k : β} : ∀ {ks : List β} {zs : List γ}, ks.Nodup → ks[i]? = some k → List.lookup k (ks.zip zs) = zs[i]? := by
  induction i with
  | zero =>
    intro ks zs nd h
    cases ks with
    | nil => cases h
    | cons q ks =>
      simp at h
      subst h
      cases zs with
      | nil => rfl
      | cons z zs => simp [List.lookup]
  | succ i ih =>
    intro ks zs nd h
    cases ks with
    | nil => cases h
    | cons q ks =>
      have nd := List.nodup_cons.mp nd
      have h : ks[i]? = some k := by simpa using h
      have hne : (k == q) = false := beq_eq_false_iff_ne.mpr fun e => nd.1 (by rw [← e]; exact List.mem_of_getElem? h)
      cases zs with
      | nil => rfl
      | cons z zs =>
        rw [List.zip_cons_cons, List.lookup_cons, hne]
        simpa using ih nd.2 h
theorem lookup_zip_not {β : Type} [BEq β] [LawfulBEq β] {γ : Type} {k : β} : ∀ {ks : List β} {zs : List γ}, k ∉ ks → List.lookup k (ks.zip zs) = none
  | [], _, _ => rfl
  | _ :: _, [], _ => rfl
  | q :: ks, z :: zs, h => by
    have hne : (k == q) = false := beq_eq_false_iff_ne.mpr fun e => h (by rw [e]; exact List.mem_cons_self)
    rw [List.zip_cons_cons, List.lookup_cons, hne]
    exact lookup_zip_not fun m => h (List.mem_cons_of_mem _ m)
end Pf
end
section
set_option Elab.async false
set_option linter.all false
set_option maxRecDepth 100000
set_option maxHeartbeats 400000
namespace Pf
open PySem PySem.Spec PyProof.Rows L2
theorem any_seq {k : List Nat} {l : List (List Nat)} : l.any (seq k) = true ↔ k ∈ l := by
  rw [List.any_eq_true]
  exact ⟨fun ⟨x, h, e⟩ => by rw [seq_iff.mp e]; exact h, fun h => ⟨k, h, seq_iff.mpr rfl⟩⟩
theorem ksOk_of {pn : List (List Nat)} : ∀ {ks : List (List Nat)}, ksOk pn ks = true → (∀ k ∈ ks, k ∈ pn) ∧ ks.Nodup
  | [], _ => ⟨by simp, List.nodup_nil⟩
  | k :: ks, h => by
    have h : (match pn.any (seq k) && !(ks.any (seq k)) with
      | true => ksOk pn ks
      | false => false) = true := h
    split at h
    · rename_i hb
      rw [Bool.and_eq_true, any_seq, Bool.not_eq_true', ← Bool.not_eq_true, any_seq] at hb
      obtain ⟨h1, h2⟩ := ksOk_of h
      exact ⟨fun q hq => by
        rcases List.mem_cons.mp hq with rfl | hq
        · exact hb.1
        · exact h1 q hq, List.nodup_cons.mpr ⟨hb.2, h2⟩⟩
    · cases h
theorem map_sv_nodup {l : List (List Nat)} (h : l.Nodup) : (l.map sv).Nodup := (List.pairwise_map.mpr (h.imp fun n e => n (sv_inj e)))
theorem mem_sv {k : List Nat} {l : List (List Nat)} : sv k ∈ l.map sv ↔ k ∈ l :=
  ⟨fun h => by
    obtain ⟨q, hq, e⟩ := List.mem_map.mp h
    rw [← sv_inj e]; exact hq, fun h => List.mem_map.mpr ⟨k, h, rfl⟩⟩
theorem bind_ok {K : W.Frag} {d : Fn} {fd : FuncData} {dV : List (Option Value)} {s : Shared} {us zv bs : List Value} {ks : List (List Nat)} (D : DefOk K d fd dV) (hK : K.In s.heap) (hu : us.length ≤ d.np) (hks : ksOk (d.pn.drop us.length) ks = true)
    (hz : zv.length = ks.length) (hb : bindGo (ks.zip zv) d.pn dV us = some bs) : BindsTo s fd { pos := us, kw := (ks.map sv).zip zv } ((d.pn.map sv).zip bs) := by
  refine BindsTo.of_looks fun M => ?_
  obtain ⟨k1, k2⟩ := ksOk_of hks
  obtain ⟨b1, b2, b3⟩ := bindGo_spec hb
  obtain ⟨od, D', d1, d2, d3, d4, d5⟩ := D.df
  have hnp := D.np
  have pk : (d.pn.take d.np).map sv ++ (d.pn.drop d.np).map sv = d.pn.map sv := by rw [← List.map_append, List.take_append_drop]
  have ndS : (d.pn.map sv).Nodup := map_sv_nodup D.nd
  have Pat : ∀ (i : Nat) (p : List Nat), i < d.np → d.pn[i]? = some p → ((d.pn.take d.np).map sv)[i]? = some (sv p) := by
    intro i p hi e
    rw [List.getElem?_map, List.getElem?_take_of_lt hi, e]; rfl
  have Kat : ∀ (i : Nat) (p : List Nat), d.np ≤ i → d.pn[i]? = some p → ((d.pn.drop d.np).map sv)[i - d.np]? = some (sv p) := by
    intro i p hi e
    rw [List.getElem?_map, List.getElem?_drop, show d.np + (i - d.np) = i by omega, e]; rfl
  have ndP : ((d.pn.take d.np).map sv).Nodup := (List.nodup_append.mp (pk ▸ ndS)).1
  have ndK : ((d.pn.drop d.np).map sv).Nodup := (List.nodup_append.mp (pk ▸ ndS)).2.1
  have lenP : ((d.pn.take d.np).map sv).length = d.np := by simp; omega
  have zat : ∀ (i : Nat) (p : List Nat), d.pn[i]? = some p → List.lookup (sv p) (((d.pn.take d.np).map sv).zip us) = us[i]? := by
    intro i p e
    by_cases hi : i < d.np
    · exact lookup_zip_at ndP (Pat i p hi e)
    · rw [List.getElem?_eq_none_iff.mpr (by omega)]
      refine lookup_zip_not fun m => ?_
      have hp := mem_sv.mp m
      obtain ⟨j, hj⟩ := List.getElem?_of_mem hp
      have hj' := (List.getElem?_eq_some_iff.mp hj).1
      rw [List.length_take] at hj'
      rw [List.getElem?_take_of_lt (by omega)] at hj
      have := (List.getElem?_inj (by have := (List.getElem?_eq_some_iff.mp hj).1; exact this) D.nd).mp (hj.trans e.symm)
      omega
  have kat : ∀ (k : List Nat), List.lookup (sv k) ((ks.map sv).zip zv) = fget k (ks.zip zv) := fun k => lookup_zip
  have memK : ∀ q ∈ (ks.map sv).zip zv, ∃ k ∈ ks, q.1 = sv k := fun q hq => by
    obtain ⟨k, h1, h2⟩ := List.mem_map.mp (List.of_mem_zip (show (q.1, q.2) ∈ _ from hq)).1
    exact ⟨k, h1, h2.symm⟩
  have behind : ∀ k ∈ ks, ∃ i, us.length ≤ i ∧ d.pn[i]? = some k := fun k hk => by
    obtain ⟨j, hj⟩ := List.getElem?_of_mem (k1 k hk)
    rw [List.getElem?_drop] at hj
    exact ⟨_, Nat.le_add_right _ _, hj⟩
  have usN : ∀ (i : Nat), us.length ≤ i → us[i]? = none := fun i h => List.getElem?_eq_none_iff.mpr h
  have sl0 : ∀ (i : Nat) (p : List Nat), d.pn[i]? = some p → List.lookup (sv p) (((d.pn.take d.np).map sv).zip us ++ (ks.map sv).zip zv) = (us[i]?).or (fget p (ks.zip zv)) := fun i p e => by
    rw [List.lookup_append, zat i p e, kat]
  have hDV : D'.length ≤ d.np := d3
  have dat : ∀ (i : Nat) (p : List Nat) (v : Value), i < d.np → d.pn[i]? = some p → dV[i]? = some (some v) → List.lookup (sv p) ((((d.pn.take d.np).map sv).drop (((d.pn.take d.np).map sv).length - D'.length)).zip D') = some v := by
    intro i p v hi e hv
    rw [lenP]
    by_cases hlt : i < d.np - D'.length
    · rw [d4 i hlt] at hv; cases hv
    · obtain ⟨w, h1, h2⟩ := d5 i (by omega) hi
      rw [hv] at h1; cases h1
      refine (lookup_zip_at (i := i - (d.np - D'.length)) (ndP.sublist (List.drop_sublist _ _)) ?_).trans h2
      rw [List.getElem?_drop, show d.np - D'.length + (i - (d.np - D'.length)) = i by omega]
      exact Pat i p hi e
  let g : Str → Value := fun n => ((((d.pn.map sv).zip dV).lookup n).join).getD .none
  have gat : ∀ (i : Nat) (p : List Nat) (v : Value), d.pn[i]? = some p → dV[i]? = some (some v) → g (sv p) = v := by
    intro i p v e hv
    have : List.lookup (sv p) ((d.pn.map sv).zip dV) = dV[i]? := lookup_zip_at ndS (by rw [List.getElem?_map, e]; rfl)
    show ((List.lookup (sv p) ((d.pn.map sv).zip dV)).join).getD .none = v
    rw [this, hv]; rfl
  have Kix : ∀ n ∈ (d.pn.drop d.np).map sv, ∃ (i : Nat) (p : List Nat), d.np ≤ i ∧ d.pn[i]? = some p ∧ n = sv p := fun n hn => by
    obtain ⟨p, hp, e⟩ := List.mem_map.mp hn
    obtain ⟨j, hj⟩ := List.getElem?_of_mem hp
    rw [List.getElem?_drop] at hj
    exact ⟨_, p, Nat.le_add_right _ _, hj, e.symm⟩
  have key := bind_looks (M := M) (h := s.heap) (fd := fd) (us := us) (kw := (ks.map sv).zip zv) D.po D.va D.ka D.args D.kwo (by rw [lenP]; exact hu)
    (fun q hq => by
      obtain ⟨k, hk, e⟩ := memK q hq
      have : sv k ∈ d.pn.map sv := mem_sv.mpr (List.mem_of_mem_drop (k1 k hk))
      rw [e, Bool.or_eq_true, List.contains_iff_mem, List.contains_iff_mem]
      rw [← pk] at this
      exact List.mem_append.mp this)
    (by
      rw [show ((ks.map sv).zip zv).map (·.1) = ks.map sv by rw [List.map_fst_zip]; simp [hz]]
      exact map_sv_nodup k2)
    (fun q hq => by
      obtain ⟨k, hk, e⟩ := memK q hq
      obtain ⟨i, hi, e2⟩ := behind k hk
      rw [e, zat i k e2, usN i hi])
    (d1 M s.heap hK) d2 (by rw [lenP]; exact hDV)
    (fun n hn => by
      rw [lenP] at hn
      obtain ⟨i, hi⟩ := List.getElem?_of_mem hn
      have hil := (List.getElem?_eq_some_iff.mp hi).1
      simp only [List.length_take, List.length_map] at hil
      rw [List.getElem?_take_of_lt (by omega), List.getElem?_map] at hi
      have hi2 : d.pn[i]? = (d.pn.take d.np)[i]? := by rw [List.getElem?_take_of_lt (by omega)]
      rw [← hi2] at hi
      cases hp : d.pn[i]? with
      | none => rw [hp] at hi; cases hi
      | some p =>
        rw [hp] at hi
        cases hi
        rw [sl0 i p hp]
        obtain ⟨b, _, hb2⟩ := b3 i p hp
        rcases hb2 with h | ⟨_, h⟩ | ⟨_, _, h⟩
        · rw [h]; rfl
        · rw [h]; cases us[i]? <;> rfl
        · rw [d4 i (by omega)] at h; cases h)
    (g := g) (G := fun sl => ∀ q : Str, (List.lookup q (((d.pn.take d.np).map sv).zip us ++ (ks.map sv).zip zv)).isSome = true → (sl.lookup q).isSome = true)
    (fun q hq => by
      rw [dfl_lookup]
      cases h : List.lookup q (((d.pn.take d.np).map sv).zip us ++ (ks.map sv).zip zv) with
      | none => rw [h] at hq; cases hq
      | some v => rfl)
    (fun n hn sl hG he => by
      obtain ⟨i, p, hi, hp, rfl⟩ := Kix n hn
      obtain ⟨b, _, hb2⟩ := b3 i p hp
      have no : (List.lookup (sv p) (((d.pn.take d.np).map sv).zip us ++ (ks.map sv).zip zv)).isSome = true → False := fun h => by
        have := hG _ h
        rw [Option.isNone_iff_eq_none] at he
        rw [he] at this; cases this
      refine ⟨?_, fun q hq => ?_⟩
      · rcases hb2 with h | ⟨_, h⟩ | ⟨_, _, h⟩
        · exact (no (by rw [sl0 i p hp, h]; rfl)).elim
        · exact (no (by rw [sl0 i p hp, h]; cases us[i]? <;> rfl)).elim
        · obtain ⟨a, e1, e2⟩ := D.kd i p b hi hp h
          refine ⟨a, e1, ?_⟩
          rw [gat i p b hp h]
          exact W.looks_nsIn hK e2
      · rw [List.lookup_append]
        have := hG q hq
        cases h : sl.lookup q with
        | none => rw [h] at this; cases this
        | some v => rfl)
  refine (congrArg (W.Looks M s.heap (bindArgs fd { pos := us, kw := (ks.map sv).zip zv })) (?_ : _ = (d.pn.map sv).zip bs)).mp key
  rw [← pk]
  refine bindsOf_zip (fun q hq => ?_) (by rw [pk, b1]; simp)
  rw [pk] at hq
  obtain ⟨i, hi⟩ := List.getElem?_of_mem hq
  rw [List.getElem?_zip_eq_some] at hi
  obtain ⟨hi1, hi2⟩ := hi
  rw [List.getElem?_map] at hi1
  cases hp : d.pn[i]? with
  | none => rw [hp] at hi1; cases hi1
  | some p =>
    rw [hp] at hi1
    have e1 : q.1 = sv p := (Option.some.inj hi1).symm
    obtain ⟨b, hb1, hb2⟩ := b3 i p hp
    rw [hi2] at hb1
    cases hb1
    rw [e1, kwd_lookup, dfl_lookup, sl0 i p hp]
    rcases hb2 with h | ⟨hw, h⟩ | ⟨hw, hn, h⟩
    · rw [h]; rfl
    · rw [usN i hw, h]; rfl
    · rw [usN i hw, hn]
      by_cases hi : i < d.np
      · rw [dat i p _ hi hp h]; rfl
      · have nm : List.lookup (sv p) ((((d.pn.take d.np).map sv).drop (((d.pn.take d.np).map sv).length - D'.length)).zip D') = none := by
          refine lookup_zip_not fun m => ?_
          have m := List.mem_of_mem_drop m
          have k : sv p ∈ (d.pn.drop d.np).map sv := List.mem_of_getElem? (Kat i p (by omega) hp)
          exact (List.nodup_append.mp (pk ▸ ndS)).2.2 _ m _ k rfl
        rw [nm, if_pos (List.mem_of_getElem? (Kat i p (by omega) hp)), gat i p _ hp h]
        rfl
end Pf
end
section
set_option Elab.async false
set_option linter.all false
set_option maxRecDepth 100000
set_option maxHeartbeats 400000
namespace Pf
open PySem PySem.Spec PyProof.Rows L2
section
variable {S : Sta} {H : Hp} {ρ : List Addr} {n : Nat}
theorem Nh.take {a : Addr} (h : Nh S ρ a) : Nh S (ρ.take n) a := ⟨fun m => h.1 (List.mem_of_mem_take m), h.2⟩
mutual
theorem Rep.gc : ∀ {p : PV} {v : V}, below n p = true → Rep S H ρ p v → Rep S H (ρ.take n) p v
  | .non, _, _, h => h
  | .bl _, _, _, h => h
  | .int _, _, _, h => h
  | .str _, _, _, h => h
  | .tup xs, _, b, ⟨a, vs, e, t, r⟩ => ⟨a, vs, e, t.elim (fun t => .inl ⟨t.1, t.2.take⟩) .inr, RepL.gc b r⟩
  | .lst xs, _, b, ⟨a, vs, e, t, r⟩ => ⟨a, vs, e, ⟨t.1, t.2.take⟩, RepL.gc b r⟩
  | .dic kvs, _, b, ⟨a, vs, e, ⟨t, k⟩, r⟩ => ⟨a, vs, e, ⟨t, k.take⟩, RepD.gc b r⟩
  | .loc m, _, b, ⟨a, e, q⟩ => ⟨a, e, by
      have hm : m < n := Nat.le_of_ble_eq_true (show Nat.ble (m + 1) n = true from b)
      rw [List.getElem?_take_of_lt hm]; exact q⟩
  | .fn _, _, _, h => h
  | .cls _, _, _, h => h
  | .clo _ _, _, _, h => h
  | .exo _ _, _, _, h => h
theorem RepL.gc : ∀ {ps : List PV} {vs : List V}, belowL n ps = true → RepL S H ρ ps vs → RepL S H (ρ.take n) ps vs
  | [], _, _, h => h
  | p :: ps, _, b, ⟨v, ws, e, r, t⟩ => by
    have b : (match below n p with
      | true => belowL n ps
      | false => false) = true := b
    split at b
    · exact ⟨v, ws, e, Rep.gc (by assumption) r, RepL.gc b t⟩
    · cases b
theorem RepD.gc : ∀ {ps : List (PV × PV)} {vs : List (Key × V)}, belowD n ps = true → RepD S H ρ ps vs → RepD S H (ρ.take n) ps vs
  | [], _, _, h => h
  | (k, p) :: ps, _, b, ⟨q, v, ws, e, hk, r, t⟩ => by
    have b : (match below n p with
      | true => belowD n ps
      | false => false) = true := b
    split at b
    · exact ⟨q, v, ws, e, hk, Rep.gc (by assumption) r, RepD.gc b t⟩
    · cases b
end
theorem RepF.gc : ∀ {ps : List (List Nat × PV)} {vs : List (Str × V)}, belowF n ps = true → RepF S H ρ ps vs → RepF S H (ρ.take n) ps vs
  | [], _, _, h => h
  | (k, p) :: ps, _, b, ⟨v, ws, e, r, t⟩ => by
    have b : (match below n p with
      | true => belowF n ps
      | false => false) = true := b
    split at b
    · exact ⟨v, ws, e, Rep.gc (by assumption) r, RepF.gc b t⟩
    · cases b
theorem RepH.gc : ∀ {p : PO} {o : HO}, belowO n p = true → RepH S H ρ p o → RepH S H (ρ.take n) p o
  | .lst xs, _, b, ⟨vs, e, r⟩ => ⟨vs, e, RepL.gc b r⟩
  | .dic xs, _, b, ⟨vs, e, r⟩ => ⟨vs, e, RepD.gc b r⟩
  | .ins c fs, _, b, ⟨dx, vs, e, w, r⟩ => ⟨dx, vs, e, w, RepF.gc b r⟩
  | .frz p, _, b, ⟨ob, u, e, r⟩ => ⟨ob, u, e, RepH.gc (p := p) b r⟩
  | .any, _, _, h => h
theorem RepM.gc : ∀ {m : Nat} {M : Sto} {as : List Addr}, belowM n m M = true → RepM S H ρ M as → RepM S H (ρ.take n) (M.take m) (as.take m)
  | 0, _, _, _, _ => rfl
  | m + 1, [], _, _, h => by subst h; rfl
  | m + 1, o :: M, _, b, ⟨a, r, u, e, ha, hr, t⟩ => by
    have b : (match belowO n o with
      | true => belowM n m M
      | false => false) = true := b
    split at b
    · subst e
      exact ⟨a, r.take m, u, rfl, ha, RepH.gc (by assumption) hr, RepM.gc b t⟩
    · cases b
theorem gc_ok {H0 : Hp} {ρ0 : List Addr} {M M' : Sto} {v : PV} {x : V} (A0 : Abs S H0 ρ0 M) (X : Ext ρ0 H0 ρ H) (A : Abs S H ρ M') (r : Rep S H ρ v x) :
    ∃ ρ', Ext ρ0 H0 ρ' H ∧ Abs S H ρ' (gcV M.length v M') ∧ Rep S H ρ' v x := by
  unfold gcV
  split
  · exact ⟨ρ, X, A, r⟩
  · split
    · rename_i hb
      rw [Bool.and_eq_true] at hb
      obtain ⟨l, e, f⟩ := X.pre
      have hl : M.length = ρ0.length := A0.len
      have et : ρ.take M.length = ρ0 := by rw [e, hl, List.take_left]
      refine ⟨ρ.take M.length, ⟨⟨[], by rw [et]; simp, by simp⟩, X.keep, X.dom, X.frz⟩, ⟨RepM.gc hb.2 A.m, A.nd.sublist (List.take_sublist _ _), A.hd⟩, Rep.gc hb.1 r⟩
    · exact ⟨ρ, X, A, r⟩
end
end Pf
end
section
set_option Elab.async false
set_option linter.all false
set_option maxRecDepth 100000
set_option maxHeartbeats 400000
namespace Pf
open PySem PySem.Spec PyProof.Rows L2
def exE (S : Sta) (E : XK) : Exn → Sto → List Addr → Hp → Prop := fun e _ ρ H => ∀ dx fs, H dx = some (.xd fs) → RepF S H ρ e.fs fs → E (.ref (S.cA e.c)) (some dx) H
def RelP (S : Sta) (p : PV) (u : Value) : Prop := ∃ v, RelV v u ∧ ∀ H ρ, Rep S H ρ p v
def FnDat (S : Sta) (K : W.Frag) (d : Fn) (fd : FuncData) : Prop := ∃ dV, DefOk K d fd dV ∧ Paired (OptR (RelP S)) d.dv dV
abbrev XWish := XK → Exn → Sto → List Addr → Hp → Prop
def spF (S : Sta) (xw : XWish) (o : Orc) (f : Nat) (d : Fn) : Sp := fun vs H Q E => vs.length = d.pn.length ∧ ∃ ρ M ps, Abs S H ρ M ∧ RepL S H ρ ps vs ∧
  Post S ρ H (o f (putSl d.ps ps (List.replicate d.n none)) M) (fun v _ ρ' H' => ∀ x, Rep S H' ρ' v x → Q x H') (xw E)
section
variable {S : Sta} {H : Hp} {ρ : List Addr}
theorem repL_vals : ∀ {ps : List PV} {vs : List V} {us : List Value}, RepL S H ρ ps vs → Vals vs us → Paired (fun p u => ∃ v, RelV v u ∧ Rep S H ρ p v) ps us
  | [], _, _, h, k => by subst h; cases k; exact .nil
  | p :: ps, _, _, ⟨v, ws, e, r, t⟩, k => by
    subst e
    cases k with
    | cons a b => exact .cons ⟨v, a, r⟩ (repL_vals t b)
theorem vals_repL : ∀ {ps : List PV} {us : List Value}, Paired (fun p u => ∃ v, RelV v u ∧ Rep S H ρ p v) ps us → ∃ vs, Vals vs us ∧ RepL S H ρ ps vs
  | [], _, k => by cases k; exact ⟨[], .nil, rfl⟩
  | p :: ps, _, k => by
    cases k with
    | cons a b =>
      obtain ⟨v, h1, h2⟩ := a
      obtain ⟨vs, h3, h4⟩ := vals_repL b
      exact ⟨v :: vs, .cons h1 h3, _, _, rfl, h2, h4⟩
theorem Paired.takeN {β γ : Type} {R : β → γ → Prop} : ∀ {as : List β} {bs : List γ} (n : Nat), Paired R as bs → Paired R (as.take n) (bs.take n)
  | _, _, 0, _ => .nil
  | _, _, n + 1, h => by
    cases h with
    | nil => exact .nil
    | cons a b => exact .cons a (Paired.takeN n b)
theorem Paired.dropN {β γ : Type} {R : β → γ → Prop} : ∀ {as : List β} {bs : List γ} (n : Nat), Paired R as bs → Paired R (as.drop n) (bs.drop n)
  | _, _, 0, h => h
  | _, _, n + 1, h => by
    cases h with
    | nil => exact .nil
    | cons a b => exact Paired.dropN n b
theorem Paired.imp {β γ : Type} {R R' : β → γ → Prop} (f : ∀ a b, R a b → R' a b) : ∀ {as : List β} {bs : List γ}, Paired R as bs → Paired R' as bs
  | _, _, .nil => .nil
  | _, _, .cons a b => .cons (f _ _ a) (Paired.imp f b)
theorem Paired.app {β γ : Type} {R : β → γ → Prop} {cs : List β} {ds : List γ} : ∀ {as : List β} {bs : List γ}, Paired R as bs → Paired R cs ds → Paired R (as ++ cs) (bs ++ ds)
  | _, _, .nil, h => h
  | _, _, .cons a b, h => .cons a (Paired.app b h)
theorem OptR.imp {β γ : Type} {R R' : β → γ → Prop} (f : ∀ a b, R a b → R' a b) : ∀ {a : Option β} {b : Option γ}, OptR R a b → OptR R' a b
  | none, none, h => h
  | some _, some _, h => f _ _ h
  | none, some _, h => h
  | some _, none, h => h
theorem bind_all {K : W.Frag} {d : Fn} {fd : FuncData} {s : Shared} {us ws : List Value} {vs zs : List V} {ks : List (List Nat)} {ps wp : List PV} (D : FnDat S K d fd) (hK : K.In s.heap) (rv : Vals vs us) (rz : Vals zs ws) (lz : zs.length = ks.length)
    (rp : RepL S H ρ ps (vs ++ zs)) (hb : bindPs d ps ks = some wp) : ∃ bs ys, BindsTo s fd { pos := us, kw := (ks.map sv).zip ws } ((d.pn.map sv).zip bs) ∧ Vals ys bs ∧ RepL S H ρ wp ys ∧ ys.length = d.pn.length := by
  obtain ⟨dV, D, hd⟩ := D
  unfold bindPs at hb
  split at hb
  · rename_i hc
    simp only [Bool.and_eq_true] at hc
    obtain ⟨⟨c1, c2⟩, c3⟩ := hc
    have c1 := Nat.le_of_ble_eq_true c1
    have c2 := Nat.le_of_ble_eq_true c2
    have lp : ps.length = vs.length + zs.length := by rw [rp.len]; simp
    have e1 : ps.length - ks.length = vs.length := by omega
    have lu : us.length = vs.length := (Paired.length rv).symm
    have lw : ws.length = zs.length := (Paired.length rz).symm
    rw [e1] at hb c2 c3
    have R := repL_vals rp (Paired.app rv rz)
    have R1 := Paired.takeN vs.length R
    have R2 := Paired.dropN vs.length R
    rw [← lu, List.take_left] at R1
    rw [← lu, List.drop_left] at R2
    rw [← lu] at hb c2 c3
    obtain ⟨bs, hb2, hr⟩ := bindGo_rel (ks := ks) R2 (Paired.imp (fun a b h => OptR.imp (fun p u ⟨v, h1, h2⟩ => ⟨v, h1, h2 H ρ⟩) h) hd) R1 hb
    obtain ⟨ys, h1, h2⟩ := vals_repL hr
    refine ⟨bs, ys, bind_ok D hK c2 c3 (by rw [lw, lz]) hb2, h1, h2, ?_⟩
    rw [Paired.length h1, (bindGo_spec hb2).1]
  · cases hb
end
theorem bind_new {S : Sta} {H : Hp} {ρ : List Addr} {K : W.Frag} {d : Fn} {fd : FuncData} {us ws : List Value} {vs zs : List V} {ks : List (List Nat)} {ps wp : List PV} {l : PV} (D : FnDat S K d fd) (rv : Vals vs us) (rz : Vals zs ws) (lz : zs.length = ks.length)
    (rp : RepL S H ρ ps (vs ++ zs)) (hb : bindPs d (l :: ps) ks = some wp) : ∃ bs ys wp', wp = l :: wp' ∧ Vals ys bs ∧ RepL S H ρ wp' ys ∧ ys.length + 1 = d.pn.length ∧
      ∀ (u : Value) (s : Shared), K.In s.heap → BindsTo s fd { pos := u :: us, kw := (ks.map sv).zip ws } ((d.pn.map sv).zip (u :: bs)) := by
  obtain ⟨dV, D, hd⟩ := D
  unfold bindPs at hb
  split at hb
  · rename_i hc
    simp only [Bool.and_eq_true] at hc
    obtain ⟨⟨c1, c2⟩, c3⟩ := hc
    have c2 := Nat.le_of_ble_eq_true c2
    have lp : ps.length = vs.length + zs.length := by rw [rp.len]; simp
    have e1 : (l :: ps).length - ks.length = vs.length + 1 := by simp only [List.length_cons]; omega
    have lu : us.length = vs.length := (Paired.length rv).symm
    have lw : ws.length = zs.length := (Paired.length rz).symm
    rw [e1] at hb c2 c3
    have R := repL_vals rp (Paired.app rv rz)
    have R1 := Paired.takeN vs.length R
    have R2 := Paired.dropN vs.length R
    rw [← lu, List.take_left] at R1
    rw [← lu, List.drop_left] at R2
    rw [← lu] at hb c2 c3
    simp only [List.take_succ_cons, List.drop_succ_cons] at hb
    have hdr := Paired.imp (fun a b h => OptR.imp (R' := fun p u => ∃ v, RelV v u ∧ Rep S H ρ p v) (fun p u ⟨v, h1, h2⟩ => ⟨v, h1, h2 H ρ⟩) h) hd
    revert hb hdr
    generalize hpn : d.pn = pn
    generalize hdv : d.dv = dv
    intro hb hdr
    cases pn with
    | nil => cases dv <;> cases hb
    | cons p pn =>
      cases hdr with
      | nil => cases hb
      | @cons a b as bs0 hab hrest =>
        have hb : (bindGo (ks.zip (ps.drop us.length)) pn as (ps.take us.length)).map (l :: ·) = some wp := hb
        cases hg : bindGo (ks.zip (ps.drop us.length)) pn as (ps.take us.length) with
        | none => rw [hg] at hb; cases hb
        | some wp' =>
          rw [hg] at hb
          cases hb
          obtain ⟨bs, hb2, hr⟩ := bindGo_rel (ks := ks) R2 hrest R1 hg
          obtain ⟨ys, h1, h2⟩ := vals_repL hr
          refine ⟨bs, ys, wp', rfl, h1, h2, ?_, fun u s hK => ?_⟩
          · rw [Paired.length h1, (bindGo_spec hb2).1]; rfl
          · rw [← hpn]
            refine bind_ok D hK c2 c3 (by rw [lw, lz]) ?_
            rw [hpn]
            show (bindGo (ks.zip ws) pn bs0 us).map (u :: ·) = _
            rw [hb2]; rfl
  · cases hb
section
variable {S : Sta} {Wx : WP} {X : Cx} {prog : Prog} {o : Orc} {CX : CXT} {k : Nat} {EW : L2.St → XK} {xw : XWish}
structure CallFns (X : Cx) (S : Sta) (xw : XWish) (prog : Prog) (o : Orc) (CX : CXT) (k : Nat) : Prop where
  fn : ∀ f d, prog.fns[f]? = some d → ∃ fd, FnG X.prog X.w X.K X.mg X.base CX k (S.fA f) fd (d.pn.map sv) (spF S xw o f d) ∧ FnDat S X.K d fd
  g : X.A.guards = some []
  r : Room (k + 1) X.A
theorem callOk_of (F : CallFns X S xw prog o CX k) (hE : ∀ σ e M ρ H, Wx σ e M ρ H → xw (EW σ) e M ρ H) (hx : ∀ pins σ H s e s', L2.Inv X pins σ H s → CX X.stack H s (EW σ) e s' → X.xe e s') : CallOk X S Wx prog o := by
  intro f pins s σ H Q us ws vs zs ks ρ M ps I rv rz lz A rp P
  unfold callF at P
  split at P
  · exact P.elim
  · rename_i d hd
    split at P
    · exact P.elim
    · rename_i wp hb
      obtain ⟨fd, FG, D⟩ := F.fn f d hd
      obtain ⟨bs, ys, h1, h2, h3, h4⟩ := bind_all D (Inv.kIn I) rv rz lz rp hb
      exact run_fnG (E := EW σ) FG F.g (F.r.mono (Nat.le_succ _)) h1 (fun e s' h => hx pins σ H s e s' I h) I h2 ⟨h4, ρ, M, wp, A, h3, P.imp (fun _ _ _ _ _ _ _ q => q) fun e M ρ' H' _ _ q => hE σ e M ρ' H' q⟩
theorem newOk_of (hK : X.K = S.K) (hc : ClsOk S prog) (F : CallFns X S xw prog o CX k) (hE : ∀ σ e M ρ H, Wx σ e M ρ H → xw (EW σ) e M ρ H) (hx : ∀ pins σ H s e s', L2.Inv X pins σ H s → CX X.stack H s (EW σ) e s' → X.xe e s') : NewOk X S Wx prog o := by
  intro c pins s σ H Q us ws vs zs ks ρ M ps ow I rv rz lz A rp P
  unfold newR at P
  split at P
  · exact P.elim
  · rename_i kc hk
    split at P
    · exact P.elim
    · rename_i f hf
      unfold callF at P
      split at P
      · exact P.elim
      · rename_i d hd
        split at P
        · exact P.elim
        · rename_i wp hb
          obtain ⟨fd, FG, D⟩ := F.fn f d hd
          have mk := hc.mkC c ow kc hk f hf
          rw [← hK] at mk
          have hn : H (s.heap.objs.size + 1) = none := HOk.fresh I.hok (Nat.le_succ _)
          have hn0 : H s.heap.objs.size = none := HOk.fresh I.hok (Nat.le_refl _)
          obtain ⟨bs, ys, wp', e, h2, h3, h4, h5⟩ := bind_new D rv rz lz rp hb
          subst e
          refine run_makeG (E := EW σ) (bs := bs) (vs := ys) mk FG F.g F.r (fun s' hK' => h5 _ s' hK') (fun H s e s' I h => hx pins σ H s e s' I h) I h2 fun x dx hx0 hdx hne => ?_
          · have x1 : Ext ρ H ρ (upd H dx (HO.own x)) := ext_new hdx
            have A1 : Abs S (upd H dx (HO.own x)) ρ M := abs_new A hdx
            have hx1 : upd H dx (HO.own x) x = none := by rw [upd_ne (Ne.symm hne)]; exact hx0
            have x2 : Ext ρ (upd H dx (HO.own x)) (ρ ++ [x]) (upd (upd H dx (HO.own x)) x (HO.ins (S.cA c) dx [])) := ext_loc hx1
            have A2 : Abs S (upd (upd H dx (HO.own x)) x (HO.ins (S.cA c) dx [])) (ρ ++ [x]) (M ++ [.ins c []]) := abs_loc A1 hx1 ⟨dx, [], rfl, ow, rfl⟩
            have x3 := x1.trans x2
            refine ⟨by simp only [List.length_cons]; exact h4, ρ ++ [x], M ++ [.ins c []], .loc M.length :: wp', A2, ⟨_, _, rfl, ⟨x, rfl, by rw [A.len]; simp⟩, RepL.ext x3 wp' h3⟩, ?_⟩
            refine (Post.ext P x3).bind.imp (fun v M' ρ' H' _ xx A' q z hz => ?_) fun e M' ρ' H' _ _ q => hE σ e M' ρ' H' q
            split at q
            · refine ⟨hz, q.now A' _ ⟨x, rfl, ?_⟩⟩
              exact xx.get (by rw [A.len]; simp)
            · exact q.elim
end
end Pf
end
section
set_option Elab.async false
set_option linter.all false
set_option maxRecDepth 100000
set_option maxHeartbeats 400000
namespace Pf
open PySem PySem.Spec PyProof.Rows L2
section
variable {S : Sta} {Wx : WP} {X : Cx} {α : Type} {prog : Prog} {o : Orc} {H H2 : Hp} {ρ ρ2 : List Addr} {M : Sto} {v : PV} {x : V} {hx : Option Exn}
theorem mv_place_set {a : Addr} {u : HO} (ha : a ∈ ρ) : Mv S S.hid H ρ S.hid (upd H a u) ρ :=
  ⟨fun _ _ e => e, fun b o e n => ⟨by rw [upd_ne (fun z => n.1 (by rw [z]; exact ha))]; exact e, n⟩⟩
theorem abs_set {M : Sto} (A : Abs S H ρ M) {n : Nat} {a : Addr} {u : HO} {q : PO} (h : ρ[n]? = some a) (r : RepH S H ρ q u) : Abs S (upd H a u) ρ (setAt M n q) := by
  have ha := List.mem_of_getElem? h
  have mv : ∀ p o, RepH S H ρ p o → RepH S (upd H a u) ρ p o := fun p o r => RepH.mv (S := S) (h1 := S.hid) (h2 := S.hid) (mv_place_set ha) p r
  exact ⟨RepM.set A.m A.nd h mv (fun b w hb e => by rw [upd_ne hb]; exact e) upd_same (mv q u r), A.nd, fun b z => by
    by_cases hb : b = a
    · rw [hb, upd_same]; exact fun z => by cases z
    · rw [upd_ne hb]; exact A.hd b z⟩
theorem s_lk {e : PySem.Expr} {d c : CE} (h : PE X e (tE S Wx fun env => evE prog o env c)) : PE X e (tE S Wx fun env => evE prog o env (.lk d c)) :=
  PE.imp (pe_lock h) fun σ H Q ⟨ρ, M, env, A, E, P⟩ => by
    have P : Post S ρ H (match evE prog o env d M with
      | .ok v _ => match lockN M v with
        | some n => (evE prog o env c (lockD M n)).nox.bind (unlockR n)
        | none => .no "locked"
      | _ => .no "locked") _ _ := P
    split at P
    · rename_i v M0 hv
      split at P
      · rename_i n hn
        have hk : ∃ kvs, M[n]? = some (.dic kvs) := by
          unfold lockN at hn
          split at hn
          · split at hn
            · rename_i e
              cases hn
              exact ⟨_, e⟩
            · cases hn
          · cases hn
        obtain ⟨kvs, hk⟩ := hk
        obtain ⟨a, w, ha, ho, ks, rfl, rd⟩ := A.get hk
        have eL : lockD M n = setAt M n (.frz (.dic kvs)) := by unfold lockD; rw [hk]
        rw [eL] at P
        refine ⟨a, .dK ks, ho, trivial, fun od => ?_⟩
        have xl : Ext ρ H ρ (upd H a (.frz od (.dK ks))) := ext_write (M := M) (List.mem_of_getElem? ha) ho
        have Al : Abs S (upd H a (.frz od (.dK ks))) ρ (setAt M n (.frz (.dic kvs))) := abs_set A ha ⟨od, .dK ks, rfl, ks, rfl, rd⟩
        refine ⟨ρ, _, env, Al, E.ext xl, ?_⟩
        show Post S ρ _ (evE prog o env c (setAt M n (.frz (.dic kvs)))) _ _
        cases hr : evE prog o env c (setAt M n (.frz (.dic kvs))) with
        | ok y M2 =>
          rw [hr] at P
          have P : Post S ρ H (match M2[n]? with
            | some (.frz (.dic kvs)) => Rs.ok y (setAt M2 n (.dic kvs))
            | _ => .no "unlocked") _ _ := P
          split at P
          · rename_i kvs2 h2
            intro ρ' H' x' A' z hz
            have hf := x'.frz a od (.dK ks) upd_same
            obtain ⟨b, w, hb, hw, ob, u, rfl, ks2, rfl, rd2⟩ := A'.get h2
            have ha' := x'.get ha
            rw [ha'] at hb; cases hb
            rw [hf] at hw; cases hw
            refine ⟨hf, ?_⟩
            have A'' : Abs S (upd H' a (.dK ks)) ρ' (setAt M2 n (.dic kvs2)) := abs_set A' ha' ⟨ks, rfl, rd2⟩
            have x'' : Ext ρ H ρ' (upd H' a (.dK ks)) := by
              obtain ⟨l, e1, e2⟩ := x'.pre
              refine ⟨⟨l, e1, fun b hb => ?_⟩, fun b w hw nb => ?_, fun b hb => ?_, fun b w u hw => ?_⟩
              · have := e2 b hb
                by_cases q : b = a
                · rw [q, upd_same] at this; cases this
                · rw [upd_ne q] at this; exact this
              · have hba : b ≠ a := fun q => nb (by rw [q]; exact List.mem_of_getElem? ha)
                rw [upd_ne hba]
                exact x'.keep b w (by rw [upd_ne hba]; exact hw) nb
              · by_cases q : b = a
                · rw [q, upd_same]; exact fun z => by cases z
                · rw [upd_ne q]; exact x'.dom b (by rw [upd_ne q]; exact hb)
              · have hba : b ≠ a := fun q => by rw [q, ho] at hw; cases hw
                rw [upd_ne hba]
                exact x'.frz b w u (by rw [upd_ne hba]; exact hw)
            exact P ρ' _ x'' A'' z (Rep.mv (S := S) (h1 := S.hid) (h2 := S.hid) (mv_place_set (List.mem_of_getElem? ha')) y hz)
          · exact P.elim
        | ex y M2 =>
          rw [hr] at P
          exact (P : False).elim
        | no w =>
          rw [hr] at P
          exact P
      · exact P.elim
    · exact P.elim
end
end Pf
end
section
set_option Elab.async false
set_option linter.all false
set_option maxRecDepth 100000
set_option maxHeartbeats 1000000
namespace Pf
open PySem PySem.Spec PyProof.Rows L2
def IterAt (v : Value) (s : Shared) (it : Addr) (h1 : Heap) : Prop := ∀ (prog : Program) (w : World) (A : Around) (E : Value → Shared → Prop) (Q : Value → Shared → Prop), Q (.ref it) { s with heap := h1 } → wpAny (model prog w) A (pyIter v) Q E s
theorem meets_enum1 {v : Value} {s0 : Shared} {it : Addr} {h1 : Heap} (B : IterAt v s0 it h1) :
    Meets (Builtin.«enumerate.__new__» ⟨[.type "enumerate", v], []⟩) (fun _ R s => s = s0 ∧
      R (.ok (.ret (.ref h1.objs.size))) { s0 with heap := h1.push { cls := .type "enumerate", data := .fields #[.none, .bool false, .ref it, rawInt 0, .none, .none] } }) :=
  .of_wp fun prog w A R s h => by
    obtain ⟨rfl, h⟩ := h
    obtain ⟨hp, g, d, tk, os⟩ := s
    have hsub := PySem.sub_enumerate
    have q1 : ∀ {A' : Around} {E : Value → Shared → Prop} {Q : Value → Shared → Prop}, Q (.ref it) ⟨h1, g, d, tk, os⟩ → wpAny (model prog w) A' (pyIter v) Q E ⟨hp, g, d, tk, os⟩ :=
      fun q => B prog w _ _ _ q
    wp_walk using q1
    refine wpAny_stack_any fun st => wpAny_pure ?_
    split
    · rename_i c _ _ _ _ _
      cases (c == Value.type "enumerate")
      · wp_walk using q1
        exact ⟨_, rfl, h⟩
      · wp_walk using q1
        exact ⟨_, rfl, h⟩
    · wp_walk using q1
      exact ⟨_, rfl, h⟩
theorem meets_enum2 {v : Value} {s0 : Shared} {it : Addr} {h1 : Heap} (B : IterAt v s0 it h1) (k : Int) (t : Tok) (hfit : Builtin.SmallTypes.fitsIndex k = true) :
    Meets (Builtin.«enumerate.__new__» ⟨[.type "enumerate", v, .int k t], []⟩) (fun _ R s => s = s0 ∧
      R (.ok (.ret (.ref h1.objs.size))) { s0 with heap := h1.push { cls := .type "enumerate", data := .fields #[.none, .bool false, .ref it, rawInt k, .none, .none] } }) :=
  .of_wp fun prog w A R s h => by
    obtain ⟨rfl, h⟩ := h
    obtain ⟨hp, g, d, tk, os⟩ := s
    have hsub := PySem.sub_enumerate
    have hnf : (!Builtin.SmallTypes.fitsIndex k) = false := by rw [hfit]; rfl
    have q1 : ∀ {A' : Around} {E : Value → Shared → Prop} {Q : Value → Shared → Prop}, Q (.ref it) ⟨h1, g, d, tk, os⟩ → wpAny (model prog w) A' (pyIter v) Q E ⟨hp, g, d, tk, os⟩ :=
      fun q => B prog w _ _ _ q
    wp_walk using q1
    refine wpAny_stack_any fun st => wpAny_pure ?_
    split
    · rename_i c _ _ _ _ _
      cases (c == Value.type "enumerate")
      · wp_walk using q1
        exact ⟨_, rfl, h⟩
      · wp_walk using q1
        exact ⟨_, rfl, h⟩
    · wp_walk using q1
      exact ⟨_, rfl, h⟩
section
variable {prog : Program} {w : World} {A : Around} {E : Value → Shared → Prop} {s : Shared}
theorem call_enum1 {v : Value} {it : Addr} {h1 : Heap} {Q : Value → Shared → Prop} (B : IterAt v s it h1)
    (h : ∀ h', IsEnum h' h1.objs.size it 0 .none → h'.objs.size = h1.objs.size + 1 → (∀ b o, h1.get? b = some o → h'.get? b = some o) → Q (.ref h1.objs.size) { s with heap := h' }) :
    wpAny (model prog w) A (call (.type "enumerate") [v]) Q E s := by
  refine callType_new F.called_enumerate (by decide) (F.typeCall_enumerate_1 _) (F.newCall_enumerate_1 _) (fun obj => F.args_object_init_2 obj _) F.entry_enumerate_new (meets_enum1 B) ⟨rfl, ?_⟩
  have he : IsEnum (h1.push { cls := .type "enumerate", data := .fields #[.none, .bool false, .ref it, rawInt 0, .none, .none] }) h1.objs.size it 0 .none := Heap.get?_push_size _ rfl
  exact ⟨⟨_, he, rfl⟩, h _ he (Heap.size_push ..) fun b o x => Heap.get?_push_of_some _ x⟩
theorem call_enum2 {v : Value} {it : Addr} {h1 : Heap} {k : Int} {t : Tok} {Q : Value → Shared → Prop} (B : IterAt v s it h1) (hk0 : -(2 ^ 63) ≤ k) (hk1 : k < 2 ^ 63)
    (h : ∀ h', IsEnum h' h1.objs.size it k .none → h'.objs.size = h1.objs.size + 1 → (∀ b o, h1.get? b = some o → h'.get? b = some o) → Q (.ref h1.objs.size) { s with heap := h' }) :
    wpAny (model prog w) A (call (.type "enumerate") [v, .int k t]) Q E s := by
  refine callType_new F.called_enumerate (by decide) (F.typeCall_enumerate_2 _ _) (F.newCall_enumerate_2 _ _) (fun obj => F.args_object_init_3 obj _ _) F.entry_enumerate_new (meets_enum2 B k t (fits_start hk0 hk1)) ⟨rfl, ?_⟩
  have he : IsEnum (h1.push { cls := .type "enumerate", data := .fields #[.none, .bool false, .ref it, rawInt k, .none, .none] }) h1.objs.size it k .none := Heap.get?_push_size _ rfl
  exact ⟨⟨_, he, rfl⟩, h _ he (Heap.size_push ..) fun b o x => Heap.get?_push_of_some _ x⟩
end
end Pf
end
section
set_option Elab.async false
set_option linter.all false
set_option maxRecDepth 100000
set_option maxHeartbeats 1000000
namespace Pf
open PySem PySem.Spec PyProof.Rows L2
abbrev ZipO (h : Heap) (z TI TO : Addr) (st f1 : Bool) (f0 : Value) : Prop := h.get? z = some { cls := .type "zip", dict := none, data := .fields #[f0, .bool f1, .bool st, .ref TI, .ref TO], slots := #[] }
def OutF (f0 : Value) : Prop := f0 = .none ∨ ∃ T : Nat, f0 = rawInt T
section
variable {prog : Program} {w : World} {A : Around} {E : Value → Shared → Prop} {s : Shared} {z TI TO i1 i2 : Addr} {fp1 fp2 : List Addr} {n1 n2 i : Nat} {P1 P2 : Nat → Value → Prop} {St1 St2 : Nat → Heap → Prop} {a1 a2 : Value}
theorem wpAny_alive {a : Addr} {Q : Option Obj → Shared → Prop} (h : Q (s.heap.get? a) s) : wpAny (model prog w) A (loadIfAlive a) Q E s := by
  rintro p ⟨hx, hf, hp, hq⟩ hΓ
  exact h
theorem zip_free {st f1 : Bool} {f0 : Value} {Q : Bool → Shared → Prop} (hz : ZipO s.heap z TI TO st f1 f0) (hf : OutF f0) (h1 : Q true s)
    (h2 : ∀ h', ZipO h' z TI TO st true f0 → Heap.SameBut z s.heap h' → Q false { s with heap := h' }) : wpAny (model prog w) A (Builtin.SmallTypes.ownedTupleIsFree (.ref z)) Q E s := by
  unfold Builtin.SmallTypes.ownedTupleIsFree
  refine wpAny_bind (wpAny_field hz rfl (x := f0) rfl ?_)
  rcases hf with rfl | ⟨T, rfl⟩
  · exact wpAny_pure h1
  · show wpAny _ _ (loadIfAlive ((T : Int).toNat) >>= _) _ _ _
    refine wpAny_bind (wpAny_alive ?_)
    cases hT : s.heap.get? ((T : Int).toNat) with
    | none => exact wpAny_pure h1
    | some o =>
      show wpAny _ _ (field (.ref z) 1 >>= _) _ _ _
      refine wpAny_bind (wpAny_field hz rfl (x := .bool f1) rfl ?_)
      cases f1 with
      | true => exact wpAny_pure (h2 s.heap hz (Heap.SameBut.refl ..))
      | false =>
        show wpAny _ _ (setField (.ref z) 1 (.bool true) >>= _) _ _ _
        refine wpAny_bind (wpAny_setField_rec hz (by simp) fun h' hz' hs' => wpAny_pure (h2 h' hz' hs'))
theorem draw_strict {it : Addr} {fp : List Addr} {n : Nat} {P : Nat → Value → Prop} {St : Nat → Heap → Prop} (D : Draws prog w A it fp n P St) {Q : Option Value → Shared → Prop} (hi : i < n) (hst : St i s.heap)
    (hQ : ∀ x h' tk, P i x → St (i + 1) h' → Heap.SameBut it s.heap h' → Q (some x) { s with heap := h', toks := tk }) : wpAny (model prog w) A (Builtin.SmallTypes.nextOrEnd (.ref it)) Q E s := by
  unfold Builtin.SmallTypes.nextOrEnd
  exact wpAny_bind (wpAny_attempt (D.item i _ _ _ hi hst fun x h' tk a b c => wpAny_pure (hQ x h' tk a b c)))
theorem draw_strict_end {it : Addr} {fp : List Addr} {n : Nat} {P : Nat → Value → Prop} {St : Nat → Heap → Prop} (D : Draws prog w A it fp n P St) {Q : Option Value → Shared → Prop} (hst : St n s.heap)
    (hQ : ∀ h', Heap.ExtBut it s.heap h' → Q none { s with heap := h' }) : wpAny (model prog w) A (Builtin.SmallTypes.nextOrEnd (.ref it)) Q E s := by
  unfold Builtin.SmallTypes.nextOrEnd
  refine wpAny_bind (wpAny_attempt (D.done _ _ _ hst fun h' e he hx => ?_))
  obtain ⟨o, ho, hc⟩ := hx
  refine wpAny_bind (wpAny_isInstance (T := "StopIteration") (b := true) ⟨o, ho, hc⟩ isSubtype_stop ?_)
  exact wpAny_pure (hQ h' he)
theorem raise_stop {α : Type} {Q : α → Shared → Prop} (hh : A.handled = none) (hE : ∀ h' e, (∀ b o, s.heap.get? b = some o → h'.get? b = some o) → (∃ o, h'.get? e = some o ∧ o.cls = .type "StopIteration") → E (.ref e) { s with heap := h' }) :
    wpAny (model prog w) A (Builtin.SmallTypes.stopIteration : Sem α) Q E s := by
  unfold Builtin.SmallTypes.stopIteration
  refine wpAny_bind ?_
  simp only [newExc, newTuple]
  refine wpAny_bind (wpAny_newObj_type ?_ (by size_fits))
  refine wpAny_bind (m := firstArgMember _ _) (wpAny_of_eq (a := Value.none) (by first | rfl | (simp only [firstArgMember]; rfl)) ?_)
  refine wpAny_newObj_type ?_ (by size_fits)
  simp only [raiseNew]
  refine wpAny_bind (wpAny_handled ?_)
  rw [hh]
  refine wpAny_bind (wpAny_pure (wpAny_throw ?_))
  exact hE _ _ (fun b o e => Heap.get?_push_of_some _ (Heap.get?_push_of_some _ e)) ⟨_, Heap.get?_push_size _ rfl, rfl⟩
theorem zipN_item_false {f1 : Bool} {f0 : Value} {Q : Value → Shared → Prop} (S : ZipSep2 z TI TO i1 i2 fp1 fp2) (D1 : Draws prog w A i1 fp1 n1 P1 St1) (D2 : Draws prog w A i2 fp2 n2 P2 St2)
    (hz : ZipO s.heap z TI TO false f1 f0) (hf : OutF f0) (hTI : IsTupOf2 s.heap TI (.ref i1) (.ref i2)) (hTO : IsTupOf2 s.heap TO a1 a2) (st1 : St1 i s.heap) (st2 : St2 i s.heap) (hlt1 : i < n1) (hlt2 : i < n2)
    (hQ : ∀ x1 x2 h' tk g1 g0 b1 b2, P1 i x1 → P2 i x2 → ZipO h' z TI TO false g1 g0 → OutF g0 → IsTupOf2 h' TO b1 b2 → St1 (i + 1) h' → St2 (i + 1) h' → IsTupOf2 h' s.heap.objs.size x1 x2 → h'.objs.size = s.heap.objs.size + 1 →
      (∀ c o, c ≠ z → c ≠ TO → c ≠ i1 → c ≠ i2 → s.heap.get? c = some o → h'.get? c = some o) → Q (.ref s.heap.objs.size) { s with heap := h', toks := tk }) :
    wpAny (model prog w) A (Builtin.«zip.__next__» ⟨[.ref z], []⟩) (fun fin s' => ∃ v, fin = .done (.ret v) ∧ Q v s') E s := by
  obtain ⟨hp, g, d, tk0, os⟩ := s
  show wpAny _ _ (field (.ref z) 2 >>= _) _ _ _
  refine wpAny_bind (wpAny_field hz rfl (x := .bool false) rfl ?_)
  show wpAny _ _ (field (.ref z) 3 >>= _) _ _ _
  refine wpAny_bind (wpAny_field hz rfl (x := .ref TI) rfl ?_)
  refine wpAny_bind (wpAny_seqItems hTI rfl ?_)
  show wpAny _ _ (Builtin.SmallTypes.ownedTupleIsFree (.ref z) >>= _) _ _ _
  refine wpAny_bind (zip_free hz hf ?free fun g0 hz0 hs0 => ?out)
  case free =>
    simp only [if_true]
    refine wpAny_bind (wpAny_rule ?_)
    refine wpAny_bind (wpAny_field hz rfl (x := .ref TO) rfl ?_)
    refine wpAny_bind (wpAny_setField_rec hz (by simp) fun g0 hz0 hs0 => ?_)
    replace hz0 : ZipO g0 z TI TO false f1 .ellipsis := hz0
    replace hs0 : Heap.SameBut z hp g0 := hs0
    refine wpAny_bind ?_
    simp only [List.zipIdx_cons, List.zipIdx_nil, List.forIn_cons, List.forIn_nil]
    refine wpAny_bind (wpAny_bind (wpAny_onRaise ?_))
    show wpAny _ _ (Builtin.SmallTypes.nextOf (.ref i1) >>= _) _ _ ⟨g0, g, d, tk0, os⟩
    refine wpAny_bind (D1.item i _ _ _ hlt1 (D1.over st1 hs0 S.zf1) fun x1 p1 tk1 hx1 sn1 hp1 => wpAny_pure ?_)
    replace hp1 : Heap.SameBut i1 g0 p1 := hp1
    have hU1 : IsTupOf2 p1 TO a1 a2 := hp1.extBut _ _ S.Ti1 (hs0.extBut _ _ S.TOz hTO)
    refine wpAny_bind (wpAny_seqItems (s := ⟨p1, g, d, tk1, os⟩) hU1 rfl ?_)
    refine wpAny_bind (updateSeq_IsTupOf2 (s := ⟨p1, g, d, tk1, os⟩) hU1 fun g1 hT1 hs1 => ?_)
    replace hT1 : IsTupOf2 g1 TO x1 a2 := hT1
    replace hs1 : Heap.SameBut TO p1 g1 := hs1
    refine wpAny_bind (wpAny_letGo (wpAny_pure ?_))
    refine wpAny_bind (wpAny_bind (wpAny_onRaise ?_))
    show wpAny _ _ (Builtin.SmallTypes.nextOf (.ref i2) >>= _) _ _ ⟨g1, g, d, tk1, os⟩
    refine wpAny_bind (D2.item i _ _ _ hlt2 (D2.over (D2.over (D2.over st2 hs0 S.zf2) hp1 S.sep1_2) hs1 S.Tf2) fun x2 p2 tk2 hx2 sn2 hp2 => wpAny_pure ?_)
    replace hp2 : Heap.SameBut i2 g1 p2 := hp2
    have hU2 : IsTupOf2 p2 TO x1 a2 := hp2.extBut _ _ S.Ti2 hT1
    refine wpAny_bind (wpAny_seqItems (s := ⟨p2, g, d, tk2, os⟩) hU2 rfl ?_)
    refine wpAny_bind (updateSeq_IsTupOf2 (s := ⟨p2, g, d, tk2, os⟩) hU2 fun g2 hT2 hs2 => ?_)
    replace hT2 : IsTupOf2 g2 TO x1 x2 := hT2
    replace hs2 : Heap.SameBut TO p2 g2 := hs2
    refine wpAny_bind (wpAny_letGo (wpAny_pure (wpAny_pure ?_)))
    refine wpAny_bind (wpAny_seqItems (s := ⟨g2, g, d, tk2, os⟩) hT2 rfl ?_)
    refine wpAny_bind (wpAny_newTuple ?_)
    have hsz : g2.objs.size = hp.objs.size := by rw [hs2.1, hp2.1, hs1.1, hp1.1, hs0.1]
    have hzz : ZipO g2 z TI TO false f1 .ellipsis := (hs2.extBut _ _ S.TOz.symm (hp2.extBut _ _ S.zi2 (hs1.extBut _ _ S.TOz.symm (hp1.extBut _ _ S.zi1 hz0))))
    have hkk : ∀ c o, c ≠ z → c ≠ TO → c ≠ i1 → c ≠ i2 → hp.get? c = some o → g2.get? c = some o := fun c o cz cT c1 c2 e =>
      (hs2.extBut _ _ cT (hp2.extBut _ _ c2 (hs1.extBut _ _ cT (hp1.extBut _ _ c1 (hs0.extBut _ _ cz e)))))
    have hj1 : St1 (i + 1) g2 := (D1.over (D1.over (D1.over sn1 hs1 S.Tf1) hp2 S.sep2_1) hs2 S.Tf1)
    have hj2 : St2 (i + 1) g2 := (D2.over sn2 hs2 S.Tf2)
    have hzlt : z < g2.objs.size := Heap.lt_size hzz
    show wpAny _ _ (Builtin.SmallTypes.ownedTupleHandOut (.ref z) (.ref g2.objs.size) >>= _) _ _ ⟨g2.push { cls := .type "tuple", data := .seq #[x1, x2] }, g, d, tk2, os⟩
    refine wpAny_bind ?_
    unfold Builtin.SmallTypes.ownedTupleHandOut
    have hz₆ : ZipO (g2.push { cls := .type "tuple", data := .seq #[x1, x2] }) z TI TO false f1 .ellipsis := Heap.get?_push_of_some _ hzz
    refine wpAny_bind (wpAny_setField_rec hz₆ (by simp) fun h₇ hz₇ hs₇ => ?_)
    replace hz₇ : ZipO h₇ z TI TO false f1 (rawInt g2.objs.size) := hz₇
    refine wpAny_setField_rec hz₇ (by simp) fun h₈ hz₈ hs₈ => ?_
    replace hz₈ : ZipO h₈ z TI TO false false (rawInt g2.objs.size) := hz₈
    replace hs₇ : Heap.SameBut z (g2.push { cls := .type "tuple", data := .seq #[x1, x2] }) h₇ := hs₇
    replace hs₈ : Heap.SameBut z h₇ h₈ := hs₈
    have up : ∀ c o, c ≠ z → g2.get? c = some o → h₈.get? c = some o := fun c o c1 e => hs₈.extBut _ _ c1 (hs₇.extBut _ _ c1 (Heap.get?_push_of_some _ e))
    have hT₈ : IsTupOf2 h₈ g2.objs.size x1 x2 := hs₈.extBut _ _ (Nat.ne_of_gt hzlt) (hs₇.extBut _ _ (Nat.ne_of_gt hzlt) (Heap.get?_push_size _ rfl))
    have hz8 : h₈.objs.size = g2.objs.size + 1 := by rw [hs₈.1, hs₇.1, Heap.size_push]
    rw [hsz] at hz₈ hT₈ hz8
    refine wpAny_pure ⟨_, rfl, ?_⟩
    show Q (.ref g2.objs.size) ⟨h₈, g, d, tk2, os⟩
    rw [hsz]
    exact hQ x1 x2 h₈ tk2 _ _ _ _ hx1 hx2 hz₈ (.inr ⟨_, rfl⟩) (up _ _ S.TOz hT2) (D1.frame _ _ _ hj1 fun b hb o e => up b o (fun q => S.zf1 (q ▸ hb)) e) (D2.frame _ _ _ hj2 fun b hb o e => up b o (fun q => S.zf2 (q ▸ hb)) e) hT₈ hz8 fun c o cz cT c1 c2 e => up c o cz (hkk c o cz cT c1 c2 e)
  case out =>
    replace hs0 : Heap.SameBut z hp g0 := hs0
    simp only [Bool.false_eq_true, if_false]
    refine wpAny_bind ?_
    simp only [← Array.forIn_toList, List.forIn_cons, List.forIn_nil]
    refine wpAny_bind (wpAny_bind (wpAny_holding ?_))
    show wpAny _ _ (Builtin.SmallTypes.nextOf (.ref i1) >>= _) _ _ ⟨g0, g, d, tk0, os⟩
    refine wpAny_bind (D1.item i _ _ _ hlt1 (D1.over st1 hs0 S.zf1) fun x1 p1 tk1 hx1 sn1 hp1 => wpAny_pure ?_)
    replace hp1 : Heap.SameBut i1 g0 p1 := hp1
    refine wpAny_pure ?_
    refine wpAny_bind (wpAny_bind (wpAny_holding ?_))
    show wpAny _ _ (Builtin.SmallTypes.nextOf (.ref i2) >>= _) _ _ ⟨p1, g, d, tk1, os⟩
    refine wpAny_bind (D2.item i _ _ _ hlt2 (D2.over (D2.over st2 hs0 S.zf2) hp1 S.sep1_2) fun x2 p2 tk2 hx2 sn2 hp2 => wpAny_pure ?_)
    replace hp2 : Heap.SameBut i2 p1 p2 := hp2
    refine wpAny_pure (wpAny_pure ?_)
    show wpAny _ _ (newTuple [x1, x2] >>= _) _ _ ⟨p2, g, d, tk2, os⟩
    refine wpAny_bind (wpAny_newTuple ?_)
    have hsz : p2.objs.size = hp.objs.size := by rw [hp2.1, hp1.1, hs0.1]
    have hzz : ZipO p2 z TI TO false true f0 := hp2.extBut _ _ S.zi2 (hp1.extBut _ _ S.zi1 hz0)
    have hTO' : IsTupOf2 p2 TO a1 a2 := hp2.extBut _ _ S.Ti2 (hp1.extBut _ _ S.Ti1 (hs0.extBut _ _ S.TOz hTO))
    have hkk : ∀ c o, c ≠ z → c ≠ TO → c ≠ i1 → c ≠ i2 → hp.get? c = some o → p2.get? c = some o := fun c o cz cT c1 c2 e =>
      hp2.extBut _ _ c2 (hp1.extBut _ _ c1 (hs0.extBut _ _ cz e))
    have hj1 : St1 (i + 1) p2 := D1.over sn1 hp2 S.sep2_1
    refine wpAny_pure ⟨_, rfl, ?_⟩
    show Q (.ref p2.objs.size) ⟨p2.push { cls := .type "tuple", data := .seq #[x1, x2] }, g, d, tk2, os⟩
    have nw : IsTupOf2 (p2.push { cls := .type "tuple", data := .seq #[x1, x2] }) p2.objs.size x1 x2 := Heap.get?_push_size _ rfl
    rw [hsz] at nw ⊢
    exact hQ x1 x2 _ tk2 _ _ _ _ hx1 hx2 (Heap.get?_push_of_some _ hzz) hf (Heap.get?_push_of_some _ hTO') (D1.frame _ _ _ hj1 fun b hb o e => Heap.get?_push_of_some _ e) (D2.frame _ _ _ sn2 fun b hb o e => Heap.get?_push_of_some _ e) nw (by rw [Heap.size_push, hsz]) fun c o cz cT c1 c2 e => Heap.get?_push_of_some _ (hkk c o cz cT c1 c2 e)
theorem zipN_item_true {f1 : Bool} {f0 : Value} {Q : Value → Shared → Prop} (S : ZipSep2 z TI TO i1 i2 fp1 fp2) (D1 : Draws prog w A i1 fp1 n1 P1 St1) (D2 : Draws prog w A i2 fp2 n2 P2 St2)
    (hz : ZipO s.heap z TI TO true f1 f0) (hf : OutF f0) (hTI : IsTupOf2 s.heap TI (.ref i1) (.ref i2)) (hTO : IsTupOf2 s.heap TO a1 a2) (st1 : St1 i s.heap) (st2 : St2 i s.heap) (hlt1 : i < n1) (hlt2 : i < n2)
    (hQ : ∀ x1 x2 h' tk g1 g0 b1 b2, P1 i x1 → P2 i x2 → ZipO h' z TI TO true g1 g0 → OutF g0 → IsTupOf2 h' TO b1 b2 → St1 (i + 1) h' → St2 (i + 1) h' → IsTupOf2 h' s.heap.objs.size x1 x2 → h'.objs.size = s.heap.objs.size + 1 →
      (∀ c o, c ≠ z → c ≠ TO → c ≠ i1 → c ≠ i2 → s.heap.get? c = some o → h'.get? c = some o) → Q (.ref s.heap.objs.size) { s with heap := h', toks := tk }) :
    wpAny (model prog w) A (Builtin.«zip.__next__» ⟨[.ref z], []⟩) (fun fin s' => ∃ v, fin = .done (.ret v) ∧ Q v s') E s := by
  obtain ⟨hp, g, d, tk0, os⟩ := s
  show wpAny _ _ (field (.ref z) 2 >>= _) _ _ _
  refine wpAny_bind (wpAny_field hz rfl (x := .bool true) rfl ?_)
  show wpAny _ _ (field (.ref z) 3 >>= _) _ _ _
  refine wpAny_bind (wpAny_field hz rfl (x := .ref TI) rfl ?_)
  refine wpAny_bind (wpAny_seqItems hTI rfl ?_)
  show wpAny _ _ (Builtin.SmallTypes.ownedTupleIsFree (.ref z) >>= _) _ _ _
  refine wpAny_bind (zip_free hz hf ?free fun g0 hz0 hs0 => ?out)
  case free =>
    simp only [if_true]
    refine wpAny_bind (wpAny_rule ?_)
    refine wpAny_bind (wpAny_field hz rfl (x := .ref TO) rfl ?_)
    refine wpAny_bind (wpAny_setField_rec hz (by simp) fun g0 hz0 hs0 => ?_)
    replace hz0 : ZipO g0 z TI TO true f1 .ellipsis := hz0
    replace hs0 : Heap.SameBut z hp g0 := hs0
    refine wpAny_bind ?_
    simp only [List.zipIdx_cons, List.zipIdx_nil, List.forIn_cons, List.forIn_nil]
    refine wpAny_bind (wpAny_bind (wpAny_onRaise ?_))
    show wpAny _ _ (Builtin.SmallTypes.nextOrEnd (.ref i1)) _ _ ⟨g0, g, d, tk0, os⟩
    refine (draw_strict D1 hlt1 (D1.over st1 hs0 S.zf1) fun x1 p1 tk1 hx1 sn1 hp1 => ?_)
    replace hp1 : Heap.SameBut i1 g0 p1 := hp1
    have hU1 : IsTupOf2 p1 TO a1 a2 := hp1.extBut _ _ S.Ti1 (hs0.extBut _ _ S.TOz hTO)
    refine wpAny_bind (wpAny_seqItems (s := ⟨p1, g, d, tk1, os⟩) hU1 rfl ?_)
    refine wpAny_bind (updateSeq_IsTupOf2 (s := ⟨p1, g, d, tk1, os⟩) hU1 fun g1 hT1 hs1 => ?_)
    replace hT1 : IsTupOf2 g1 TO x1 a2 := hT1
    replace hs1 : Heap.SameBut TO p1 g1 := hs1
    refine wpAny_bind (wpAny_letGo (wpAny_pure ?_))
    refine wpAny_bind (wpAny_bind (wpAny_onRaise ?_))
    show wpAny _ _ (Builtin.SmallTypes.nextOrEnd (.ref i2)) _ _ ⟨g1, g, d, tk1, os⟩
    refine (draw_strict D2 hlt2 (D2.over (D2.over (D2.over st2 hs0 S.zf2) hp1 S.sep1_2) hs1 S.Tf2) fun x2 p2 tk2 hx2 sn2 hp2 => ?_)
    replace hp2 : Heap.SameBut i2 g1 p2 := hp2
    have hU2 : IsTupOf2 p2 TO x1 a2 := hp2.extBut _ _ S.Ti2 hT1
    refine wpAny_bind (wpAny_seqItems (s := ⟨p2, g, d, tk2, os⟩) hU2 rfl ?_)
    refine wpAny_bind (updateSeq_IsTupOf2 (s := ⟨p2, g, d, tk2, os⟩) hU2 fun g2 hT2 hs2 => ?_)
    replace hT2 : IsTupOf2 g2 TO x1 x2 := hT2
    replace hs2 : Heap.SameBut TO p2 g2 := hs2
    refine wpAny_bind (wpAny_letGo (wpAny_pure (wpAny_pure ?_)))
    refine wpAny_bind (wpAny_seqItems (s := ⟨g2, g, d, tk2, os⟩) hT2 rfl ?_)
    refine wpAny_bind (wpAny_newTuple ?_)
    have hsz : g2.objs.size = hp.objs.size := by rw [hs2.1, hp2.1, hs1.1, hp1.1, hs0.1]
    have hzz : ZipO g2 z TI TO true f1 .ellipsis := (hs2.extBut _ _ S.TOz.symm (hp2.extBut _ _ S.zi2 (hs1.extBut _ _ S.TOz.symm (hp1.extBut _ _ S.zi1 hz0))))
    have hkk : ∀ c o, c ≠ z → c ≠ TO → c ≠ i1 → c ≠ i2 → hp.get? c = some o → g2.get? c = some o := fun c o cz cT c1 c2 e =>
      (hs2.extBut _ _ cT (hp2.extBut _ _ c2 (hs1.extBut _ _ cT (hp1.extBut _ _ c1 (hs0.extBut _ _ cz e)))))
    have hj1 : St1 (i + 1) g2 := (D1.over (D1.over (D1.over sn1 hs1 S.Tf1) hp2 S.sep2_1) hs2 S.Tf1)
    have hj2 : St2 (i + 1) g2 := (D2.over sn2 hs2 S.Tf2)
    have hzlt : z < g2.objs.size := Heap.lt_size hzz
    show wpAny _ _ (Builtin.SmallTypes.ownedTupleHandOut (.ref z) (.ref g2.objs.size) >>= _) _ _ ⟨g2.push { cls := .type "tuple", data := .seq #[x1, x2] }, g, d, tk2, os⟩
    refine wpAny_bind ?_
    unfold Builtin.SmallTypes.ownedTupleHandOut
    have hz₆ : ZipO (g2.push { cls := .type "tuple", data := .seq #[x1, x2] }) z TI TO true f1 .ellipsis := Heap.get?_push_of_some _ hzz
    refine wpAny_bind (wpAny_setField_rec hz₆ (by simp) fun h₇ hz₇ hs₇ => ?_)
    replace hz₇ : ZipO h₇ z TI TO true f1 (rawInt g2.objs.size) := hz₇
    refine wpAny_setField_rec hz₇ (by simp) fun h₈ hz₈ hs₈ => ?_
    replace hz₈ : ZipO h₈ z TI TO true false (rawInt g2.objs.size) := hz₈
    replace hs₇ : Heap.SameBut z (g2.push { cls := .type "tuple", data := .seq #[x1, x2] }) h₇ := hs₇
    replace hs₈ : Heap.SameBut z h₇ h₈ := hs₈
    have up : ∀ c o, c ≠ z → g2.get? c = some o → h₈.get? c = some o := fun c o c1 e => hs₈.extBut _ _ c1 (hs₇.extBut _ _ c1 (Heap.get?_push_of_some _ e))
    have hT₈ : IsTupOf2 h₈ g2.objs.size x1 x2 := hs₈.extBut _ _ (Nat.ne_of_gt hzlt) (hs₇.extBut _ _ (Nat.ne_of_gt hzlt) (Heap.get?_push_size _ rfl))
    have hz8 : h₈.objs.size = g2.objs.size + 1 := by rw [hs₈.1, hs₇.1, Heap.size_push]
    rw [hsz] at hz₈ hT₈ hz8
    refine wpAny_pure ⟨_, rfl, ?_⟩
    show Q (.ref g2.objs.size) ⟨h₈, g, d, tk2, os⟩
    rw [hsz]
    exact hQ x1 x2 h₈ tk2 _ _ _ _ hx1 hx2 hz₈ (.inr ⟨_, rfl⟩) (up _ _ S.TOz hT2) (D1.frame _ _ _ hj1 fun b hb o e => up b o (fun q => S.zf1 (q ▸ hb)) e) (D2.frame _ _ _ hj2 fun b hb o e => up b o (fun q => S.zf2 (q ▸ hb)) e) hT₈ hz8 fun c o cz cT c1 c2 e => up c o cz (hkk c o cz cT c1 c2 e)
  case out =>
    replace hs0 : Heap.SameBut z hp g0 := hs0
    simp only [Bool.false_eq_true, if_false]
    refine wpAny_bind ?_
    simp only [← Array.forIn_toList, List.forIn_cons, List.forIn_nil]
    refine wpAny_bind (wpAny_bind (wpAny_holding ?_))
    show wpAny _ _ (Builtin.SmallTypes.nextOrEnd (.ref i1)) _ _ ⟨g0, g, d, tk0, os⟩
    refine (draw_strict D1 hlt1 (D1.over st1 hs0 S.zf1) fun x1 p1 tk1 hx1 sn1 hp1 => ?_)
    replace hp1 : Heap.SameBut i1 g0 p1 := hp1
    refine wpAny_pure ?_
    refine wpAny_bind (wpAny_bind (wpAny_holding ?_))
    show wpAny _ _ (Builtin.SmallTypes.nextOrEnd (.ref i2)) _ _ ⟨p1, g, d, tk1, os⟩
    refine (draw_strict D2 hlt2 (D2.over (D2.over st2 hs0 S.zf2) hp1 S.sep1_2) fun x2 p2 tk2 hx2 sn2 hp2 => ?_)
    replace hp2 : Heap.SameBut i2 p1 p2 := hp2
    refine wpAny_pure (wpAny_pure ?_)
    show wpAny _ _ (newTuple [x1, x2] >>= _) _ _ ⟨p2, g, d, tk2, os⟩
    refine wpAny_bind (wpAny_newTuple ?_)
    have hsz : p2.objs.size = hp.objs.size := by rw [hp2.1, hp1.1, hs0.1]
    have hzz : ZipO p2 z TI TO true true f0 := hp2.extBut _ _ S.zi2 (hp1.extBut _ _ S.zi1 hz0)
    have hTO' : IsTupOf2 p2 TO a1 a2 := hp2.extBut _ _ S.Ti2 (hp1.extBut _ _ S.Ti1 (hs0.extBut _ _ S.TOz hTO))
    have hkk : ∀ c o, c ≠ z → c ≠ TO → c ≠ i1 → c ≠ i2 → hp.get? c = some o → p2.get? c = some o := fun c o cz cT c1 c2 e =>
      hp2.extBut _ _ c2 (hp1.extBut _ _ c1 (hs0.extBut _ _ cz e))
    have hj1 : St1 (i + 1) p2 := D1.over sn1 hp2 S.sep2_1
    refine wpAny_pure ⟨_, rfl, ?_⟩
    show Q (.ref p2.objs.size) ⟨p2.push { cls := .type "tuple", data := .seq #[x1, x2] }, g, d, tk2, os⟩
    have nw : IsTupOf2 (p2.push { cls := .type "tuple", data := .seq #[x1, x2] }) p2.objs.size x1 x2 := Heap.get?_push_size _ rfl
    rw [hsz] at nw ⊢
    exact hQ x1 x2 _ tk2 _ _ _ _ hx1 hx2 (Heap.get?_push_of_some _ hzz) hf (Heap.get?_push_of_some _ hTO') (D1.frame _ _ _ hj1 fun b hb o e => Heap.get?_push_of_some _ e) (D2.frame _ _ _ sn2 fun b hb o e => Heap.get?_push_of_some _ e) nw (by rw [Heap.size_push, hsz]) fun c o cz cT c1 c2 e => Heap.get?_push_of_some _ (hkk c o cz cT c1 c2 e)
end
end Pf
end
section
set_option Elab.async false
set_option linter.all false
set_option maxRecDepth 100000
set_option maxHeartbeats 1000000
namespace Pf
open PySem PySem.Spec PyProof.Rows L2
section
variable {prog : Program} {w : World} {A : Around} {E : Value → Shared → Prop} {s : Shared} {z TI TO i1 i2 : Addr} {fp1 fp2 : List Addr} {n1 n2 i : Nat} {P1 P2 : Nat → Value → Prop} {St1 St2 : Nat → Heap → Prop} {a1 a2 : Value}
def EndAt (prog : Program) (w : World) (A : Around) (it : Addr) (St : Nat → Heap → Prop) (i : Nat) : Prop := ∀ (s : Shared) (Q : Value → Shared → Prop) (E : Value → Shared → Prop), St i s.heap →
  (∀ h' e, Heap.ExtBut it s.heap h' → (∃ o, h'.get? e = some o ∧ o.cls = .type "StopIteration") → E (.ref e) { s with heap := h' }) → wpAny (model prog w) A (Builtin.SmallTypes.nextOf (.ref it)) Q E s
theorem end_strict {it : Addr} {St : Nat → Heap → Prop} (D : EndAt prog w A it St i) {Q : Option Value → Shared → Prop} (hst : St i s.heap)
    (hQ : ∀ h', Heap.ExtBut it s.heap h' → Q none { s with heap := h' }) : wpAny (model prog w) A (Builtin.SmallTypes.nextOrEnd (.ref it)) Q E s := by
  unfold Builtin.SmallTypes.nextOrEnd
  refine wpAny_bind (wpAny_attempt (D _ _ _ hst fun h' e he hx => ?_))
  obtain ⟨o, ho, hc⟩ := hx
  refine wpAny_bind (wpAny_isInstance (T := "StopIteration") (b := true) ⟨o, ho, hc⟩ isSubtype_stop ?_)
  exact wpAny_pure (hQ h' he)
theorem zipN_end_false {f1 : Bool} {f0 : Value} {Q : PySem.Fin → Shared → Prop} (S : ZipSep2 z TI TO i1 i2 fp1 fp2) (D1 : Draws prog w A i1 fp1 n1 P1 St1) (D2 : Draws prog w A i2 fp2 n2 P2 St2)
    (hz : ZipO s.heap z TI TO false f1 f0) (hf : OutF f0) (hTI : IsTupOf2 s.heap TI (.ref i1) (.ref i2)) (hTO : IsTupOf2 s.heap TO a1 a2) (st1 : St1 i s.heap) (st2 : St2 i s.heap) (hend : EndAt prog w A i1 St1 i ∨ (i < n1 ∧ EndAt prog w A i2 St2 i))
    (hE : ∀ h' tk e, (∀ c o, c ≠ z → c ≠ TO → c ≠ i1 → c ≠ i2 → s.heap.get? c = some o → h'.get? c = some o) → (∃ o, h'.get? e = some o ∧ o.cls = .type "StopIteration") → E (.ref e) { s with heap := h', toks := tk }) :
    wpAny (model prog w) A (Builtin.«zip.__next__» ⟨[.ref z], []⟩) Q E s := by
  obtain ⟨hp, g, d, tk0, os⟩ := s
  show wpAny _ _ (field (.ref z) 2 >>= _) _ _ _
  refine wpAny_bind (wpAny_field hz rfl (x := .bool false) rfl ?_)
  show wpAny _ _ (field (.ref z) 3 >>= _) _ _ _
  refine wpAny_bind (wpAny_field hz rfl (x := .ref TI) rfl ?_)
  refine wpAny_bind (wpAny_seqItems hTI rfl ?_)
  show wpAny _ _ (Builtin.SmallTypes.ownedTupleIsFree (.ref z) >>= _) _ _ _
  refine wpAny_bind (zip_free hz hf ?free fun g0 hz0 hs0 => ?out)
  case free =>
    simp only [if_true]
    refine wpAny_bind (wpAny_rule ?_)
    refine wpAny_bind (wpAny_field hz rfl (x := .ref TO) rfl ?_)
    refine wpAny_bind (wpAny_setField_rec hz (by simp) fun g0 hz0 hs0 => ?_)
    replace hz0 : ZipO g0 z TI TO false f1 .ellipsis := hz0
    replace hs0 : Heap.SameBut z hp g0 := hs0
    refine wpAny_bind ?_
    simp only [List.zipIdx_cons, List.zipIdx_nil, List.forIn_cons, List.forIn_nil]
    refine wpAny_bind (wpAny_bind (wpAny_onRaise ?_))
    show wpAny _ _ (Builtin.SmallTypes.nextOf (.ref i1) >>= _) _ _ ⟨g0, g, d, tk0, os⟩
    rcases hend with hend | ⟨hlt1, hend⟩
    rotate_left
    · refine wpAny_bind (D1.item i _ _ _ hlt1 (D1.over st1 hs0 S.zf1) fun x1 p1 tk1 hx1 sn1 hp1 => wpAny_pure ?_)
      replace hp1 : Heap.SameBut i1 g0 p1 := hp1
      have hU1 : IsTupOf2 p1 TO a1 a2 := hp1.extBut _ _ S.Ti1 (hs0.extBut _ _ S.TOz hTO)
      refine wpAny_bind (wpAny_seqItems (s := ⟨p1, g, d, tk1, os⟩) hU1 rfl ?_)
      refine wpAny_bind (updateSeq_IsTupOf2 (s := ⟨p1, g, d, tk1, os⟩) hU1 fun g1 hT1 hs1 => ?_)
      replace hT1 : IsTupOf2 g1 TO x1 a2 := hT1
      replace hs1 : Heap.SameBut TO p1 g1 := hs1
      refine wpAny_bind (wpAny_letGo (wpAny_pure ?_))
      refine wpAny_bind (wpAny_bind (wpAny_onRaise ?_))
      show wpAny _ _ (Builtin.SmallTypes.nextOf (.ref i2) >>= _) _ _ ⟨g1, g, d, tk1, os⟩
      refine wpAny_bind (hend ⟨g1, g, d, tk1, os⟩ _ _ (D2.over (D2.over (D2.over st2 hs0 S.zf2) hp1 S.sep1_2) hs1 S.Tf2) fun q e hq he => ?_)
      replace hq : Heap.ExtBut i2 g1 q := hq
      obtain ⟨oe, hoe, hce⟩ := he
      replace hoe : q.get? e = some oe := hoe
      have hzq : ZipO q z TI TO false f1 .ellipsis := hq _ _ S.zi2 (hs1.extBut _ _ S.TOz.symm (hp1.extBut _ _ S.zi1 hz0))
      have hez : e ≠ z := fun x => by subst x; rw [hzq] at hoe; cases hoe; simp at hce
      refine wpAny_setField_rec (s := ⟨q, g, d, tk1, os⟩) hzq (by simp) fun q' _ hq' => ?_
      replace hq' : Heap.SameBut z q q' := hq'
      exact hE q' tk1 e (fun c o cz cT c1 c2 x => hq'.extBut _ _ cz (hq _ _ c2 (hs1.extBut _ _ cT (hp1.extBut _ _ c1 (hs0.extBut _ _ cz x))))) ⟨oe, hq'.extBut _ _ hez hoe, hce⟩
    · refine wpAny_bind (hend ⟨g0, g, d, tk0, os⟩ _ _ (D1.over st1 hs0 S.zf1) fun q e hq he => ?_)
      replace hq : Heap.ExtBut i1 g0 q := hq
      obtain ⟨oe, hoe, hce⟩ := he
      replace hoe : q.get? e = some oe := hoe
      have hzq : ZipO q z TI TO false f1 .ellipsis := hq _ _ S.zi1 hz0
      have hez : e ≠ z := fun x => by subst x; rw [hzq] at hoe; cases hoe; simp at hce
      refine wpAny_setField_rec (s := ⟨q, g, d, tk0, os⟩) hzq (by simp) fun q' _ hq' => ?_
      replace hq' : Heap.SameBut z q q' := hq'
      exact hE q' tk0 e (fun c o cz cT c1 c2 x => hq'.extBut _ _ cz (hq _ _ c1 (hs0.extBut _ _ cz x))) ⟨oe, hq'.extBut _ _ hez hoe, hce⟩
  case out =>
    replace hs0 : Heap.SameBut z hp g0 := hs0
    simp only [Bool.false_eq_true, if_false]
    refine wpAny_bind ?_
    simp only [← Array.forIn_toList, List.forIn_cons, List.forIn_nil]
    refine wpAny_bind (wpAny_bind (wpAny_holding ?_))
    show wpAny _ _ (Builtin.SmallTypes.nextOf (.ref i1) >>= _) _ _ ⟨g0, g, d, tk0, os⟩
    rcases hend with hend | ⟨hlt1, hend⟩
    rotate_left
    · refine wpAny_bind (D1.item i _ _ _ hlt1 (D1.over st1 hs0 S.zf1) fun x1 p1 tk1 hx1 sn1 hp1 => wpAny_pure ?_)
      replace hp1 : Heap.SameBut i1 g0 p1 := hp1
      refine wpAny_pure ?_
      refine wpAny_bind (wpAny_bind (wpAny_holding ?_))
      show wpAny _ _ (Builtin.SmallTypes.nextOf (.ref i2) >>= _) _ _ ⟨p1, g, d, tk1, os⟩
      refine wpAny_bind (hend ⟨p1, g, d, tk1, os⟩ _ _ (D2.over (D2.over st2 hs0 S.zf2) hp1 S.sep1_2) fun q e hq he => ?_)
      replace hq : Heap.ExtBut i2 p1 q := hq
      exact hE q tk1 e (fun c o cz cT c1 c2 x => (hq _ _ c2 (hp1.extBut _ _ c1 (hs0.extBut _ _ cz x)))) he
    · refine wpAny_bind (hend ⟨g0, g, d, tk0, os⟩ _ _ (D1.over st1 hs0 S.zf1) fun q e hq he => ?_)
      replace hq : Heap.ExtBut i1 g0 q := hq
      exact hE q tk0 e (fun c o cz cT c1 c2 x => (hq _ _ c1 (hs0.extBut _ _ cz x))) he
theorem zipN_end_true {f1 : Bool} {f0 : Value} {Q : PySem.Fin → Shared → Prop} (hh : A.handled = none) (S : ZipSep2 z TI TO i1 i2 fp1 fp2) (D1 : Draws prog w A i1 fp1 n1 P1 St1) (D2 : Draws prog w A i2 fp2 n2 P2 St2) (e1 : EndAt prog w A i1 St1 i) (e2 : EndAt prog w A i2 St2 i)
    (hz : ZipO s.heap z TI TO true f1 f0) (hf : OutF f0) (hTI : IsTupOf2 s.heap TI (.ref i1) (.ref i2)) (hTO : IsTupOf2 s.heap TO a1 a2) (st1 : St1 i s.heap) (st2 : St2 i s.heap)
    (hE : ∀ h' tk e, (∀ c o, c ≠ z → c ≠ TO → c ≠ i1 → c ≠ i2 → s.heap.get? c = some o → h'.get? c = some o) → (∃ o, h'.get? e = some o ∧ o.cls = .type "StopIteration") → E (.ref e) { s with heap := h', toks := tk }) :
    wpAny (model prog w) A (Builtin.«zip.__next__» ⟨[.ref z], []⟩) Q E s := by
  obtain ⟨hp, g, d, tk0, os⟩ := s
  show wpAny _ _ (field (.ref z) 2 >>= _) _ _ _
  refine wpAny_bind (wpAny_field hz rfl (x := .bool true) rfl ?_)
  show wpAny _ _ (field (.ref z) 3 >>= _) _ _ _
  refine wpAny_bind (wpAny_field hz rfl (x := .ref TI) rfl ?_)
  refine wpAny_bind (wpAny_seqItems hTI rfl ?_)
  show wpAny _ _ (Builtin.SmallTypes.ownedTupleIsFree (.ref z) >>= _) _ _ _
  have tail : ∀ (q q2 : Heap) (hs : ∀ c o, c ≠ z → c ≠ TO → c ≠ i1 → c ≠ i2 → hp.get? c = some o → q2.get? c = some o), St2 i q2 →
      ∀ {α : Type} (R : α → Shared → Prop), wpAny (model prog w) A (do
        for x in ([Value.ref i1, Value.ref i2].drop 1).zipIdx 1 do
          if (← Builtin.SmallTypes.nextOrEnd x.1).isSome then
            let _ ← rule "zip.__next__.longer"
            raiseError "ValueError" s!"zip() argument {x.2 + 1} is longer than {(if x.2 == 1 then "argument 1" else s!"arguments 1-{x.2}" : String)}"
        let _ ← rule "zip.__next__.all-ended"
        (Builtin.SmallTypes.stopIteration : Sem α)) R E ⟨q2, g, d, tk0, os⟩ := by
    intro q q2 hs s2 α R
    refine wpAny_bind ?_
    simp only [List.drop_succ_cons, List.drop_zero, List.zipIdx_cons, List.zipIdx_nil, List.forIn_cons, List.forIn_nil]
    refine wpAny_bind (wpAny_bind (end_strict (s := ⟨q2, g, d, tk0, os⟩) e2 s2 fun q3 hq3 => ?_))
    simp only [Option.isSome_none, Bool.false_eq_true, if_false]
    replace hq3 : Heap.ExtBut i2 q2 q3 := hq3
    refine wpAny_pure (wpAny_pure (wpAny_bind (wpAny_rule (raise_stop hh fun h' e hk he => hE h' tk0 e (fun c o cz cT c1 c2 x => hk c o (hq3 _ _ c2 (hs c o cz cT c1 c2 x))) he))))
  refine wpAny_bind (zip_free hz hf ?free fun g0 hz0 hs0 => ?out)
  case free =>
    simp only [if_true]
    refine wpAny_bind (wpAny_rule ?_)
    refine wpAny_bind (wpAny_field hz rfl (x := .ref TO) rfl ?_)
    refine wpAny_bind (wpAny_setField_rec hz (by simp) fun g0 hz0 hs0 => ?_)
    replace hz0 : ZipO g0 z TI TO true f1 .ellipsis := hz0
    replace hs0 : Heap.SameBut z hp g0 := hs0
    refine wpAny_bind ?_
    simp only [List.zipIdx_cons, List.zipIdx_nil, List.forIn_cons, List.forIn_nil]
    refine wpAny_bind (wpAny_bind (wpAny_onRaise ?_))
    show wpAny _ _ (Builtin.SmallTypes.nextOrEnd (.ref i1)) _ _ ⟨g0, g, d, tk0, os⟩
    refine end_strict (s := ⟨g0, g, d, tk0, os⟩) e1 (D1.over st1 hs0 S.zf1) fun q hq => ?_
    replace hq : Heap.ExtBut i1 g0 q := hq
    have hzq : ZipO q z TI TO true f1 .ellipsis := hq _ _ S.zi1 hz0
    refine wpAny_bind (wpAny_setField_rec (s := ⟨q, g, d, tk0, os⟩) hzq (by simp) fun q' _ hq' => ?_)
    replace hq' : Heap.SameBut z q q' := hq'
    refine wpAny_bind (tail q q' (fun c o cz cT c1 c2 x => hq'.extBut _ _ cz (hq _ _ c1 (hs0.extBut _ _ cz x))) (D2.frame _ _ _ (D2.over st2 hs0 S.zf2) fun b hb o e => hq'.extBut _ _ (fun q => S.zf2 (q ▸ hb)) (hq _ _ (fun q => S.sep1_2 (q ▸ hb)) e)) _)
  case out =>
    replace hs0 : Heap.SameBut z hp g0 := hs0
    simp only [Bool.false_eq_true, if_false]
    refine wpAny_bind ?_
    simp only [← Array.forIn_toList, List.forIn_cons, List.forIn_nil]
    refine wpAny_bind (wpAny_bind (wpAny_holding ?_))
    show wpAny _ _ (Builtin.SmallTypes.nextOrEnd (.ref i1)) _ _ ⟨g0, g, d, tk0, os⟩
    refine end_strict (s := ⟨g0, g, d, tk0, os⟩) e1 (D1.over st1 hs0 S.zf1) fun q hq => ?_
    replace hq : Heap.ExtBut i1 g0 q := hq
    refine wpAny_bind (tail q q (fun c o cz cT c1 c2 x => (hq _ _ c1 (hs0.extBut _ _ cz x))) (D2.frame _ _ _ (D2.over st2 hs0 S.zf2) fun b hb o e => (hq _ _ (fun q => S.sep1_2 (q ▸ hb)) e)) _)
end
end Pf
end
section
set_option Elab.async false
set_option linter.all false
set_option maxRecDepth 100000
set_option maxHeartbeats 1000000
namespace Pf
open PySem PySem.Spec PyProof.Rows L2
structure Kd where
  sq : W.Frag → Hp → Addr → List V → Prop
  isIt : Heap → Addr → Addr → Nat → Prop
  isOb : Heap → Addr → Array Value → Prop
  get : ∀ {X : Cx} {pins : List (Addr × Obj)} {σ : L2.St} {H : Hp} {s : Shared} {a : Addr} {xs : List V}, L2.Inv X pins σ H s → sq X.K H a xs → ∃ its : List Value, Vals xs its ∧ isOb s.heap a its.toArray
  lim : ∀ {X : Cx} {pins : List (Addr × Obj)} {σ : L2.St} {H : Hp} {s : Shared} {a : Addr} {xs : List V}, L2.Inv X pins σ H s → sq X.K H a xs → xs.length ≤ sizeLine
  inj : ∀ {X : Cx} {pins : List (Addr × Obj)} {σ : L2.St} {H : Hp} {s : Shared} {a : Addr} {xs ys : List V}, L2.Inv X pins σ H s → sq X.K H a xs → sq X.K H a ys → xs = ys
  dr : ∀ (prog : Program) (w : World) (A : Around) (hh : A.handled = none) (it l : Addr) (hne : l ≠ it) (items : Array Value), Draws prog w A it [it, l] items.size (fun i v => items[i]? = some v) (fun i h => isIt h it l i ∧ isOb h l items)
  ne : ∀ {h : Heap} {it l : Addr} {i : Nat} {items : Array Value}, isIt h it l i → isOb h l items → l ≠ it
  en : ∀ (prog : Program) (w : World) (A : Around) (hh : A.handled = none) (it l : Addr) (items : Array Value) (i : Nat), items.size ≤ i → EndAt prog w A it (fun i h => isIt h it l i ∧ isOb h l items) i
  bg : ∀ (l : Addr) (items : Array Value), ∃ o, Begins (.ref l) o (fun h => isOb h l items) ∧ ∀ (h : Heap) (it : Addr), h.get? it = some o → isIt h it l 0
  at' : ∀ {h h' : Heap} {it l : Addr} {i : Nat}, isIt h it l i → (∀ o, h.get? it = some o → h'.get? it = some o) → isIt h' it l i
  ob : ∀ {h : Heap} {it l : Addr} {i : Nat}, isIt h it l i → ∃ o, h.get? it = some o ∧ ∀ v, o.data ≠ .cell v
  obAt : ∀ {h h' : Heap} {l : Addr} {items : Array Value}, isOb h l items → (∀ o, h.get? l = some o → h'.get? l = some o) → isOb h' l items
  obLt : ∀ {h : Heap} {l : Addr} {items : Array Value}, isOb h l items → l < h.objs.size
def kdT : Kd where
  sq := SqT
  isIt := fun h it l i => h.IsTupleIter it l i
  isOb := fun h l items => h.IsTuple l items
  get := fun I h => by
    obtain ⟨its, r, p, _⟩ := Inv.tuple I h
    exact ⟨its, r, p⟩
  lim := fun I h => by
    obtain ⟨_, _, _, l⟩ := Inv.tuple I h
    exact l
  inj := fun I h h' => Inv.tuple_inj I h h'
  dr := fun prog w A hh it l hne items => Draws.tuple hh it l hne items
  ne := fun ⟨o, h1, h2, _⟩ ⟨o', h1', h2', _⟩ e => by
    subst e
    rw [h1] at h1'; cases h1'
    rw [h2] at h2'
    exact absurd (Value.type.inj h2') (by decide)
  en := fun prog w A hh it l items i hi s Q E st hE => wpAny_nextOf_tuple_end hh st.1 st.2 (by simp; exact hi) hE
  bg := fun l items => ⟨_, begins_tuple l items, fun h it e => ⟨_, e, rfl, rfl⟩⟩
  at' := fun h k => h.at k
  ob := fun ⟨o, h1, h2, h3⟩ => ⟨o, h1, fun v z => by rw [h3] at z; cases z⟩
  obAt := fun h k => h.at k
  obLt := fun ⟨o, h1, _⟩ => Heap.lt_size h1
def kdL : Kd where
  sq := SqL
  isIt := fun h it l i => h.IsListIter it l i
  isOb := fun h l items => h.IsList l items
  get := fun I h => by
    obtain ⟨its, r, p, _⟩ := Inv.list I h
    exact ⟨its, r, p.isList⟩
  lim := fun I h => by
    obtain ⟨_, _, _, l⟩ := Inv.list I h
    exact l
  inj := fun I h h' => Inv.list_inj I h h'
  dr := fun prog w A hh it l hne items => Draws.list hh it l hne items
  ne := fun ⟨o, h1, h2, _⟩ ⟨o', h1', h2', _⟩ e => by
    subst e
    rw [h1] at h1'; cases h1'
    rw [h2] at h2'
    exact absurd (Value.type.inj h2') (by decide)
  en := fun prog w A hh it l items i hi s Q E st hE => wpAny_nextOf_list_end hh st.1 st.2 (by simp; exact hi) hE
  bg := fun l items => ⟨_, begins_list l items, fun h it e => ⟨_, e, rfl, rfl⟩⟩
  at' := fun h k => h.at k
  ob := fun ⟨o, h1, h2, h3⟩ => ⟨o, h1, fun v z => by rw [h3] at z; cases z⟩
  obAt := fun h k => h.at k
  obLt := fun ⟨o, h1, _⟩ => Heap.lt_size h1
def Itq (k : Kd) (K : W.Frag) (a : Addr) : It :=
  ⟨fun i H => ∃ xs x, k.sq K H a xs ∧ xs[i]? = some x, fun i H x H' => H' = H ∧ ∀ xs, k.sq K H a xs → xs[i]? = some x, fun i H => ∃ xs : List V, k.sq K H a xs ∧ xs.length ≤ i⟩
def IsStop (h : Heap) (e : Addr) : Prop := ∃ o, h.get? e = some o ∧ o.cls = .type "StopIteration"
structure DrawI (P : Program) (w : World) (K : W.Frag) (J : It) (fp : List Addr) (it : Addr) (tn : Nat → Heap → Prop) : Prop where
  mem : it ∈ fp
  obj : ∀ i h, tn i h → ∀ b ∈ fp, ∃ o, h.get? b = some o ∧ ∀ v, o.data ≠ .cell v
  keep : ∀ i h h', tn i h → (∀ b ∈ fp, ∀ o, h.get? b = some o → h'.get? b = some o) → tn i h'
  item : ∀ (X : Cx), X.prog = P → X.w = w → X.K = K → ∀ (A : Around), A.handled = none → ∀ (i : Nat) (pins : List (Addr × Obj)) (s : Shared) (σ : L2.St) (H : Hp) (E Q : Value → Shared → Prop), L2.Inv X pins σ H s → (∀ b ∈ fp, FpOk X pins H b) → tn i s.heap → J.go i H →
    (∀ x u H' h' tk, L2.Inv X pins σ H' { s with heap := h', toks := tk } → RelV x u → J.yld i H x H' → tn (i + 1) h' → (∀ b, b < s.heap.objs.size → H b = none → H' b = none) → s.heap.objs.size ≤ h'.objs.size → (∀ b o, b ∉ fp → s.heap.get? b = some o → h'.get? b = some o) → Q u { s with heap := h', toks := tk }) →
    wpAny (model P w) A (Builtin.SmallTypes.nextOf (.ref it)) Q E s
  done : ∀ (X : Cx), X.prog = P → X.w = w → X.K = K → ∀ (A : Around), A.handled = none → ∀ (i : Nat) (pins : List (Addr × Obj)) (s : Shared) (σ : L2.St) (H : Hp) (E Q : Value → Shared → Prop), L2.Inv X pins σ H s → (∀ b ∈ fp, FpOk X pins H b) → tn i s.heap → J.stop i H →
    (∀ e h' tk, L2.Inv X pins σ H { s with heap := h', toks := tk } → IsStop h' e → (∀ b o, b ∉ fp → s.heap.get? b = some o → h'.get? b = some o) → E (.ref e) { s with heap := h', toks := tk }) →
    wpAny (model P w) A (Builtin.SmallTypes.nextOf (.ref it)) Q E s
theorem draw_seq {P : Program} {w : World} {K : W.Frag} (k : Kd) (a it : Addr) : DrawI P w K (Itq k K a) [it] it (fun i h => k.isIt h it a i) where
  mem := by simp
  obj := fun i h st b hb => by
    have e : b = it := by simpa using hb
    subst e
    exact k.ob st
  keep := fun i h h' st kp => k.at' st fun o e => kp it (by simp) o e
  item := by
    intro X hP hw hK A hh i pins s σ H E Q I hf st hg hQ
    subst hP hw hK
    obtain ⟨xs, x, hq, hx⟩ := hg
    obtain ⟨its, rv, p⟩ := k.get I hq
    obtain ⟨u, hu, ru⟩ := rv.get hx
    obtain ⟨f0, f1, f2, f3, f4, f5⟩ := hf it (by simp)
    have hi : i < its.toArray.size := by simpa using (List.getElem?_eq_some_iff.mp hu).1
    refine (k.dr X.prog X.w A hh it a (k.ne st p) its.toArray).item i s Q E hi ⟨st, p⟩ fun v h' tk hv st' sb => ?_
    have ev : v = u := by
      have hv : its.toArray[i]? = some v := hv
      rw [List.getElem?_toArray, hu] at hv
      exact (Option.some.inj hv).symm
    subst ev
    exact hQ x v H h' tk (Inv.turned I (t' := tk) (fun b o hb e => (sb.2 b hb).trans e) f0 f1 f3 f4 f5) ru ⟨rfl, fun ys hy => by rw [k.inj I hy hq]; exact hx⟩ st'.1 (fun b _ hb => hb)
      (Nat.le_of_eq sb.1.symm) fun b o hb e => sb.extBut b o (fun q => hb (by simp [q])) e
  done := by
    intro X hP hw hK A hh i pins s σ H E Q I hf st hg hE
    subst hP hw hK
    obtain ⟨xs, hq, hx⟩ := hg
    obtain ⟨its, rv, p⟩ := k.get I hq
    obtain ⟨f0, f1, f2, f3, f4, f5⟩ := hf it (by simp)
    have hl := rv.length
    exact k.en X.prog X.w A hh it a its.toArray i (by simp; omega) s Q E ⟨st, p⟩ fun h' e eb he => hE e h' s.toks (Inv.turned I (t' := s.toks) (fun b o hb q => eb b o hb q) f0 f1 f3 f4 f5) he fun b o hb q => eb b o (fun z => hb (by simp [z])) q
end Pf
end
section
set_option Elab.async false
set_option linter.all false
set_option maxRecDepth 100000
set_option maxHeartbeats 1000000
namespace Pf
open PySem PySem.Spec PyProof.Rows L2
def Itzq (st : Bool) (k1 k2 : Kd) (K : W.Frag) (a b : Addr) : It :=
  ⟨fun i H => ∃ (xs ys : List V) (x y : V), k1.sq K H a xs ∧ k2.sq K H b ys ∧ xs[i]? = some x ∧ ys[i]? = some y,
    fun i H v H' => ∃ T x y, v = .ref T ∧ H T = none ∧ H' = upd H T (.tup [x, y]) ∧ (∀ xs, k1.sq K H a xs → xs[i]? = some x) ∧ ∀ ys, k2.sq K H b ys → ys[i]? = some y,
    fun i H => ∃ xs ys : List V, k1.sq K H a xs ∧ k2.sq K H b ys ∧ match st with
      | true => xs.length ≤ i ∧ ys.length ≤ i
      | false => xs.length ≤ i ∨ ys.length ≤ i⟩
def zipTn (st : Bool) (k1 k2 : Kd) (a b z TI TO i1 i2 : Addr) (i : Nat) (h : Heap) : Prop := (∃ f1 f0, ZipO h z TI TO st f1 f0 ∧ OutF f0) ∧ IsTupOf2 h TI (.ref i1) (.ref i2) ∧ (∃ x y, IsTupOf2 h TO x y) ∧ k1.isIt h i1 a i ∧ k2.isIt h i2 b i
section
variable {P : Program} {w : World} {K : W.Frag} {st : Bool} {k1 k2 : Kd} {a b z TI TO i1 i2 : Addr}
theorem zipN_item {prog : Program} {w : World} {A : Around} {E : Value → Shared → Prop} {s : Shared} {fp1 fp2 : List Addr} {n1 n2 i : Nat} {P1 P2 : Nat → Value → Prop} {St1 St2 : Nat → Heap → Prop} {a1 a2 : Value}
    {f1 : Bool} {f0 : Value} {Q : Value → Shared → Prop} (S : ZipSep2 z TI TO i1 i2 fp1 fp2) (D1 : Draws prog w A i1 fp1 n1 P1 St1) (D2 : Draws prog w A i2 fp2 n2 P2 St2)
    (hz : ZipO s.heap z TI TO st f1 f0) (hf : OutF f0) (hTI : IsTupOf2 s.heap TI (.ref i1) (.ref i2)) (hTO : IsTupOf2 s.heap TO a1 a2) (st1 : St1 i s.heap) (st2 : St2 i s.heap) (hlt1 : i < n1) (hlt2 : i < n2)
    (hQ : ∀ x1 x2 h' tk g1 g0 b1 b2, P1 i x1 → P2 i x2 → ZipO h' z TI TO st g1 g0 → OutF g0 → IsTupOf2 h' TO b1 b2 → St1 (i + 1) h' → St2 (i + 1) h' → IsTupOf2 h' s.heap.objs.size x1 x2 → h'.objs.size = s.heap.objs.size + 1 →
      (∀ c o, c ≠ z → c ≠ TO → c ≠ i1 → c ≠ i2 → s.heap.get? c = some o → h'.get? c = some o) → Q (.ref s.heap.objs.size) { s with heap := h', toks := tk }) :
    wpAny (model prog w) A (Builtin.«zip.__next__» ⟨[.ref z], []⟩) (fun fin s' => ∃ v, fin = .done (.ret v) ∧ Q v s') E s := by
  cases st with
  | true => exact zipN_item_true S D1 D2 hz hf hTI hTO st1 st2 hlt1 hlt2 hQ
  | false => exact zipN_item_false S D1 D2 hz hf hTI hTO st1 st2 hlt1 hlt2 hQ
theorem zip_mem {c : Addr} : c ∈ [z, TI, TO, i1, i2] ↔ c = z ∨ c = TI ∨ c = TO ∨ c = i1 ∨ c = i2 := by simp
theorem zipI_item (S : ZipSep2 z TI TO i1 i2 [i1, a] [i2, b]) {X : Cx} (hK : X.K = K) {A : Around} (hh : A.handled = none) {i : Nat} {pins : List (Addr × Obj)} {s : Shared} {σ : L2.St} {H : Hp} {E Q : Value → Shared → Prop} (I : L2.Inv X pins σ H s)
    (hf : ∀ c ∈ [z, TI, TO, i1, i2], FpOk X pins H c) (hst : zipTn st k1 k2 a b z TI TO i1 i2 i s.heap) (hg : (Itzq st k1 k2 K a b).go i H)
    (hQ : ∀ x u H' h' tk, L2.Inv X pins σ H' { s with heap := h', toks := tk } → RelV x u → (Itzq st k1 k2 K a b).yld i H x H' → zipTn st k1 k2 a b z TI TO i1 i2 (i + 1) h' → (∀ c, c < s.heap.objs.size → H c = none → H' c = none) → s.heap.objs.size ≤ h'.objs.size →
      (∀ c o, c ∉ [z, TI, TO, i1, i2] → s.heap.get? c = some o → h'.get? c = some o) → (∃ g1, ∃ T : Nat, ∃ g0, ZipO h' z TI TO st g1 g0 ∧ OutF g0 ∧ u = .ref T) → Q u { s with heap := h', toks := tk }) :
    wpAny (model X.prog X.w) A (Builtin.«zip.__next__» ⟨[.ref z], []⟩) (fun fin s' => ∃ v, fin = .done (.ret v) ∧ Q v s') E s := by
  subst hK
  obtain ⟨⟨f1, f0, hz, hf0⟩, hTI, ⟨x0, y0, hTO⟩, h1, h2⟩ := hst
  obtain ⟨xs, ys, x, y, hqx, hqy, hx, hy⟩ := hg
  obtain ⟨its, rv, p⟩ := k1.get I hqx
  obtain ⟨its2, rv2, p2⟩ := k2.get I hqy
  obtain ⟨u, hu, ru⟩ := rv.get hx
  obtain ⟨u2, hu2, ru2⟩ := rv2.get hy
  have hi1 : i < its.toArray.size := by simpa using (List.getElem?_eq_some_iff.mp hu).1
  have hi2 : i < its2.toArray.size := by simpa using (List.getElem?_eq_some_iff.mp hu2).1
  refine zipN_item S (k1.dr X.prog X.w A hh i1 a (k1.ne h1 p) its.toArray) (k2.dr X.prog X.w A hh i2 b (k2.ne h2 p2) its2.toArray) hz hf0 hTI hTO ⟨h1, p⟩ ⟨h2, p2⟩ hi1 hi2 fun v1 v2 h' tk g1 g0 b1 b2 e1 e2 z' o' TO' h1' h2' hT hsz hk => ?_
  have ev1 : v1 = u := by
    have e1 : its.toArray[i]? = some v1 := e1
    rw [List.getElem?_toArray, hu] at e1
    exact (Option.some.inj e1).symm
  have ev2 : v2 = u2 := by
    have e2 : its2.toArray[i]? = some v2 := e2
    rw [List.getElem?_toArray, hu2] at e2
    exact (Option.some.inj e2).symm
  subst ev1
  subst ev2
  have new : ObjOk X.prog X.w (upd H s.heap.objs.size (.tup [x, y])) h' s.heap.objs.size (.tup [x, y]) :=
    ⟨by show 2 ≤ sizeLine; decide, [v1, v2], .cons ru (.cons ru2 .nil), ⟨_, hT, rfl, _, rfl⟩⟩
  have kk : ∀ c o, c ∉ [z, TI, TO, i1, i2] → s.heap.get? c = some o → h'.get? c = some o := fun c o hc e => by
    rw [zip_mem] at hc
    exact hk c o (fun q => hc (.inl q)) (fun q => hc (.inr (.inr (.inl q)))) (fun q => hc (.inr (.inr (.inr (.inl q))))) (fun q => hc (.inr (.inr (.inr (.inr q))))) e
  have I1 : L2.Inv X pins σ (upd H s.heap.objs.size (.tup [x, y])) { s with heap := h', toks := tk } := Inv.turnedNew I (t' := tk) (ch := [z, TI, TO, i1, i2]) kk hf (Nat.le_refl _) new
  refine hQ (.ref s.heap.objs.size) _ _ h' tk I1 rfl ⟨_, x, y, rfl, HOk.fresh I.hok (Nat.le_refl _), rfl, fun l hl => by rw [k1.inj I hl hqx]; exact hx, fun l hl => by rw [k2.inj I hl hqy]; exact hy⟩
    ⟨⟨_, _, z', o'⟩, hk _ _ S.TIz S.TITO S.TIi1 S.TIi2 hTI, ⟨_, _, TO'⟩, h1'.1, h2'.1⟩ (fun c hlt hn => by rw [upd_ne (Nat.ne_of_lt hlt)]; exact hn) (by rw [hsz]; exact Nat.le_succ _) kk ⟨_, _, _, z', o', rfl⟩
theorem zipI_end (S : ZipSep2 z TI TO i1 i2 [i1, a] [i2, b]) {X : Cx} (hK : X.K = K) {A : Around} (hh : A.handled = none) {i : Nat} {pins : List (Addr × Obj)} {s : Shared} {σ : L2.St} {H : Hp} {E : Value → Shared → Prop} {Q : PySem.Fin → Shared → Prop} (I : L2.Inv X pins σ H s)
    (hf : ∀ c ∈ [z, TI, TO, i1, i2], FpOk X pins H c) (hst : zipTn st k1 k2 a b z TI TO i1 i2 i s.heap) (hg : (Itzq st k1 k2 K a b).stop i H)
    (hE : ∀ e h' tk, L2.Inv X pins σ H { s with heap := h', toks := tk } → IsStop h' e → (∀ c o, c ∉ [z, TI, TO, i1, i2] → s.heap.get? c = some o → h'.get? c = some o) → E (.ref e) { s with heap := h', toks := tk }) :
    wpAny (model X.prog X.w) A (Builtin.«zip.__next__» ⟨[.ref z], []⟩) Q E s := by
  subst hK
  obtain ⟨⟨f1, f0, hz, hf0⟩, hTI, ⟨x0, y0, hTO⟩, h1, h2⟩ := hst
  obtain ⟨xs, ys, hqx, hqy, hx⟩ := hg
  obtain ⟨its, rv, p⟩ := k1.get I hqx
  obtain ⟨its2, rv2, p2⟩ := k2.get I hqy
  have l1 := rv.length
  have l2 := rv2.length
  have fin : ∀ h' tk e, (∀ c o, c ≠ z → c ≠ TO → c ≠ i1 → c ≠ i2 → s.heap.get? c = some o → h'.get? c = some o) → (∃ o, h'.get? e = some o ∧ o.cls = .type "StopIteration") → E (.ref e) { s with heap := h', toks := tk } := by
    intro h' tk e hk he
    have kk : ∀ c o, c ∉ [z, TI, TO, i1, i2] → s.heap.get? c = some o → h'.get? c = some o := fun c o hc e => by
      rw [zip_mem] at hc
      exact hk c o (fun q => hc (.inl q)) (fun q => hc (.inr (.inr (.inl q)))) (fun q => hc (.inr (.inr (.inr (.inl q))))) (fun q => hc (.inr (.inr (.inr (.inr q))))) e
    exact hE e h' tk (Inv.turnedL I (t' := tk) (ch := [z, TI, TO, i1, i2]) kk hf) he kk
  have D1 := k1.dr X.prog X.w A hh i1 a (k1.ne h1 p) its.toArray
  have D2 := k2.dr X.prog X.w A hh i2 b (k2.ne h2 p2) its2.toArray
  cases st with
  | true =>
    obtain ⟨e1, e2⟩ : xs.length ≤ i ∧ ys.length ≤ i := hx
    exact zipN_end_true hh S D1 D2 (k1.en X.prog X.w A hh i1 a its.toArray i (by simp; omega)) (k2.en X.prog X.w A hh i2 b its2.toArray i (by simp; omega)) hz hf0 hTI hTO ⟨h1, p⟩ ⟨h2, p2⟩ fin
  | false =>
    have hx : xs.length ≤ i ∨ ys.length ≤ i := hx
    refine zipN_end_false S D1 D2 hz hf0 hTI hTO ⟨h1, p⟩ ⟨h2, p2⟩ ?_ fin
    by_cases q : xs.length ≤ i
    · exact .inl (k1.en X.prog X.w A hh i1 a its.toArray i (by simp; omega))
    · exact .inr ⟨by simp; omega, k2.en X.prog X.w A hh i2 b its2.toArray i (by simp; omega)⟩
theorem zip_obj {i : Nat} {h : Heap} (hst : zipTn st k1 k2 a b z TI TO i1 i2 i h) : ∀ c ∈ [z, TI, TO, i1, i2], ∃ o, h.get? c = some o ∧ ∀ v, o.data ≠ .cell v := by
  intro c hc
  obtain ⟨⟨f1, f0, hz, _⟩, hTI, ⟨x, y, hTO⟩, h1, h2⟩ := hst
  rcases zip_mem.mp hc with q | q | q | q | q
  · rw [q]; exact ⟨_, hz, fun v q => nomatch q⟩
  · rw [q]; exact ⟨_, hTI, fun v q => nomatch q⟩
  · rw [q]; exact ⟨_, hTO, fun v q => nomatch q⟩
  · rw [q]; exact k1.ob h1
  · rw [q]; exact k2.ob h2
theorem zip_keep {i : Nat} {h h' : Heap} (hst : zipTn st k1 k2 a b z TI TO i1 i2 i h) (k : ∀ c ∈ [z, TI, TO, i1, i2], ∀ o, h.get? c = some o → h'.get? c = some o) : zipTn st k1 k2 a b z TI TO i1 i2 i h' := by
  obtain ⟨⟨f1, f0, hz, hf⟩, hTI, ⟨x, y, hTO⟩, h1, h2⟩ := hst
  exact ⟨⟨f1, f0, k z (by simp) _ hz, hf⟩, k TI (by simp) _ hTI, ⟨x, y, k TO (by simp) _ hTO⟩, k1.at' h1 fun o q => k i1 (by simp) o q, k2.at' h2 fun o q => k i2 (by simp) o q⟩
theorem draw_zip (S : ZipSep2 z TI TO i1 i2 [i1, a] [i2, b]) : DrawI P w K (Itzq st k1 k2 K a b) [z, TI, TO, i1, i2] z (zipTn st k1 k2 a b z TI TO i1 i2) where
  mem := by simp
  obj := fun i h hst => zip_obj hst
  keep := fun i h h' hst k => zip_keep hst k
  item := by
    intro X hP hw hK A hh i pins s σ H E Q I hf hst hg hQ
    subst hP hw
    have hT : s.TypeIs (.ref z) "zip" := let ⟨⟨_, _, hz, _⟩, _⟩ := hst; ⟨_, hz, rfl⟩
    unfold Builtin.SmallTypes.nextOf
    refine wpAny_bind (wpAny_callSpecial?_slot (name := Str.ofString "__next__") hT F.slot_zip_next (wpAny_call_entry F.slot_zip_next hT F.entry_zip_next
      (zipI_item (A := A.in1) S hK hh I hf hst hg fun x u H' h' tk a1 a2 a3 a4 a5 a6 a7 _ => ?_) (F.args_zip_next_1 _)))
    exact wpAny_pure (hQ x u H' h' tk a1 a2 a3 a4 a5 a6 a7)
  done := by
    intro X hP hw hK A hh i pins s σ H E Q I hf hst hg hE
    subst hP hw
    have hT : s.TypeIs (.ref z) "zip" := let ⟨⟨_, _, hz, _⟩, _⟩ := hst; ⟨_, hz, rfl⟩
    unfold Builtin.SmallTypes.nextOf
    exact wpAny_bind (wpAny_callSpecial?_slot (name := Str.ofString "__next__") hT F.slot_zip_next (wpAny_call_entry F.slot_zip_next hT F.entry_zip_next
      (zipI_end (A := A.in1) S hK hh I hf hst hg hE) (F.args_zip_next_1 _)))
end
end Pf
end
section
set_option Elab.async false
set_option linter.all false
set_option maxRecDepth 100000
set_option maxHeartbeats 1000000
namespace Pf
open PySem PySem.Spec PyProof.Rows L2
section
variable {prog : Program} {w : World} {A : Around} {E : Value → Shared → Prop} {s : Shared}
theorem letOwned {tg : PySem.Expr} {it : Addr} {u : Value} {c : String} {f0 : Value} {vs : List Value} {Q : Unit → Shared → Prop} (ho : s.heap.get? it = some { cls := .type c, dict := none, data := .fields (f0 :: vs).toArray, slots := #[] }) (h0 : Q () s)
    (h1 : ∀ h', h'.get? it = some { cls := .type c, dict := none, data := .fields (Value.none :: vs).toArray, slots := #[] } → Heap.SameBut it s.heap h' → Q () { s with heap := h' }) : wpAny (model prog w) A (letOwnedTupleGo tg (.ref it) u) Q E s := by
  have key : ∀ a : Addr, wpAny (model prog w) A (load it >>= fun o => match o.cls, o.data with
    | .type n, .fields vs =>
      if (["enumerate", "zip", "dict_itemiterator", "dict_reverseitemiterator", "odict_iterator", "itertools.zip_longest", "itertools.pairwise"].contains n && vs[0]? == some (rawInt a)) = true then do
        let _ ← rule "for.unpacks-the-owned-tuple"
        updateField it 0 .none
      else pure ()
    | _, _ => pure ()) Q E s := by
    intro a
    refine wpAny_bind (wpAny_load ho ?_)
    show wpAny _ _ (if _ = true then _ else _) Q E s
    split
    · refine wpAny_bind (wpAny_rule ?_)
      show wpAny _ _ (setField (.ref it) 0 .none) Q E s
      exact wpAny_setField_rec ho (by simp) fun h' he' hs' => h1 h' he' hs'
    · exact wpAny_pure h0
  unfold letOwnedTupleGo
  cases tg <;> first
    | exact wpAny_pure h0
    | (cases u <;> first
        | exact wpAny_pure h0
        | exact key _)
abbrev EnumO (h : Heap) (e it : Addr) (c : Int) (f1 : Bool) (f0 old : Value) : Prop := h.get? e = some { cls := .type "enumerate", dict := none, data := .fields #[f0, .bool f1, .ref it, rawInt c, .none, old], slots := #[] }
theorem enum_free {e it : Addr} {c : Int} {f1 : Bool} {f0 old : Value} {Q : Bool → Shared → Prop} (he : EnumO s.heap e it c f1 f0 old) (hf : OutF f0) (h1 : Q true s)
    (h2 : ∀ h', EnumO h' e it c true f0 old → Heap.SameBut e s.heap h' → Q false { s with heap := h' }) : wpAny (model prog w) A (Builtin.SmallTypes.ownedTupleIsFree (.ref e)) Q E s := by
  unfold Builtin.SmallTypes.ownedTupleIsFree
  refine wpAny_bind (wpAny_field he rfl (x := f0) rfl ?_)
  rcases hf with rfl | ⟨T, rfl⟩
  · exact wpAny_pure h1
  · show wpAny _ _ (loadIfAlive ((T : Int).toNat) >>= _) _ _ _
    refine wpAny_bind (wpAny_alive ?_)
    cases hT : s.heap.get? ((T : Int).toNat) with
    | none => exact wpAny_pure h1
    | some o =>
      show wpAny _ _ (field (.ref e) 1 >>= _) _ _ _
      refine wpAny_bind (wpAny_field he rfl (x := .bool f1) rfl ?_)
      cases f1 with
      | true => exact wpAny_pure (h2 s.heap he (Heap.SameBut.refl ..))
      | false =>
        show wpAny _ _ (setField (.ref e) 1 (.bool true) >>= _) _ _ _
        refine wpAny_bind (wpAny_setField_rec he (by simp) fun h' hz' hs' => wpAny_pure (h2 h' hz' hs'))
theorem enumN_item {e it : Addr} {c : Int} {f1 : Bool} {f0 old : Value} {Q : Value → Shared → Prop} {R : Value → Heap → Tok → Prop} (he : EnumO s.heap e it c f1 f0 old) (hf : OutF f0)
    (inner : ∀ (Q' : Value → Shared → Prop), (∀ x h1 tk, R x h1 tk → h1.get? e = s.heap.get? e → Q' x { s with heap := h1, toks := tk }) → wpAny (model prog w) A (Builtin.SmallTypes.nextOf (.ref it)) Q' E s)
    (hQ : ∀ x h1 tk h' g1 g0 old', R x h1 tk → EnumO h' e it (c + 1) g1 g0 old' → OutF g0 → h'.get? h1.objs.size = some { cls := .type "tuple", data := .seq #[.int c tk, x] } → h'.objs.size = h1.objs.size + 1 →
      (∀ b o, b ≠ e → h1.get? b = some o → h'.get? b = some o) → Q (.ref h1.objs.size) { s with heap := h', toks := tk + 1 }) :
    wpAny (model prog w) A (Builtin.«enumerate.__next__» ⟨[.ref e], []⟩) (fun fin s' => ∃ v, fin = .done (.ret v) ∧ Q v s') E s := by
  obtain ⟨hp, g, d, tk₀, os⟩ := s
  show wpAny _ _ (field (.ref e) 2 >>= _) _ _ _
  refine wpAny_bind (wpAny_field he rfl (x := .ref it) rfl ?_)
  refine wpAny_bind (inner _ fun x h₁ tk hR heq => ?_)
  have he₁ : EnumO h₁ e it c f1 f0 old := heq.trans he
  show wpAny _ _ (field (.ref e) 3 >>= _) _ _ ⟨h₁, g, d, tk, os⟩
  refine wpAny_bind (wpAny_field he₁ rfl (x := rawInt c) rfl ?_)
  show wpAny _ _ (field (.ref e) 4 >>= _) _ _ ⟨h₁, g, d, tk, os⟩
  refine wpAny_bind (wpAny_field he₁ rfl (x := .none) rfl ?_)
  show wpAny _ _ (mkInt c >>= _) _ _ ⟨h₁, g, d, tk, os⟩
  refine wpAny_bind (wpAny_mkInt ?_)
  show wpAny _ _ (setField (.ref e) 3 (rawInt (c + 1)) >>= _) _ _ ⟨h₁, g, d, tk + 1, os⟩
  refine wpAny_bind (wpAny_setField_rec he₁ (by simp) fun h₂ he₂ hs₂ => ?_)
  replace hs₂ : Heap.SameBut e h₁ h₂ := hs₂
  replace he₂ : EnumO h₂ e it (c + 1) f1 f0 old := he₂
  show wpAny _ _ (setField (.ref e) 4 .none >>= _) _ _ ⟨h₂, g, d, tk + 1, os⟩
  refine wpAny_bind (wpAny_setField_rec he₂ (by simp) fun h₃ he₃ hs₃ => ?_)
  replace hs₃ : Heap.SameBut e h₂ h₃ := hs₃
  replace he₃ : EnumO h₃ e it (c + 1) f1 f0 old := he₃
  show wpAny _ _ (newTuple [.int c tk, x] >>= _) _ _ ⟨h₃, g, d, tk + 1, os⟩
  refine wpAny_bind (wpAny_newTuple ?_)
  have he₄ : EnumO (h₃.push { cls := .type "tuple", data := .seq #[.int c tk, x] }) e it (c + 1) f1 f0 old := Heap.get?_push_of_some _ he₃
  generalize hh₄ : h₃.push { cls := .type "tuple", data := .seq #[.int c tk, x] } = h₄ at he₄
  have hsz : h₃.objs.size = h₁.objs.size := by rw [hs₃.1, hs₂.1]
  have hel : e < h₁.objs.size := Heap.lt_size he₁
  have ht₄ : h₄.get? h₁.objs.size = some { cls := .type "tuple", data := .seq #[.int c tk, x] } := by rw [← hh₄, ← hsz]; exact Heap.get?_push_size _ rfl
  have hz₄ : h₄.objs.size = h₁.objs.size + 1 := by rw [← hh₄, Heap.size_push, hsz]
  have hk₄ : ∀ b o, b ≠ e → h₁.get? b = some o → h₄.get? b = some o := fun b o hbe hb => by
    rw [← hh₄]; exact Heap.get?_push_of_some _ (hs₃.extBut b o hbe (hs₂.extBut b o hbe hb))
  show wpAny _ _ (Builtin.SmallTypes.ownedTupleIsFree (.ref e) >>= _) _ _ ⟨h₄, g, d, tk + 1, os⟩
  rw [hsz]
  refine wpAny_bind (enum_free (s := ⟨h₄, g, d, tk + 1, os⟩) he₄ hf ?free fun h₅ he₅ hs₅ => ?out)
  case free =>
    simp only [if_true]
    refine wpAny_bind (wpAny_rule ?_)
    refine wpAny_bind (wpAny_field he₄ rfl (x := old) rfl ?_)
    refine wpAny_bind (wpAny_setField_rec he₄ (by simp) fun h₅ he₅ hs₅ => ?_)
    replace hs₅ : Heap.SameBut e h₄ h₅ := hs₅
    replace he₅ : EnumO h₅ e it (c + 1) f1 f0 x := he₅
    show wpAny _ _ (Builtin.SmallTypes.ownedTupleHandOut (.ref e) (.ref h₁.objs.size) >>= _) _ _ ⟨h₅, g, d, tk + 1, os⟩
    refine wpAny_bind ?_
    · unfold Builtin.SmallTypes.ownedTupleHandOut
      refine wpAny_bind (wpAny_setField_rec he₅ (by simp) fun h₆ he₆ hs₆ => ?_)
      replace hs₆ : Heap.SameBut e h₅ h₆ := hs₆
      replace he₆ : EnumO h₆ e it (c + 1) f1 (rawInt h₁.objs.size) x := he₆
      refine wpAny_setField_rec he₆ (by simp) fun h₇ he₇ hs₇ => ?_
      replace hs₇ : Heap.SameBut e h₆ h₇ := hs₇
      replace he₇ : EnumO h₇ e it (c + 1) false (rawInt h₁.objs.size) x := he₇
      refine wpAny_bind (wpAny_letGo (wpAny_pure ⟨_, rfl, hQ x h₁ tk h₇ _ _ _ hR he₇ (.inr ⟨_, rfl⟩) ?_ ?_ ?_⟩))
      · exact hs₇.extBut _ _ (Nat.ne_of_gt hel) (hs₆.extBut _ _ (Nat.ne_of_gt hel) (hs₅.extBut _ _ (Nat.ne_of_gt hel) ht₄))
      · rw [hs₇.1, hs₆.1, hs₅.1, hz₄]
      · exact fun b o hbe hb => hs₇.extBut b o hbe (hs₆.extBut b o hbe (hs₅.extBut b o hbe (hk₄ b o hbe hb)))
  case out =>
    replace hs₅ : Heap.SameBut e h₄ h₅ := hs₅
    simp only [Bool.false_eq_true, if_false]
    refine wpAny_pure ⟨_, rfl, hQ x h₁ tk h₅ _ _ _ hR he₅ hf ?_ ?_ ?_⟩
    · exact hs₅.extBut _ _ (Nat.ne_of_gt hel) ht₄
    · rw [hs₅.1, hz₄]
    · exact fun b o hbe hb => hs₅.extBut b o hbe (hk₄ b o hbe hb)
end
end Pf
end
section
set_option Elab.async false
set_option linter.all false
set_option maxRecDepth 100000
set_option maxHeartbeats 1000000
namespace Pf
open PySem PySem.Spec PyProof.Rows L2
def Iten (k : Int) (J : It) : It :=
  ⟨J.go, fun i H v H' => ∃ x H1 T, J.yld i H x H1 ∧ H1 T = none ∧ v = .ref T ∧ H' = upd H1 T (.tup [.int (k + (i : Nat)), x]), J.stop⟩
def enumTn (k : Int) (e it : Addr) (fp : List Addr) (tn : Nat → Heap → Prop) (i : Nat) (h : Heap) : Prop := (∃ f1 f0 old, EnumO h e it (k + (i : Nat)) f1 f0 old ∧ OutF f0) ∧ tn i h
section
variable {P : Program} {w : World} {K : W.Frag} {J : It} {fp : List Addr} {k : Int} {e it : Addr} {tn : Nat → Heap → Prop}
theorem enumI_item (D : DrawI P w K J fp it tn) (hef : e ∉ fp) {X : Cx} (hP : X.prog = P) (hw : X.w = w) (hK : X.K = K) {A : Around} (hh : A.handled = none) {i : Nat} {pins : List (Addr × Obj)} {s : Shared} {σ : L2.St} {H : Hp} {E Q : Value → Shared → Prop} (I : L2.Inv X pins σ H s)
    (hf : ∀ c ∈ e :: fp, FpOk X pins H c) (hst : enumTn k e it fp tn i s.heap) (hg : (Iten k J).go i H)
    (hQ : ∀ x u H' h' tk, L2.Inv X pins σ H' { s with heap := h', toks := tk } → RelV x u → (Iten k J).yld i H x H' → enumTn k e it fp tn (i + 1) h' → (∀ c, c < s.heap.objs.size → H c = none → H' c = none) → s.heap.objs.size ≤ h'.objs.size →
      (∀ c o, c ∉ e :: fp → s.heap.get? c = some o → h'.get? c = some o) → Q u { s with heap := h', toks := tk }) :
    wpAny (model P w) A (Builtin.«enumerate.__next__» ⟨[.ref e], []⟩) (fun fin s' => ∃ v, fin = .done (.ret v) ∧ Q v s') E s := by
  obtain ⟨⟨f1, f0, old, he, hf0⟩, hst⟩ := hst
  have hel : e < s.heap.objs.size := Heap.lt_size he
  refine enumN_item (R := fun x h1 tk => ∃ xv H1, L2.Inv X pins σ H1 { s with heap := h1, toks := tk } ∧ RelV xv x ∧ J.yld i H xv H1 ∧ tn (i + 1) h1 ∧ (∀ c, c < s.heap.objs.size → H c = none → H1 c = none) ∧ s.heap.objs.size ≤ h1.objs.size ∧ (∀ c o, c ∉ fp → s.heap.get? c = some o → h1.get? c = some o)) he hf0
    (fun Q' hq => D.item X hP hw hK A hh i pins s σ H E Q' I (fun b hb => hf b (List.mem_cons_of_mem _ hb)) hst hg fun x u H1 h1 tk a1 a2 a3 a4 a5 a6 a7 => hq u h1 tk ⟨x, H1, a1, a2, a3, a4, a5, a6, a7⟩ ((a7 e _ hef he).trans he.symm)) ?_
  rintro x h1 tk h' g1 g0 old' ⟨xv, H1, I1, rx, hy, st1, nn, sz1, k1⟩ he' o' hT hsz hk
  have fe := hf e List.mem_cons_self
  have fe1 : FpOk X pins H1 e := ⟨nn e hel fe.1, fe.2.1, fe.2.2.1, fe.2.2.2.1, fe.2.2.2.2.1, fe.2.2.2.2.2⟩
  have new : ObjOk X.prog X.w (upd H1 h1.objs.size (.tup [.int (k + (i : Nat)), xv])) h' h1.objs.size (.tup [.int (k + (i : Nat)), xv]) :=
    ⟨by show 2 ≤ sizeLine; decide, [.int (k + (i : Nat)) tk, x], .cons ⟨_, rfl⟩ (.cons rx .nil), ⟨_, hT, rfl, _, rfl⟩⟩
  have I2 : L2.Inv X pins σ (upd H1 h1.objs.size (.tup [.int (k + (i : Nat)), xv])) { s with heap := h', toks := tk + 1 } :=
    Inv.turnedNew (s := { s with heap := h1, toks := tk }) I1 (t' := tk + 1) (ch := [e]) (fun c o hc q => hk c o (fun z => hc (by simp [z])) q) (fun c hc => by
      have : c = e := by simpa using hc
      rw [this]; exact fe1) (Nat.le_refl _) new
  refine hQ (.ref h1.objs.size) (.ref h1.objs.size) _ h' (tk + 1) I2 rfl ⟨xv, H1, _, hy, HOk.fresh I1.hok (Nat.le_refl _), rfl, rfl⟩ ⟨⟨g1, g0, old', ?_, o'⟩, ?_⟩ (fun c hlt hn => ?_) (by rw [hsz]; exact Nat.le_trans sz1 (Nat.le_succ _)) fun c o hc q => ?_
  · have e1 : k + ((i + 1 : Nat) : Int) = k + (i : Int) + 1 := by omega
    rw [e1]; exact he'
  · exact D.keep _ _ _ st1 fun b hb o q => hk b o (fun z => hef (z ▸ hb)) q
  · rw [upd_ne (Nat.ne_of_lt (Nat.lt_of_lt_of_le hlt sz1))]
    exact nn c hlt hn
  · exact hk c o (fun z => hc (by simp [z])) (k1 c o (fun z => hc (List.mem_cons_of_mem _ z)) q)
theorem enumI_end (D : DrawI P w K J fp it tn) {X : Cx} (hP : X.prog = P) (hw : X.w = w) (hK : X.K = K) {A : Around} (hh : A.handled = none) {i : Nat} {pins : List (Addr × Obj)} {s : Shared} {σ : L2.St} {H : Hp} {E : Value → Shared → Prop} {Q : PySem.Fin → Shared → Prop} (I : L2.Inv X pins σ H s)
    (hf : ∀ c ∈ e :: fp, FpOk X pins H c) (hst : enumTn k e it fp tn i s.heap) (hg : (Iten k J).stop i H)
    (hE : ∀ e' h' tk, L2.Inv X pins σ H { s with heap := h', toks := tk } → IsStop h' e' → (∀ c o, c ∉ e :: fp → s.heap.get? c = some o → h'.get? c = some o) → E (.ref e') { s with heap := h', toks := tk }) :
    wpAny (model P w) A (Builtin.«enumerate.__next__» ⟨[.ref e], []⟩) Q E s := by
  obtain ⟨⟨f1, f0, old, he, hf0⟩, hst⟩ := hst
  show wpAny _ _ (field (.ref e) 2 >>= _) _ _ _
  refine wpAny_bind (wpAny_field he rfl (x := .ref it) rfl ?_)
  refine wpAny_bind (D.done X hP hw hK A hh i pins s σ H _ _ I (fun b hb => hf b (List.mem_cons_of_mem _ hb)) hst hg fun e' h' tk I1 hs k1 => hE e' h' tk I1 hs fun c o hc q => k1 c o (fun z => hc (List.mem_cons_of_mem _ z)) q)
theorem stop_next {A : Around} {E : Value → Shared → Prop} {s : Shared} {e : Addr} {Q : Option Value → Shared → Prop} {prog : Program} (hs : IsStop s.heap e) (h : Q none s) :
    wpAny (model prog w) A (isInstance (.ref e) (.type "StopIteration") >>= fun b => if b = true then pure none else throw (.ref e)) Q E s := by
  obtain ⟨o, ho, hc⟩ := hs
  refine wpAny_bind (wpAny_isInstance (T := "StopIteration") (b := true) ⟨o, ho, hc⟩ isSubtype_stop ?_)
  exact wpAny_pure h
theorem turn_zipq {st : Bool} {k1 k2 : Kd} {tg : PySem.Expr} {a b z TI TO i1 i2 : Addr} (S : ZipSep2 z TI TO i1 i2 [i1, a] [i2, b]) : Turn P w K tg (Itzq st k1 k2 K a b) [z, TI, TO, i1, i2] z (zipTn st k1 k2 a b z TI TO i1 i2) where
  mem := by simp
  obj := fun i h hst => zip_obj hst
  keep := fun i h h' hst k => zip_keep hst k
  item := by
    intro X hP hw hK hc i pins s σ H E I hf hst hg
    subst hP hw
    have hT : s.TypeIs (.ref z) "zip" := let ⟨⟨_, _, hz, _⟩, _⟩ := hst; ⟨_, hz, rfl⟩
    unfold pyNext
    refine wpAny_bind (wpAny_attempt (wpAny_callSpecial?_slot (name := Str.ofString "__next__") hT F.slot_zip_next (wpAny_call_entry F.slot_zip_next hT F.entry_zip_next
      (zipI_item (A := X.A.in1) S hK (I.ok.hd hc) I hf hst hg fun x u H' h' tk I1 rx hy hst' nn sz kk hz' => ?_) (F.args_zip_next_1 _))))
    refine wpAny_pure ⟨u, rfl, ?_⟩
    obtain ⟨g1, T, g0, hz', o', _⟩ := hz'
    have hn : ∀ c ∈ [z, TI, TO, i1, i2], H' c = none := fun c hc => nn c (by obtain ⟨o, e, _⟩ := zip_obj hst c hc; exact Heap.lt_size e) (hf c hc).1
    refine letOwned (s := { s with heap := h', toks := tk }) hz' ⟨x, H', I1, rx, hy, hst', hn⟩ fun h2 hz2 hs2 => ?_
    replace hs2 : Heap.SameBut z h' h2 := hs2
    have f0 := hf z (by simp)
    refine ⟨x, H', Inv.turned I1 (t' := tk) (fun b o hb e => (hs2.2 b hb).trans e) (hn z (by simp)) f0.2.1 f0.2.2.2.1 f0.2.2.2.2.1 f0.2.2.2.2.2, rx, hy, ?_, hn⟩
    obtain ⟨_, hTI, ⟨x0, y0, hTO⟩, h1, h3⟩ := hst'
    exact ⟨⟨g1, .none, hz2, .inl rfl⟩, hs2.extBut _ _ S.TIz hTI, ⟨x0, y0, hs2.extBut _ _ S.TOz hTO⟩, k1.at' h1 fun o q => hs2.extBut _ _ (Ne.symm S.zi1) q, k2.at' h3 fun o q => hs2.extBut _ _ (Ne.symm S.zi2) q⟩
  done := by
    intro X hP hw hK hc i pins s σ H E I hf hst hg
    subst hP hw
    have hT : s.TypeIs (.ref z) "zip" := let ⟨⟨_, _, hz, _⟩, _⟩ := hst; ⟨_, hz, rfl⟩
    unfold pyNext
    refine wpAny_bind (wpAny_attempt (wpAny_callSpecial?_slot (name := Str.ofString "__next__") hT F.slot_zip_next (wpAny_call_entry F.slot_zip_next hT F.entry_zip_next
      (zipI_end (A := X.A.in1) S hK (I.ok.hd hc) I hf hst hg fun e h' tk I1 hs kk => ?_) (F.args_zip_next_1 _))))
    exact stop_next hs ⟨rfl, I1⟩
  self := fun A i s Q E hst h => by
    have hT : s.TypeIs (.ref z) "zip" := let ⟨⟨_, _, hz, _⟩, _⟩ := hst; ⟨_, hz, rfl⟩
    refine wpAny_pyIter_slot hT F.slot_zip_iter (wpAny_call_entry F.slot_zip_iter hT F.entry_zip_iter ?_ (F.args_zip_iter_1 _))
    show wpAny _ _ (ret (.ref z)) _ _ s
    exact wpAny_pure ⟨_, rfl, "zip", _, hT, F.slot_zip_next.lookup, h⟩
theorem turn_enumq {tg : PySem.Expr} (D : DrawI P w K J fp it tn) (hef : e ∉ fp) : Turn P w K tg (Iten k J) (e :: fp) e (enumTn k e it fp tn) where
  mem := by simp
  obj := fun i h hst b hb => by
    obtain ⟨⟨f1, f0, old, he, _⟩, hst⟩ := hst
    rcases List.mem_cons.mp hb with q | q
    · rw [q]; exact ⟨_, he, fun v z => nomatch z⟩
    · exact D.obj i h hst b q
  keep := fun i h h' hst kp => by
    obtain ⟨⟨f1, f0, old, he, o⟩, hst⟩ := hst
    exact ⟨⟨f1, f0, old, kp e (by simp) _ he, o⟩, D.keep i h h' hst fun b hb o q => kp b (List.mem_cons_of_mem _ hb) o q⟩
  item := by
    intro X hP hw hK hc i pins s σ H E I hf hst hg
    have hT : s.TypeIs (.ref e) "enumerate" := let ⟨⟨_, _, _, he, _⟩, _⟩ := hst; ⟨_, he, rfl⟩
    have obs : ∀ c ∈ e :: fp, c < s.heap.objs.size := fun c hc => by
      obtain ⟨⟨f1, f0, old, he, _⟩, hst⟩ := hst
      rcases List.mem_cons.mp hc with q | q
      · rw [q]; exact Heap.lt_size he
      · obtain ⟨o, e1, _⟩ := D.obj i _ hst c q
        exact Heap.lt_size e1
    unfold pyNext
    refine wpAny_bind (wpAny_attempt (wpAny_callSpecial?_slot (name := Str.ofString "__next__") hT F.slot_enumerate_next (wpAny_call_entry F.slot_enumerate_next hT F.entry_enumerate_next
      (enumI_item (A := X.A.in1) D hef hP hw hK (I.ok.hd hc) I hf hst hg fun x u H' h' tk I1 rx hy hst' nn sz kk => ?_) (F.args_enumerate_next_1 _))))
    refine wpAny_pure ⟨u, rfl, ?_⟩
    have hn : ∀ c ∈ e :: fp, H' c = none := fun c hc => nn c (obs c hc) (hf c hc).1
    obtain ⟨⟨g1, g0, old', he', o'⟩, st2⟩ := id hst'
    refine letOwned (s := { s with heap := h', toks := tk }) he' ⟨x, H', I1, rx, hy, hst', hn⟩ fun h2 he2 hs2 => ?_
    replace hs2 : Heap.SameBut e h' h2 := hs2
    have f0 := hf e (by simp)
    exact ⟨x, H', Inv.turned I1 (t' := tk) (fun b o hb q => (hs2.2 b hb).trans q) (hn e (by simp)) f0.2.1 f0.2.2.2.1 f0.2.2.2.2.1 f0.2.2.2.2.2, rx, hy,
      ⟨⟨g1, .none, old', he2, .inl rfl⟩, D.keep _ _ _ st2 fun b hb o q => hs2.extBut b o (fun z => hef (z ▸ hb)) q⟩, hn⟩
  done := by
    intro X hP hw hK hc i pins s σ H E I hf hst hg
    have hT : s.TypeIs (.ref e) "enumerate" := let ⟨⟨_, _, _, he, _⟩, _⟩ := hst; ⟨_, he, rfl⟩
    unfold pyNext
    refine wpAny_bind (wpAny_attempt (wpAny_callSpecial?_slot (name := Str.ofString "__next__") hT F.slot_enumerate_next (wpAny_call_entry F.slot_enumerate_next hT F.entry_enumerate_next
      (enumI_end (A := X.A.in1) D hP hw hK (I.ok.hd hc) I hf hst hg fun e' h' tk I1 hs kk => ?_) (F.args_enumerate_next_1 _))))
    exact stop_next hs ⟨rfl, I1⟩
  self := fun A i s Q E hst h => by
    have hT : s.TypeIs (.ref e) "enumerate" := let ⟨⟨_, _, _, he, _⟩, _⟩ := hst; ⟨_, he, rfl⟩
    refine wpAny_pyIter_slot hT F.slot_enumerate_iter (wpAny_call_entry F.slot_enumerate_iter hT F.entry_enumerate_iter ?_ (F.args_enumerate_iter_1 _))
    show wpAny _ _ (ret (.ref e)) _ _ s
    exact wpAny_pure ⟨_, rfl, "enumerate", _, hT, F.slot_enumerate_next.lookup, h⟩
end
end Pf
end
section
set_option Elab.async false
set_option linter.all false
set_option maxRecDepth 100000
set_option maxHeartbeats 1000000
namespace Pf
open PySem PySem.Spec PyProof.Rows L2
section
variable {S : Sta} {Wx : WP} {X : Cx} {α : Type} {prog : Prog} {o : Orc} {H : Hp} {ρ : List Addr} {M : Sto} {v : PV} {x : V} {hx : Option Exn}
def SeqW (S : Sta) (k : Kd) (src : Src) (a : Addr) (ρ0 : List Addr) (H0 : Hp) : Prop := ∀ h ρ H M, Mv S S.hid H0 ρ0 h H ρ → Abs (S.wh h) H ρ M → ∀ i r, src.at M i = some r → ∃ vs ps, k.sq S.K H a vs ∧ RepL (S.wh h) H ρ ps vs ∧ r = ps[i]?
theorem seqS_rep {src : Src} (A : Abs S H ρ M) (r : Rep S H ρ v x) (e : seqS M v = some src) : ∃ a k, x = .ref a ∧ (k = kdT ∨ k = kdL) ∧ (∃ vs, k.sq S.K H a vs) ∧ SeqW S k src a ρ H := by
  cases v with
  | tup xs =>
    cases e
    obtain ⟨a, vs, rfl, t, r⟩ := r
    exact ⟨a, kdT, rfl, .inl rfl, ⟨vs, t.sq⟩, fun h ρ' H' M' m A' i r' e => ⟨vs, xs, (t.mv (S := S) (h1 := S.hid) m).sq, RepL.mv (S := S) (h1 := S.hid) m xs r, (Option.some.inj e).symm⟩⟩
  | lst xs =>
    cases e
    obtain ⟨a, vs, rfl, t, r⟩ := r
    exact ⟨a, kdL, rfl, .inr rfl, ⟨vs, .inl (.inl t.1)⟩, fun h ρ' H' M' m A' i r' e => ⟨vs, xs, .inl (.inl (m.kp _ _ t.1 t.2).1), RepL.mv (S := S) (h1 := S.hid) m xs r, (Option.some.inj e).symm⟩⟩
  | loc n =>
    obtain ⟨a, rfl, ha⟩ := r
    have e : (match M[n]? with
      | some (.lst _) => some (Src.loc n)
      | _ => none) = some src := e
    split at e
    · rename_i xs e1
      cases e
      obtain ⟨b, w, hb, ho, vs, rfl, r⟩ := A.get e1
      rw [ha] at hb; cases hb
      refine ⟨a, kdL, rfl, .inr rfl, ⟨vs, .inl (.inl ho)⟩, fun h ρ' H' M' m A' i r' e2 => ?_⟩
      have e2 : (match M'[n]? with
        | some (.lst xs) => some xs[i]?
        | _ => none) = some r' := e2
      split at e2
      · rename_i ys e3
        obtain ⟨b, w, hb, hw, ws, rfl, r2⟩ := A'.get e3
        rw [m.pre n a ha] at hb; cases hb
        exact ⟨ws, ys, .inl (.inl hw), r2, (Option.some.inj e2).symm⟩
      · cases e2
    · cases e
  | _ => cases e
theorem repL_get {ps : List PV} {vs : List V} {i : Nat} (r : RepL S H ρ ps vs) : (∀ p, ps[i]? = some p → ∃ w, vs[i]? = some w ∧ Rep S H ρ p w) ∧ (ps[i]? = none → vs.length ≤ i) :=
  ⟨fun p h => r.get h, fun h => by rw [← r.len]; exact List.getElem?_eq_none_iff.mp h⟩
theorem abs_wh_new {h : Addr → Prop} {M : Sto} (A : Abs (S.wh h) H ρ M) {p : Addr} {u : HO} (hp : H p = none) : Abs (S.wh h) (upd H p u) ρ M := abs_new A hp
theorem walks_zipq {st : Bool} {k1 k2 : Kd} {s1 s2 : Src} {a b : Addr} (w1 : SeqW S k1 s1 a ρ H) (w2 : SeqW S k2 s2 b ρ H) : Walks S (Itzq st k1 k2 S.K a b) (.zip st s1 s2) ρ H := by
  intro h ρ' H' M' i m mf A
  have e0 : (Src.zip st s1 s2).at M' i = (match s1.at M' i, s2.at M' i with
    | some (some x), some (some y) => some (some (.tup [x, y]))
    | some none, some none => some none
    | some none, some (some _) => match st with
      | true => none
      | false => some none
    | some (some _), some none => match st with
      | true => none
      | false => some none
    | _, _ => none) := rfl
  rw [e0]
  cases q1 : s1.at M' i with
  | none => exact ⟨fun e => (by cases e), fun _ e => (by cases e)⟩
  | some r1 =>
    obtain ⟨vs, ps, sq1, rp1, e1⟩ := w1 h ρ' H' M' m A i r1 q1
    cases q2 : s2.at M' i with
    | none => exact ⟨fun e => (by cases r1 <;> cases e), fun _ e => (by cases r1 <;> cases e)⟩
    | some r2 =>
      obtain ⟨ws, qs, sq2, rp2, e2⟩ := w2 h ρ' H' M' m A i r2 q2
      subst e1
      subst e2
      have g1 := repL_get (i := i) rp1
      have g2 := repL_get (i := i) rp2
      cases c1 : ps[i]? with
      | none =>
        have n1 := g1.2 c1
        cases c2 : qs[i]? with
        | none =>
          have n2 := g2.2 c2
          refine ⟨fun _ => ⟨vs, ws, sq1, sq2, ?_⟩, fun _ e => (by cases e)⟩
          cases st with
          | true => exact ⟨n1, n2⟩
          | false => exact .inl n1
        | some y =>
          cases st with
          | true => exact ⟨fun e => (by cases e), fun _ e => (by cases e)⟩
          | false => exact ⟨fun _ => ⟨vs, ws, sq1, sq2, .inl n1⟩, fun _ e => (by cases e)⟩
      | some x =>
        obtain ⟨xv, hx, rx⟩ := g1.1 x c1
        cases c2 : qs[i]? with
        | none =>
          have n2 := g2.2 c2
          cases st with
          | true => exact ⟨fun e => (by cases e), fun _ e => (by cases e)⟩
          | false => exact ⟨fun _ => ⟨vs, ws, sq1, sq2, .inr n2⟩, fun _ e => (by cases e)⟩
        | some y =>
          obtain ⟨yv, hy, ry⟩ := g2.1 y c2
          refine ⟨fun e => (by cases e), fun p e => ?_⟩
          have e : some (some (PV.tup [x, y])) = some (some p) := e
          cases e
          refine ⟨⟨vs, ws, xv, yv, sq1, sq2, hx, hy⟩, ?_⟩
          rintro v H2 ⟨T, x2, y2, rfl, hT, rfl, u1, u2⟩
          have ex : x2 = xv := by have := u1 vs sq1; rw [hx] at this; exact (Option.some.inj this).symm
          have ey : y2 = yv := by have := u2 ws sq2; rw [hy] at this; exact (Option.some.inj this).symm
          subst ex
          subst ey
          exact ⟨ext_new hT, abs_wh_new A hT, rep_tup A hT ⟨_, _, rfl, rx, _, _, rfl, ry, rfl⟩⟩
theorem walks_enum {J : It} {s : Src} {k : Int} (w : Walks S J s ρ H) : Walks S (Iten k J) (.enum k s) ρ H := by
  intro h ρ' H' M' i m mf A
  obtain ⟨w1, w2⟩ := w h ρ' H' M' i m mf A
  have e0 : (Src.enum k s).at M' i = (match s.at M' i with
    | none => none
    | some none => some none
    | some (some x) => some (some (.tup [.int (k + i), x]))) := rfl
  rw [e0]
  cases q : s.at M' i with
  | none => exact ⟨fun e => (by cases e), fun _ e => (by cases e)⟩
  | some r =>
    cases r with
    | none => exact ⟨fun _ => w1 q, fun _ e => (by cases e)⟩
    | some x =>
      refine ⟨fun e => (by cases e), fun p e => ?_⟩
      have e : some (some (PV.tup [.int (k + i), x])) = some (some p) := e
      cases e
      obtain ⟨g, y⟩ := w2 x q
      refine ⟨g, ?_⟩
      rintro v H2 ⟨xv, H1, T, hy, hT, rfl, rfl⟩
      obtain ⟨x1, A1, r1⟩ := y xv H1 hy
      exact ⟨x1.trans (ext_new hT), abs_wh_new A1 hT, rep_tup A1 hT ⟨_, _, rfl, rfl, _, _, rfl, r1, rfl⟩⟩
theorem walks_seq {k : Kd} {s : Src} {a : Addr} (w : SeqW S k s a ρ H) : Walks S (Itq k S.K a) s ρ H := by
  intro h ρ' H' M' i m mf A
  cases q : s.at M' i with
  | none => exact ⟨fun e => (by cases e), fun _ e => (by cases e)⟩
  | some r =>
    obtain ⟨vs, ps, sq1, rp1, e1⟩ := w h ρ' H' M' m A i r q
    subst e1
    have g1 := repL_get (i := i) rp1
    refine ⟨fun e => ⟨vs, sq1, g1.2 (Option.some.inj e)⟩, fun p e => ?_⟩
    obtain ⟨xv, hx, rx⟩ := g1.1 p (Option.some.inj e)
    refine ⟨⟨vs, xv, sq1, hx⟩, ?_⟩
    rintro v H2 ⟨rfl, u⟩
    have := u vs sq1
    rw [hx] at this
    cases this
    exact ⟨Ext.refl, A, rx⟩
end
end Pf
end
section
set_option Elab.async false
set_option linter.all false
set_option maxRecDepth 100000
set_option maxHeartbeats 1000000
namespace Pf
open PySem PySem.Spec PyProof.Rows L2
section
variable {S : Sta} {Wx : WP} {X : Cx} {α : Type} {prog : Prog} {o : Orc} {H : Hp} {ρ : List Addr} {M : Sto} {v : PV} {x : V} {hx : Option Exn}
theorem iterAt_of {k : Kd} {a : Addr} {pins : List (Addr × Obj)} {σ : L2.St} {s : Shared} {vs : List V} (I : L2.Inv X pins σ H s) (h : k.sq X.K H a vs) :
    ∃ ob : Obj, IterAt (.ref a) s s.heap.objs.size (s.heap.push ob) ∧ ob.isFreed = false ∧ (∀ (h : Heap) (it : Addr), h.get? it = some ob → k.isIt h it a 0) ∧ a < s.heap.objs.size := by
  obtain ⟨its, _, p⟩ := k.get I h
  obtain ⟨ob, B, q⟩ := k.bg a its.toArray
  exact ⟨ob, fun prog w A E Q hq => B.iter prog w A E s Q p hq, B.free, q, k.obLt p⟩
theorem enum_come {tg : PySem.Expr} {k : Kd} {a : Addr} {c : Int} {pins : List (Addr × Obj)} {σ : L2.St} {s : Shared} {R : It → Hp → Prop} {ob : Obj} {h' : Heap} (I : L2.Inv X pins σ H s) (hfr : ob.isFreed = false)
    (hit : ∀ (h : Heap) (it : Addr), h.get? it = some ob → k.isIt h it a 0) (he : IsEnum h' (s.heap.push ob).objs.size s.heap.objs.size c .none) (hk : ∀ b o, (s.heap.push ob).get? b = some o → h'.get? b = some o) (q : R (Iten c (Itq k X.K a)) H) :
    wpAny (model X.prog X.w) X.A (pyIter (.ref (s.heap.push ob).objs.size)) (PIE X pins σ tg R) X.xe { s with heap := h' } := by
  have hsz : (s.heap.push ob).objs.size = s.heap.objs.size + 1 := Heap.size_push ..
  rw [hsz] at he ⊢
  refine wpAny_pyIter_enum he ?_
  have kk : ∀ b o, s.heap.get? b = some o → h'.get? b = some o := fun b o e => hk b o (Heap.get?_push_of_some _ e)
  have hio : h'.get? s.heap.objs.size = some ob := hk _ _ (Heap.get?_push_size _ hfr)
  refine ⟨s.heap.objs.size + 1, [s.heap.objs.size + 1, s.heap.objs.size], enumTn c (s.heap.objs.size + 1) s.heap.objs.size [s.heap.objs.size] (fun i h => k.isIt h s.heap.objs.size a i), Iten c (Itq k X.K a), H, rfl, Inv.kept I (t' := s.toks) kk,
    turn_enumq (draw_seq k a s.heap.objs.size) (by simp [Nat.succ_ne_self]), ⟨⟨false, .none, .none, ?_, .inl rfl⟩, hit _ _ hio⟩, fun b hb => ?_, q⟩
  · have : c + ((0 : Nat) : Int) = c := by simp
    rw [this]; exact he
  · have e' : b = s.heap.objs.size + 1 ∨ b = s.heap.objs.size := by simpa using hb
    have hle : s.heap.objs.size ≤ b := by
      rcases e' with z | z
      · rw [z]; exact Nat.le_add_right _ _
      · rw [z]; exact Nat.le_refl _
    exact Inv.fpOk I hle (HOk.fresh I.hok hle)
theorem i_enum (hK : X.K = S.K) {tg e : PySem.Expr} {es : List PySem.Expr} {cs : CL} {p pos : Pos} (hg : Gl X ("enumerate" : Str)) (hm : X.mg ("enumerate" : Str) = none) (h : PA X (e :: es) (tA S Wx fun env => evL prog o env cs)) (hn : noStar (e :: es) = true) :
    L2.PI X tg (.Call (.Name (Str.ofString "enumerate") p) (e :: es) [] pos) (tI S Wx fun env => evI prog o env (.enum cs)) :=
  ⟨fun pins s σ H R I ⟨ρ, M, env, A, E, P⟩ => by
    refine Call_ (ld_blt I hg hm boot_enumerate (PyProof.Rows.callWith_type1 (thn (h.run pos pins s σ H _ I (tA_seq (d := fun env => evL prog o env cs) (k := enumR) A E P)) fun us s1 ⟨vs, H1, I1, rv, xs, M1, ρ1, A1, E1, x1, r1, P1⟩ => ?_) (star_of hn) (star_any (noStar_cons hn).2)))
    have go : ∀ (y : PV) (yv : V) (src : Src), Rep S H1 ρ1 y yv → seqS M1 y = some src → ∃ a k, yv = .ref a ∧ (∃ vs, k.sq X.K H1 a vs) ∧ Walks S (Itq k X.K a) src ρ1 H1 := fun y yv src r e => by
      obtain ⟨a, k, ea, _, hv, w⟩ := seqS_rep A1 r e
      rw [← hK] at hv
      exact ⟨a, k, ea, hv, by rw [hK]; exact walks_seq w⟩
    match xs, r1, P1 with
    | [y], r1, P1 =>
      obtain ⟨yv, ws, rfl, ry, rfl⟩ := r1
      cases rv with
      | @cons _ u _ us0 ru rr =>
        cases rr
        have P1 : Post S ρ1 H1 (match seqS M1 y with
          | some s => Rs.ok (Src.enum 0 s) M1
          | none => .no "enumerate") _ _ := P1
        split at P1
        · rename_i src hs
          obtain ⟨a, k, rfl, ⟨zs, hz⟩, w⟩ := go y yv src ry hs
          cases ru
          obtain ⟨ob, B, hfr, hit, _⟩ := iterAt_of I1 hz
          exact call_enum1 B fun h' he hsz hk => enum_come I1 hfr hit he hk (P1.now A1 _ (walks_enum w))
        · exact P1.elim
    | [y, y2], r1, P1 =>
      cases y2 with
      | int c =>
        obtain ⟨yv, ws, rfl, ry, zv, ws2, rfl, rz, rfl⟩ := r1
        cases rv with
        | @cons _ u _ us0 ru rr =>
          cases rr with
          | @cons _ u2 _ us1 ru2 rr =>
            cases rr
            have P1 : Post S ρ1 H1 (match inR c with
              | true => match seqS M1 y with
                | some s => Rs.ok (Src.enum c s) M1
                | none => .no "enumerate"
              | false => .no "enumerate") _ _ := P1
            split at P1
            · rename_i hc
              split at P1
              · rename_i src hs
                obtain ⟨a, k, rfl, ⟨zs, hz⟩, w⟩ := go y yv src ry hs
                cases ru
                cases (show zv = .int c from rz)
                obtain ⟨t, rfl⟩ := ru2
                obtain ⟨b1, b2⟩ := inR_of hc
                obtain ⟨ob, B, hfr, hit, _⟩ := iterAt_of I1 hz
                exact call_enum2 B (by omega) (by omega) fun h' he hsz hk => enum_come I1 hfr hit he hk (P1.now A1 _ (walks_enum w))
              · exact P1.elim
            · exact P1.elim
      | _ => exact P1.elim
    | [], _, P1 => exact P1.elim
    | _ :: _ :: _ :: _, _, P1 => exact P1.elim⟩
end
end Pf
end
section
set_option Elab.async false
set_option linter.all false
set_option maxRecDepth 100000
set_option maxHeartbeats 1000000
namespace Pf
open PySem PySem.Spec PyProof.Rows L2
abbrev gzZS (h : Heap) (o1 o2 : Obj) : Heap := (gzO2 h o1 o2).push { cls := .type "zip", data := .fields #[.none, .bool false, .bool true, .ref ((h.push o1).push o2).objs.size, .ref (gzT2 h o1 o2).objs.size] }
theorem meets_zip_newS {v1 v2 : Value} {o1 o2 : Obj} {H1 H2 : Heap → Prop} (B1 : Begins v1 o1 H1) (B2 : Begins v2 o2 H2) :
    Meets (Builtin.«zip.__new__» ⟨[.type "zip", v1, v2], [(Str.ofString "strict", .bool true)]⟩) (fun _ R s => (H1 s.heap ∧ H2 s.heap) ∧
      R (.ok (.ret (.ref (gzO2 s.heap o1 o2).objs.size))) { s with heap := gzZS s.heap o1 o2 }) :=
  .of_wp fun prog w A R s h => by
    obtain ⟨hp, g, d, tk, os⟩ := s; obtain ⟨⟨h1, h2⟩, h⟩ := h
    have hsub := sub_zip
    have e2 : (Str.ofString "strict" != ("strict" : Str)) = false := by decide +kernel
    have q1 : ∀ {A' : Around} {E : Value → Shared → Prop} {Q : Value → Shared → Prop}, Q (.ref hp.objs.size) ⟨(hp.push o1), g, d, tk, os⟩ → wpAny (model prog w) A' (pyIter v1) Q E ⟨hp, g, d, tk, os⟩ :=
      fun q => B1.iter prog w _ _ ⟨hp, g, d, tk, os⟩ _ (B1.keeps _ _ h1 fun b o' e => e) q
    have q2 : ∀ {A' : Around} {E : Value → Shared → Prop} {Q : Value → Shared → Prop}, Q (.ref (hp.push o1).objs.size) ⟨((hp.push o1).push o2), g, d, tk, os⟩ → wpAny (model prog w) A' (pyIter v2) Q E ⟨(hp.push o1), g, d, tk, os⟩ :=
      fun q => B2.iter prog w _ _ ⟨(hp.push o1), g, d, tk, os⟩ _ (B2.keeps _ _ h2 fun b o' e => (Heap.get?_push_of_some _ e)) q
    wp_walk using q1, q2
    exact ⟨_, rfl, h⟩
section
variable {prog : Program} {w : World} {A : Around} {E : Value → Shared → Prop} {s : Shared}
theorem typeCall_zip_strict (a b c : Value) : checkTypeCall "zip" ⟨[a, b], [(Str.ofString "strict", c)]⟩ = pure () := by kernel_rfl
theorem newCall_zip_strict (a b c : Value) : checkBuiltinCall "zip.__new__" ⟨[.type "zip", a, b], [(Str.ofString "strict", c)]⟩ = pure () := by kernel_rfl
theorem args_object_init_strict (obj a b c : Value) : argsOk "object.__init__" ⟨[obj, a, b], [(Str.ofString "strict", c)]⟩ := by unfold argsOk; kernel_rfl
def zipKw : Bool → List (Str × Value)
  | true => [(Str.ofString "strict", .bool true)]
  | false => []
theorem call_zipN {st : Bool} {v1 v2 : Value} {o1 o2 : Obj} {H1 H2 : Heap → Prop} {Q : Value → Shared → Prop} (B1 : Begins v1 o1 H1) (B2 : Begins v2 o2 H2) (h1 : H1 s.heap) (h2 : H2 s.heap)
    (h : ∀ h', ZipO h' (s.heap.objs.size + 4) (s.heap.objs.size + 2) (s.heap.objs.size + 3) st false .none → IsTupOf2 h' (s.heap.objs.size + 2) (.ref s.heap.objs.size) (.ref (s.heap.objs.size + 1)) →
      IsTupOf2 h' (s.heap.objs.size + 3) .none .none → h'.get? s.heap.objs.size = some o1 → h'.get? (s.heap.objs.size + 1) = some o2 → h'.objs.size = s.heap.objs.size + 5 →
      (∀ c o, s.heap.get? c = some o → h'.get? c = some o) → Q (.ref (s.heap.objs.size + 4)) { s with heap := h' }) :
    wpAny (model prog w) A (call (.type "zip") [v1, v2] (zipKw st)) Q E s := by
  cases st with
  | false => exact zip_begins2 B1 B2 h1 h2 h
  | true =>
    refine callType_newKw F.called_zip (by decide) (typeCall_zip_strict _ _ _) (newCall_zip_strict _ _ _) (fun obj => args_object_init_strict obj _ _ _) F.entry_zip_new
      (meets_zip_newS B1 B2) ⟨⟨h1, h2⟩, ?_⟩
    have z1 : (s.heap.push o1).objs.size = s.heap.objs.size + 1 := by rw [Heap.size_push]
    have z2 : ((s.heap.push o1).push o2).objs.size = s.heap.objs.size + 2 := by rw [Heap.size_push, z1]
    have zT : (gzT2 s.heap o1 o2).objs.size = s.heap.objs.size + 3 := by rw [Heap.size_push, z2]
    have zO : (gzO2 s.heap o1 o2).objs.size = s.heap.objs.size + 4 := by rw [Heap.size_push, zT]
    have zZ : (gzZS s.heap o1 o2).objs.size = s.heap.objs.size + 5 := by rw [Heap.size_push, zO]
    have gZ : (gzZS s.heap o1 o2).get? (gzO2 s.heap o1 o2).objs.size = some { cls := .type "zip", data := .fields #[.none, .bool false, .bool true, .ref ((s.heap.push o1).push o2).objs.size, .ref (gzT2 s.heap o1 o2).objs.size] } := Heap.get?_push_size _ rfl
    have gO : (gzZS s.heap o1 o2).get? (gzT2 s.heap o1 o2).objs.size = some { cls := .type "tuple", data := .seq #[.none, .none] } := Heap.get?_push_of_some _ (Heap.get?_push_size _ rfl)
    have gT : (gzZS s.heap o1 o2).get? ((s.heap.push o1).push o2).objs.size = some { cls := .type "tuple", data := .seq #[.ref s.heap.objs.size, .ref (s.heap.push o1).objs.size] } := Heap.get?_push_of_some _ (Heap.get?_push_of_some _ (Heap.get?_push_size _ rfl))
    have g1 : (gzZS s.heap o1 o2).get? s.heap.objs.size = some o1 := Heap.get?_push_of_some _ (Heap.get?_push_of_some _ (Heap.get?_push_of_some _ (Heap.get?_push_of_some _ (Heap.get?_push_size _ B1.free))))
    have g2 : (gzZS s.heap o1 o2).get? (s.heap.push o1).objs.size = some o2 := Heap.get?_push_of_some _ (Heap.get?_push_of_some _ (Heap.get?_push_of_some _ (Heap.get?_push_size _ B2.free)))
    rw [zO, zT, z2] at gZ
    rw [zT] at gO
    rw [z2, z1] at gT
    rw [z1] at g2
    show _ ∧ _
    rw [zO]
    exact ⟨⟨_, gZ, rfl⟩, h _ gZ gT gO g1 g2 zZ fun c o e => Heap.get?_push_of_some _ (Heap.get?_push_of_some _ (Heap.get?_push_of_some _ (Heap.get?_push_of_some _ (Heap.get?_push_of_some _ e))))⟩
theorem callWith_typeKw {M : Model} {env : PySem.Env} {pos : Pos} {T : String} {e : PySem.Expr} {rest : List PySem.Expr} {kws : List Keyword} {Q : Value → Shared → Prop} (hall : (backToKw pos (keywordEach kws env)).all (·.1.isSome) = true)
    (h : wpAny M A (spliced (backTo pos (starEach (e :: rest) env))) (fun vs s₁ => wpAny M A (evalAll ((backToKw pos (keywordEach kws env)).map (·.2)))
      (fun ks s₂ => wpAny M A (call (.type T) vs (((backToKw pos (keywordEach kws env)).filterMap (·.1)).zip ks)) Q E s₂) E s₁) E s)
    (hplain : ((backTo pos (starEach (e :: rest) env)).any (·.1) || (backToKw pos (keywordEach kws env)).any (·.1.isNone)) = false) (he : starEach (e :: rest) env = (false, eval e env) :: starEach rest env) :
    wpAny M A (callWith pos (.type T) [] (backTo pos (starEach (e :: rest) env)) (backToKw pos (keywordEach kws env))) Q E s :=
  W.callWith_of (P := fun _ => True) hplain (fun h _ => ⟨_, .inr (.inl rfl), W.Looks.of_pure rfl⟩) (evalArgs_kw2 hall (thn h fun vs s1 h1 => thn h1 fun ks s2 h2 => ⟨trivial, h2⟩) he)
end
end Pf
end
section
set_option Elab.async false
set_option linter.all false
set_option maxRecDepth 100000
set_option maxHeartbeats 1000000
namespace Pf
open PySem PySem.Spec PyProof.Rows L2
section
variable {S : Sta} {Wx : WP} {X : Cx} {α : Type} {prog : Prog} {o : Orc} {H : Hp} {ρ : List Addr} {M : Sto} {v : PV} {x : V} {hx : Option Exn}
theorem zip_new {st : Bool} {k1 k2 : Kd} {a b : Addr} {pins : List (Addr × Obj)} {σ : L2.St} {s : Shared} {vs ws : List V} {E : Value → Shared → Prop} {Q : Value → Shared → Prop} {prog : Program} {w : World} {A : Around} (I : L2.Inv X pins σ H s) (ha : k1.sq X.K H a vs) (hb : k2.sq X.K H b ws)
    (h : ∀ h', (∀ c o, s.heap.get? c = some o → h'.get? c = some o) → ZipO h' (s.heap.objs.size + 4) (s.heap.objs.size + 2) (s.heap.objs.size + 3) st false .none → ZipSep2 (s.heap.objs.size + 4) (s.heap.objs.size + 2) (s.heap.objs.size + 3) s.heap.objs.size (s.heap.objs.size + 1) [s.heap.objs.size, a] [s.heap.objs.size + 1, b] →
      zipTn st k1 k2 a b (s.heap.objs.size + 4) (s.heap.objs.size + 2) (s.heap.objs.size + 3) s.heap.objs.size (s.heap.objs.size + 1) 0 h' → h'.objs.size = s.heap.objs.size + 5 → Q (.ref (s.heap.objs.size + 4)) { s with heap := h' }) :
    wpAny (model prog w) A (call (.type "zip") [.ref a, .ref b] (zipKw st)) Q E s := by
  obtain ⟨its, _, p⟩ := k1.get I ha
  obtain ⟨o1, B1, q1⟩ := k1.bg a its.toArray
  obtain ⟨its2, _, p2⟩ := k2.get I hb
  obtain ⟨o2, B2, q2⟩ := k2.bg b its2.toArray
  refine call_zipN B1 B2 p p2 fun h' hz hTI hTO g1 g2 hsz hk => h h' hk hz (zip_sep2 (fun c hc => ?_) fun c hc => ?_) ⟨⟨false, .none, hz, .inl rfl⟩, hTI, ⟨_, _, hTO⟩, q1 _ _ g1, q2 _ _ g2⟩ hsz
  · rw [List.mem_singleton.mp hc]; exact k1.obLt p
  · rw [List.mem_singleton.mp hc]; exact k2.obLt p2
theorem zip_fp {pins : List (Addr × Obj)} {σ : L2.St} {s : Shared} (I : L2.Inv X pins σ H s) : ∀ c ∈ [s.heap.objs.size + 4, s.heap.objs.size + 2, s.heap.objs.size + 3, s.heap.objs.size, s.heap.objs.size + 1], FpOk X pins H c := fun c hc => by
  have hle : s.heap.objs.size ≤ c := by
    rcases zip_mem.mp hc with z | z | z | z | z
    · rw [z]; exact Nat.le_add_right _ _
    · rw [z]; exact Nat.le_add_right _ _
    · rw [z]; exact Nat.le_add_right _ _
    · rw [z]; exact Nat.le_refl _
    · rw [z]; exact Nat.le_add_right _ _
  exact Inv.fpOk I hle (HOk.fresh I.hok hle)
theorem zip_come {st : Bool} {tg : PySem.Expr} {k1 k2 : Kd} {a b : Addr} {pins : List (Addr × Obj)} {σ : L2.St} {s : Shared} {vs ws : List V} {R : It → Hp → Prop} (I : L2.Inv X pins σ H s) (ha : k1.sq X.K H a vs) (hb : k2.sq X.K H b ws) (q : R (Itzq st k1 k2 X.K a b) H) :
    wpAny (model X.prog X.w) X.A (call (.type "zip") [.ref a, .ref b] (zipKw st)) (fun v s1 => wpAny (model X.prog X.w) X.A (pyIter v) (PIE X pins σ tg R) X.xe s1) X.xe s := by
  refine zip_new I ha hb fun h' hk hz S tn hsz => ?_
  exact (turn_zipq (P := X.prog) (w := X.w) (K := X.K) (tg := tg) S).self X.A 0 _ _ _ tn
    ⟨_, _, zipTn st k1 k2 a b (s.heap.objs.size + 4) (s.heap.objs.size + 2) (s.heap.objs.size + 3) s.heap.objs.size (s.heap.objs.size + 1), Itzq st k1 k2 X.K a b, H, rfl, Inv.kept I (t' := s.toks) hk, turn_zipq S, tn, zip_fp I, q⟩
theorem zip_args {st : Bool} {xs : List PV} {vs : List V} {us : List Value} {R : It → Hp → Prop} (hK : X.K = S.K) (A : Abs S H ρ M) (rv : Vals vs us) (r : RepL S H ρ xs vs) {σ : L2.St} (P : Post S ρ H (zipR st xs M) (fun src _ ρ' H' => ∀ J, Walks S J src ρ' H' → R J H') (Wx σ)) :
    ∃ a b k1 k2 vs ws, us = [.ref a, .ref b] ∧ k1.sq X.K H a vs ∧ k2.sq X.K H b ws ∧ R (Itzq st k1 k2 X.K a b) H := by
  match xs, r, P with
  | [y, z], r, P =>
    obtain ⟨yv, ws, rfl, ry, zv, ws2, rfl, rz, rfl⟩ := r
    cases rv with
    | @cons _ u _ us0 ru rr =>
      cases rr with
      | @cons _ u2 _ us1 ru2 rr =>
        cases rr
        have P : Post S ρ H (match seqS M y with
          | some s => match seqS M z with
            | some t => Rs.ok (Src.zip st s t) M
            | none => .no "zip"
          | none => .no "zip") _ _ := P
        split at P
        · rename_i s1 h1
          split at P
          · rename_i s2 h2
            obtain ⟨a, k1, rfl, _, ⟨vs1, q1⟩, w1⟩ := seqS_rep A ry h1
            obtain ⟨b, k2, rfl, _, ⟨vs2, q2⟩, w2⟩ := seqS_rep A rz h2
            cases ru
            cases ru2
            exact ⟨a, b, k1, k2, vs1, vs2, rfl, by rw [hK]; exact q1, by rw [hK]; exact q2, P.now A _ (by rw [hK]; exact walks_zipq w1 w2)⟩
          · exact P.elim
        · exact P.elim
  | [], _, P => exact P.elim
  | [_], _, P => exact P.elim
  | _ :: _ :: _ :: _, _, P => exact P.elim
theorem i_zip (hK : X.K = S.K) {tg e : PySem.Expr} {es : List PySem.Expr} {cs : CL} {p pos : Pos} (hg : Gl X ("zip" : Str)) (hm : X.mg ("zip" : Str) = none) (h : PA X (e :: es) (tA S Wx fun env => evL prog o env cs)) (hn : noStar (e :: es) = true) :
    L2.PI X tg (.Call (.Name (Str.ofString "zip") p) (e :: es) [] pos) (tI S Wx fun env => evI prog o env (.zip false cs)) :=
  ⟨fun pins s σ H R I ⟨ρ, M, env, A, E, P⟩ => by
    refine Call_ (ld_blt I hg hm PyProof.Rows.boot_zip (PyProof.Rows.callWith_type1 (thn (h.run pos pins s σ H _ I (tA_seq (d := fun env => evL prog o env cs) (k := zipR false) A E P)) fun us s1 ⟨vs, H1, I1, rv, xs, M1, ρ1, A1, E1, x1, r1, P1⟩ => ?_) (star_of hn) (star_any (noStar_cons hn).2)))
    obtain ⟨a, b, k1, k2, vs1, vs2, rfl, q1, q2, q⟩ := zip_args hK A1 rv r1 P1
    exact zip_come (st := false) I1 q1 q2 q⟩
theorem i_zips (hK : X.K = S.K) {tg e : PySem.Expr} {es : List PySem.Expr} {cs : CL} {j : Nat} {p pos kp cp : Pos} (hg : Gl X ("zip" : Str)) (hm : X.mg ("zip" : Str) = none) (h : PA X (e :: es) (tA S Wx fun env => evL prog o env cs)) (hn : noStar (e :: es) = true) :
    L2.PI X tg (.Call (.Name (Str.ofString "zip") p) (e :: es) [⟨some (Str.ofString "strict"), .Constant (.bool true) j cp, kp⟩] pos) (tI S Wx fun env => evI prog o env (.zip true cs)) :=
  ⟨fun pins s σ H R I ⟨ρ, M, env, A, E, P⟩ => by
    have kk : L2.PK X [⟨some (Str.ofString "strict"), PySem.Expr.Constant (.bool true) j cp, kp⟩] (tCons (tC (.bl true)) tNil) := pk_cons pe_bl pk_nil
    refine wpAny_Call_Name_kw (ld_blt I hg hm PyProof.Rows.boot_zip (callWith_typeKw (by rfl) (thn (h.run pos pins s σ H _ I (tA_seq (d := fun env => evL prog o env cs) (k := zipR true) A E P)) fun us s1 ⟨vs, H1, I1, rv, xs, M1, ρ1, A1, E1, x1, r1, P1⟩ => ?_) (by rw [star_any hn]; rfl) (star_of hn)))
    refine thn (kk.run pos pins s1 σ H1 (fun zs H2 => zs = [.bl true] ∧ H2 = H1) I1 ⟨rfl, rfl⟩) fun ws s2 ⟨zs, H2, I2, rz, e1, e2⟩ => ?_
    subst e1
    subst e2
    cases rz with
    | @cons _ u _ us0 ru rr =>
      cases rr
      cases ru
      obtain ⟨a, b, k1, k2, vs1, vs2, rfl, q1, q2, q⟩ := zip_args hK A1 rv r1 P1
      exact zip_come (st := true) I2 q1 q2 q⟩
theorem i_enumz (hK : X.K = S.K) {tg e : PySem.Expr} {es : List PySem.Expr} {cs : CL} {p pos p2 pos2 : Pos} (hg : Gl X ("zip" : Str)) (hm : X.mg ("zip" : Str) = none) (hg2 : Gl X ("enumerate" : Str)) (hm2 : X.mg ("enumerate" : Str) = none)
    (h : PA X (e :: es) (tA S Wx fun env => evL prog o env cs)) (hn : noStar (e :: es) = true) :
    L2.PI X tg (.Call (.Name (Str.ofString "enumerate") p2) [.Call (.Name (Str.ofString "zip") p) (e :: es) [] pos] [] pos2) (tI S Wx fun env => evI prog o env (.enumz cs)) :=
  ⟨fun pins s σ H R I ⟨ρ, M, env, A, E, P⟩ => by
    refine Call_ (ld_blt I hg2 hm2 boot_enumerate (PyProof.Rows.callWith_type1 (e := .Call (.Name (Str.ofString "zip") p) (e :: es) [] pos) (rest := []) ?_ (by rfl) (by rfl)))
    refine Calls.spliced_cons ?_
    refine Call_ (ld_blt I hg hm PyProof.Rows.boot_zip (PyProof.Rows.callWith_type1 (thn (h.run pos pins s σ H _ I (tA_seq (d := fun env => evL prog o env cs) (k := enumzR) A E P)) fun us s1 ⟨vs, H1, I1, rv, xs, M1, ρ1, A1, E1, x1, r1, P1⟩ => ?_) (star_of hn) (star_any (noStar_cons hn).2)))
    have P2 : Post S ρ1 H1 (zipR false xs M1) (fun src _ ρ' H' => ∀ J, Walks S J src ρ' H' → R (Iten 0 J) H') (Wx σ) := by
      match xs, P1 with
      | [y, z], P1 =>
        show Post S ρ1 H1 (match seqS M1 y with
          | some s => match seqS M1 z with
            | some t => Rs.ok (Src.zip false s t) M1
            | none => .no "zip"
          | none => .no "zip") _ _
        have P1 : Post S ρ1 H1 (match seqS M1 y with
          | some s => match seqS M1 z with
            | some t => Rs.ok (Src.enum 0 (.zip false s t)) M1
            | none => .no "zip"
          | none => .no "zip") _ _ := P1
        cases c1 : seqS M1 y with
        | none => rw [c1] at P1; exact P1.elim
        | some s1 =>
          rw [c1] at P1
          cases c2 : seqS M1 z with
          | none => rw [c2] at P1; exact P1.elim
          | some s2 =>
            rw [c2] at P1
            exact fun ρ' H' x' A' J hJ => P1 ρ' H' x' A' _ (walks_enum hJ)
      | [], P1 => exact P1.elim
      | [_], P1 => exact P1.elim
      | _ :: _ :: _ :: _, P1 => exact P1.elim
    obtain ⟨a, b, k1, k2, vs1, vs2, rfl, q1, q2, q⟩ := zip_args hK A1 rv r1 P2
    refine zip_new (st := false) I1 q1 q2 fun h' hk hz SZ tn hsz => ?_
    refine Calls.spliced_nil ?_
    have I2 : L2.Inv X pins σ H1 { s1 with heap := h' } := Inv.kept I1 (t' := s1.toks) hk
    have B : IterAt (.ref (s1.heap.objs.size + 4)) { s1 with heap := h' } (s1.heap.objs.size + 4) h' := fun prog w A E Q hq => (turn_zipq (P := prog) (w := w) (K := X.K) (tg := tg) SZ).self A 0 { s1 with heap := h' } Q E tn hq
    refine call_enum1 (s := { s1 with heap := h' }) B fun h2 he hsz2 hk2 => ?_
    refine wpAny_pyIter_enum he ?_
    have kk : ∀ c o, s1.heap.get? c = some o → h2.get? c = some o := fun c o e => hk2 c o (hk c o e)
    have hef : h'.objs.size ∉ [s1.heap.objs.size + 4, s1.heap.objs.size + 2, s1.heap.objs.size + 3, s1.heap.objs.size, s1.heap.objs.size + 1] := fun m => by
      rw [hsz] at m
      rcases zip_mem.mp m with z | z | z | z | z
      · exact absurd z (Nat.ne_of_gt (Nat.lt_succ_self _))
      · exact absurd (show s1.heap.objs.size + 5 = s1.heap.objs.size + 2 from z) (by omega)
      · exact absurd (show s1.heap.objs.size + 5 = s1.heap.objs.size + 3 from z) (by omega)
      · exact absurd (show s1.heap.objs.size + 5 = s1.heap.objs.size from z) (by omega)
      · exact absurd (show s1.heap.objs.size + 5 = s1.heap.objs.size + 1 from z) (by omega)
    refine ⟨h'.objs.size, h'.objs.size :: [s1.heap.objs.size + 4, s1.heap.objs.size + 2, s1.heap.objs.size + 3, s1.heap.objs.size, s1.heap.objs.size + 1], enumTn 0 h'.objs.size (s1.heap.objs.size + 4) _ (zipTn false k1 k2 a b (s1.heap.objs.size + 4) (s1.heap.objs.size + 2) (s1.heap.objs.size + 3) s1.heap.objs.size (s1.heap.objs.size + 1)),
      Iten 0 (Itzq false k1 k2 X.K a b), H1, rfl, Inv.kept (s := s1) (h' := h2) I1 (t' := s1.toks) kk, turn_enumq (draw_zip SZ) hef, ⟨⟨false, .none, .none, ?_, .inl rfl⟩, zip_keep tn fun c _ o e => hk2 c o e⟩, fun c hc => ?_, q⟩
    · have : (0 : Int) + ((0 : Nat) : Int) = 0 := by simp
      rw [this]; exact he
    · rcases List.mem_cons.mp hc with z | z
      · rw [z, hsz]
        exact Inv.fpOk I1 (Nat.le_add_right _ _) (HOk.fresh I1.hok (Nat.le_add_right _ _))
      · exact zip_fp I1 c z⟩
end
end Pf
end
section
set_option Elab.async false
set_option linter.all false
set_option maxRecDepth 100000
set_option maxHeartbeats 1000000
namespace Pf
open PySem PySem.Spec PyProof.Rows L2
section
variable {prog : Program} {w : World} {A : Around} {E : Value → Shared → Prop} {s : Shared}
theorem star_tup {l : Addr} {items : Array Value} {i : Nat} {Q : List Value → Shared → Prop} (hl : IsTup s.heap l items) (hh : A.handled = none) (hn : i ≤ items.size) (hz : items.size ≤ 16384)
    (h : ∀ (h' : Heap) (tk : Nat), (∀ b o, s.heap.get? b = some o → h'.get? b = some o) → Q (items.toList.take i ++ [.ref h'.objs.size]) { s with heap := h'.push { cls := .type "list", data := .seq (items.toList.drop i).toArray }, toks := tk }) :
    wpAny (model prog w) A (unpackItems (.ref l) (i + 1) (some i)) Q E s := by
  have hlt : l ≠ s.heap.objs.size := by obtain ⟨o, ho, _⟩ := hl; exact Nat.ne_of_lt (Heap.lt_size ho)
  have hll : l < s.heap.objs.size := by obtain ⟨o, ho, _⟩ := hl; exact Heap.lt_size ho
  unfold unpackItems
  refine wpAny_bind ?_
  unfold notIterableAtAll
  refine wpAny_bind (wpAny_specialOf hl.typeIs slot_tuple_iter.lookup ?_)
  refine wpAny_pure ?_
  simp only [Bool.false_eq_true, if_false]
  refine wpAny_bind (wpAny_holding (iter_tuple hl ?_))
  refine wpAny_bind (wpAny_holding (draw_tuple hlt i 0 _ _ ⟨_, Heap.get?_push_size _ rfl, rfl, rfl⟩ (hl.push _) (by omega) fun h₁ hit₁ hs₁ => ?_))
  have hl₁ : IsTup h₁ l items := (hl.push _).extBut hs₁.extBut hlt
  rw [Nat.zero_add] at hit₁
  have hit₁' := hit₁
  obtain ⟨oi, hoi, _⟩ := hit₁'
  have hl₁' := hl₁
  obtain ⟨ol, hol, _⟩ := hl₁'
  rw [List.drop_zero]
  have hfl : (items.toList.take i).length = i := by rw [List.length_take, Array.length_toList]; omega
  rw [if_neg (show ¬ ((items.toList.take i).length < i) by rw [hfl]; omega)]
  refine wpAny_bind (wpAny_holding (W.kun_collect (s := { s with heap := h₁ }) (T := "tuple_iterator") (.inr (.inr (.inr rfl))) (Walks.tuple (A := A.in1) hh s.heap.objs.size l hlt items) (fun j u st => st.1.typeIs) (k := i) (by omega) ⟨hit₁, hl₁⟩ (Heap.lt_size hoi) (Heap.lt_size hol) (fun h₂ tk hk => ?_) (by rw [sizeLine_eq]; omega)))
  have hrl : (items.toList.drop i).length = items.size - i := by rw [List.length_drop, Array.length_toList]
  have hmid : (items.toList.drop i).length - (i + 1 - 1 - i) = (items.toList.drop i).length := by omega
  show wpAny _ _ (if (items.toList.drop i).length < i + 1 - 1 - i then _ else _) _ _ _
  rw [if_neg (by rw [hrl]; omega)]
  show wpAny _ _ (newList ((items.toList.drop i).take ((items.toList.drop i).length - (i + 1 - 1 - i))) >>= fun d => pure (items.toList.take i ++ [d] ++ (items.toList.drop i).drop ((items.toList.drop i).length - (i + 1 - 1 - i)))) _ _ _
  rw [hmid, List.take_length, List.drop_length]
  have he : Heap.ExtBut s.heap.objs.size s.heap h₂ := fun b o hb e => hk b o hb (hs₁.extBut b o hb (Heap.get?_push_of_some _ e))
  refine wpAny_bind (wpAny_newList (wpAny_pure ?_) (by rw [hrl, sizeLine_eq]; omega))
  rw [List.append_nil]
  exact h h₂ tk fun b o e => he b o (Nat.ne_of_lt (Heap.lt_size e)) e
end
theorem aio_snoc0 {M : Model} {Γ : PySem.Ctx} {E : Value → Pos → Shared → Prop} {f : Value → Sem Unit} {w : Value} {Q : Unit → Pos → Shared → Prop} : ∀ {fs : List (Value → Sem Unit)} {us : List Value} {p : Pos} {s : Shared}, fs.length = us.length →
    Sem.wp M Γ (assignInOrder fs us) (fun _ p1 s1 => Sem.wp M Γ (f w) Q E p1 s1) E p s → Sem.wp M Γ (assignInOrder (fs ++ [f]) (us ++ [w])) Q E p s
  | [], [], p, s, _, h => by
    show Sem.wp M Γ (holding [] (f w) >>= fun _ => pure ()) Q E p s
    rw [Sem.wp_bind', Sem.wp_holding]
    exact h
  | g :: fs, u :: us, p, s, hl, h => by
    have h : Sem.wp M Γ (holding us (g u) >>= fun _ => assignInOrder fs us) (fun _ p1 s1 => Sem.wp M Γ (f w) Q E p1 s1) E p s := h
    show Sem.wp M Γ (holding (us ++ [w]) (g u) >>= fun _ => assignInOrder (fs ++ [f]) (us ++ [w])) Q E p s
    rw [Sem.wp_bind', Sem.wp_holding] at h ⊢
    exact Sem.wp_mono M Γ (g u) (fun _ p1 s1 h1 => aio_snoc0 (by simpa using hl) h1) (fun _ _ _ e => e) p s h
  | [], _ :: _, _, _, hl, _ => by cases hl
  | _ :: _, [], _, _, hl, _ => by cases hl
theorem aio_snoc {M : Model} {A : Around} {E : Value → Shared → Prop} {f : Value → Sem Unit} {w : Value} {Q : Unit → Shared → Prop} {fs : List (Value → Sem Unit)} {us : List Value} {s : Shared} (hl : fs.length = us.length)
    (h : wpAny M A (assignInOrder fs us) (fun _ s1 => wpAny M A (f w) Q E s1) E s) : wpAny M A (assignInOrder (fs ++ [f]) (us ++ [w])) Q E s :=
  fun Γ p hΓ => aio_snoc0 hl (Sem.wp_mono M Γ _ (fun _ p1 s1 h1 => h1 Γ p1 hΓ) (fun _ _ _ e => e) p s (h Γ p hΓ))
theorem asg_snoc {env : PySem.Env} {t : PySem.Expr} {sp : Pos} : ∀ {es : List PySem.Expr}, noStar es = true → assignEach (es ++ [.Starred t sp]) env = assignEach es env ++ [(true, assign t env)] ∧ List.findIdx? (fun x => x.fst) (assignEach (es ++ [.Starred t sp]) env) = some es.length
  | [], _ => ⟨rfl, rfl⟩
  | e :: es, h => by
    obtain ⟨h1, h2⟩ := asg_snoc (env := env) (t := t) (sp := sp) (noStar_cons h).2
    have ea : assignEach (e :: (es ++ [.Starred t sp])) env = (false, assign e env) :: assignEach (es ++ [.Starred t sp]) env := assignEach.eq_3 _ _ _ fun a p z => (noStar_cons h).1 a p z
    have eb : assignEach (e :: es) env = (false, assign e env) :: assignEach es env := assignEach.eq_3 _ _ _ fun a p z => (noStar_cons h).1 a p z
    refine ⟨?_, ?_⟩
    · rw [List.cons_append, ea, eb, h1]; rfl
    · rw [List.cons_append, ea, List.findIdx?_cons, h2]; rfl
section
variable {S : Sta} {Wx : WP} {X : Cx} {α : Type} {prog : Prog} {o : Orc} {H : Hp} {ρ : List Addr} {M : Sto} {v : PV} {x : V} {hx : Option Exn} {Kp : L2.St → L2.St → Prop}
theorem g_star (kp : KpOk Kp) (hW : ∀ σ σ', Wx σ = Wx σ') (hK : X.K = S.K) (hc : X.calm = true) {es : List PySem.Expr} {ts : CTs} {k i : Nat} {y : Str} {pos sp yp : Pos} (hn : noStar es = true) (hl : ts.len = es.length) (h : PGs X es (tGs S Wx Kp fun ps env M => evTs prog o env ts ps M))
    (hy : PG X (.Name y yp) (tG S Wx Kp fun p env M => evT prog o env (.v i) p M)) : PG X (.Tuple (es ++ [.Starred (.Name y yp) sp]) k pos) (tG S Wx Kp fun p env M => evT prog o env (.star ts i) p M) :=
  ⟨fun pins s σ H v u Q I rv ⟨ρ, M, env, p, A, E, r, P⟩ => by
    have P : Post S ρ H (match deref M p with
      | .tup xs => match Nat.ble ts.len xs.length && Nat.ble xs.length 16384 with
        | true => (evTs prog o env ts (xs.take ts.len) M).bind fun env M => Rs.ok (setAt env i (some (.lst (xs.drop ts.len)))) M
        | false => .no "unpacked: how many"
      | _ => .no "unpacked") _ _ := P
    split at P
    · rename_i xs ex
      split at P
      · rename_i hb
        rw [Bool.and_eq_true] at hb
        have b1 := Nat.le_of_ble_eq_true hb.1
        have b2 := Nat.le_of_ble_eq_true hb.2
        obtain ⟨a, vs, rfl, t, rl⟩ := d_tup r ex
        cases rv
        rw [← hK] at t
        obtain ⟨its, rvs, ht, hz⟩ := Inv.tuple I t
        have lv : xs.length = vs.length := rl.len
        have li : vs.length = its.length := rvs.length
        obtain ⟨a1, a2⟩ := asg_snoc (env := X.env) (t := .Name y yp) (sp := sp) hn
        rw [assign_Tuple]
        refine wpAny_bind (wpAny_standAt ?_)
        unfold unpack
        have ln : (assignEach (es ++ [.Starred (.Name y yp) sp]) X.env).length = es.length + 1 := by rw [a1, List.length_append, (asg_facts hn).1]; rfl
        rw [ln, a2]
        refine wpAny_bind (wpAny_holding (star_tup ht (I.ok.hd hc) (by simp; omega) (by simp; omega) fun h' tk kk => ?_))
        have I1 : L2.Inv X pins σ H { s with heap := h', toks := tk } := Inv.kept I kk
        have hD : H h'.objs.size = none := HOk.fresh I1.hok (Nat.le_refl _)
        have I2 : L2.Inv X pins σ (upd H h'.objs.size (.lst (vs.drop es.length))) { s with heap := h'.push { cls := .type "list", data := .seq (its.drop es.length).toArray }, toks := tk } :=
          Inv.laid (s := { s with heap := h', toks := tk }) I1 (t' := tk) (fun b u e => Heap.get?_push_of_some _ e) (Nat.le_refl _)
            ⟨by rw [List.length_drop]; omega, its.drop es.length, 0, Paired.dropN es.length rvs, Heap.get?_push_size _ rfl⟩
        have x1 : Ext ρ H ρ (upd H h'.objs.size (.lst (vs.drop es.length))) := ext_new hD
        have A1 : Abs S (upd H h'.objs.size (.lst (vs.drop es.length))) ρ M := abs_new A hD
        rw [a1, List.map_append]
        refine aio_snoc (by rw [List.length_map, (asg_facts hn).1, List.length_take]; simp; omega) ?_
        refine thn (h.run pins _ σ _ (vs.take es.length) (its.take es.length) _ I2 (Paired.takeN es.length rvs) ?_) fun _ s1 ⟨σ1, H1, I3, q⟩ => hy.run pins s1 σ1 H1 (.ref h'.objs.size) (.ref h'.objs.size) Q I3 rfl q
        refine ⟨ρ, M, env, xs.take ts.len, A1, E.ext x1, by rw [hl]; exact RepL.take es.length (RepL.ext x1 _ rl), ?_⟩
        refine (Post.ext P x1).bind.imp (fun env1 M1 ρ1 H1 _ x2 A2 P2 σ1 E1 k1 => ?_) fun _ _ _ _ _ _ P => P
        have rr : Rep S H1 ρ1 (.lst (xs.drop ts.len)) (.ref h'.objs.size) := Rep.ext x2 _ (by
          rw [hl]
          exact rep_lst A hD (RepL.drop es.length rl))
        exact ⟨ρ1, M1, env1, .lst (xs.drop ts.len), A2, E1, rr, (P2.imp (fun e2 M2 ρ2 H2 _ _ _ q σ2 E2 k2 => q σ2 E2 (kp.tr _ _ _ k1 k2)) fun e M2 ρ2 H2 _ _ q => by rw [hW σ1 σ]; exact q)⟩
      · exact P.elim
    · exact P.elim⟩
end
end Pf
end
section
set_option Elab.async false
set_option linter.all false
set_option maxRecDepth 100000
set_option maxHeartbeats 1000000
namespace Pf
open PySem PySem.Spec PyProof.Rows L2
theorem ofS (s : String) : Str.ofString s = sv (s.toList.map Char.toNat) := Str.ofString_eq_toList s
theorem strI_sv (i : Int) : Str.ofString (toString i) = sv (strI i) := by
  rw [ofS]
  congr 1
  cases i with
  | ofNat n =>
    show (Nat.repr n).toList.map Char.toNat = (Nat.toDigits 10 n).map Char.toNat
    unfold Nat.repr
    rw [String.toList_ofList]
  | negSucc n =>
    show ("-" ++ Nat.repr (n + 1)).toList.map Char.toNat = 45 :: (Nat.toDigits 10 (n + 1)).map Char.toNat
    unfold Nat.repr
    rw [String.toList_append, show (String.ofList (Nat.toDigits 10 (n + 1))).toList = _ from String.toList_ofList, List.map_append]
    rfl
theorem printable : ∀ c : Nat, 32 ≤ c → c ≤ 126 → Unicode.isPrintable c = true := by
  have h : ((List.range 127).all fun c => !(Nat.ble 32 c) || Unicode.isPrintable c) = true := by decide +kernel
  intro c h1 h2
  have := (List.all_eq_true.mp h) c (List.mem_range.mpr (by omega))
  rw [Nat.ble_eq_true_of_le h1] at this
  simpa using this
theorem foldl_plain (q : Nat) : ∀ (l : List Nat) (acc : Array Nat), (∀ c ∈ l, Builtin.Str.reprChar q c = [c]) → (l.foldl (fun out c => out ++ (Builtin.Str.reprChar q c).toArray) acc) = acc ++ l.toArray
  | [], acc, _ => by simp
  | c :: r, acc, h => by
    rw [List.foldl_cons, h c List.mem_cons_self, foldl_plain q r _ fun d hd => h d (List.mem_cons_of_mem _ hd)]
    simp
theorem reprS_sv {s t : List Nat} (h : reprS s = some t) : reprText (sv s) = sv t := by
  unfold reprS at h
  split at h
  · rename_i ha
    cases h
    have hp : ∀ c ∈ s, (32 ≤ c ∧ c ≤ 126) ∧ (c ≠ 39 ∧ c ≠ 92) := fun c hc => by
      have := (List.all_eq_true.mp ha) c hc
      unfold plainC at this
      simp only [Bool.and_eq_true, Bool.not_eq_true'] at this
      obtain ⟨⟨h1, h2⟩, h3, h4⟩ := this
      exact ⟨⟨Nat.le_of_ble_eq_true h1, Nat.le_of_ble_eq_true h2⟩, ⟨fun (e : c = 39) => by rw [e] at h3; exact Bool.noConfusion h3, fun (e : c = 92) => by rw [e] at h4; exact Bool.noConfusion h4⟩⟩
    have hq : reprQuote (sv s) = 39 := by
      unfold reprQuote
      have : (sv s).cps.contains 39 = false := by
        rw [← Bool.not_eq_true, Array.contains_iff_mem]
        intro m
        have m : 39 ∈ s := by simpa [sv] using m
        exact (hp 39 m).2.1 rfl
      rw [this]; rfl
    unfold reprText
    rw [hq]
    have : (sv s).cps.foldl (fun out c => out ++ (Builtin.Str.reprChar 39 c).toArray) #[39] = #[39] ++ s.toArray := by
      show (s.toArray).foldl _ _ = _
      rw [List.foldl_toArray]
      refine foldl_plain 39 s #[39] fun c hc => ?_
      obtain ⟨⟨h1, h2⟩, h3, h4⟩ := hp c hc
      unfold Builtin.Str.reprChar
      have e1 : (c == 39 || c == 92) = false := by simp [h3, h4]
      rw [e1]
      have e2 : (c == 10) = false := by simp; omega
      have e3 : (c == 13) = false := by simp; omega
      have e4 : (c == 9) = false := by simp; omega
      rw [e2, e3, e4, printable c h1 h2]
      rfl
    rw [this]
    unfold sv
    simp
  · cases h
theorem sv_cons (a : Nat) (l : List Nat) : sv (a :: l) = sv [a] ++ sv l := by rw [sv_app]; rfl
theorem join_sv {sep : List Nat} : ∀ {ts : List (List Nat)}, Str.join (sv sep) (ts.map sv) = sv (joinS sep ts)
  | [] => rfl
  | [a] => rfl
  | a :: b :: r => by
    show sv a ++ sv sep ++ Str.join (sv sep) ((b :: r).map sv) = sv (a ++ (sep ++ joinS sep (b :: r)))
    rw [join_sv, sv_app, sv_app, List.append_assoc]
theorem textFrom_sv {acc : List Nat} : ∀ {ts : List (List Nat)} {k : Nat}, textFrom (k + 1) (sv acc) (ts.map sv) = sv (acc ++ (ts.map fun t => [44, 32] ++ t).flatten)
  | [], k => by simp [textFrom]
  | t :: ts, k => by
    show textFrom (k + 1 + 1) (sv acc ++ (if k + 1 > 0 then ", " else "" : String) ++ sv t) (ts.map sv) = _
    rw [if_pos (Nat.succ_pos k), show (Str.ofString ", " : Str) = sv [44, 32] from rfl, sv_app, sv_app, textFrom_sv]
    simp
theorem joinS_flat {a : List Nat} : ∀ {ts : List (List Nat)}, joinS [44, 32] (a :: ts) = a ++ (ts.map fun t => [44, 32] ++ t).flatten
  | [] => by simp [joinS]
  | b :: r => by
    show a ++ ([44, 32] ++ joinS [44, 32] (b :: r)) = _
    rw [joinS_flat]
    simp
theorem listText_sv {ts : List (List Nat)} : listText (ts.map sv) = sv (91 :: (joinS [44, 32] ts ++ [93])) := by
  unfold listText
  cases ts with
  | nil => rfl
  | cons t ts =>
    show textFrom 1 (Str.ofString "[" ++ (if 0 > 0 then ", " else "" : String) ++ sv t) (ts.map sv) ++ Str.ofString "]" = _
    rw [if_neg (Nat.lt_irrefl 0), show (Str.ofString "[" : Str) = sv [91] from rfl, show (Str.ofString "" : Str) = sv [] from rfl, sv_app, sv_app, textFrom_sv, show (Str.ofString "]" : Str) = sv [93] from rfl, sv_app, joinS_flat]
    simp
theorem tupleText_sv {ts : List (List Nat)} : tupleText (ts.map sv) = sv (match ts with
    | [t] => 40 :: (t ++ [44, 41])
    | _ => 40 :: (joinS [44, 32] ts ++ [41])) := by
  unfold tupleText
  rw [show (Str.ofString ", " : Str) = sv [44, 32] from rfl, join_sv, show (Str.ofString "(" : Str) = sv [40] from rfl, List.length_map]
  match ts with
  | [] => rfl
  | [t] =>
    show sv [40] ++ sv t ++ Str.ofString ",)" = _
    rw [show (Str.ofString ",)" : Str) = sv [44, 41] from rfl, sv_app, sv_app]
    simp
  | a :: b :: r =>
    show sv [40] ++ sv (joinS [44, 32] (a :: b :: r)) ++ Str.ofString ")" = _
    rw [show (Str.ofString ")" : Str) = sv [41] from rfl, sv_app, sv_app]
    simp
mutual
theorem reprV_shown : ∀ {d : PV} {t : List Nat}, reprV d = some t → ∃ D, toD d = some D ∧ D.shown = sv t ∧ D.showable = true ∧ D.hasDict = false
  | .non, _, h => by cases h; exact ⟨_, rfl, by simp only [PyData.shown]; rfl, by simp only [PyData.showable], by simp only [PyData.hasDict]⟩
  | .bl true, _, h => by cases h; exact ⟨_, rfl, by simp only [PyData.shown]; rfl, by simp only [PyData.showable], by simp only [PyData.hasDict]⟩
  | .bl false, _, h => by cases h; exact ⟨_, rfl, by simp only [PyData.shown]; rfl, by simp only [PyData.showable], by simp only [PyData.hasDict]⟩
  | .int i, _, h => by
    have h : (match Nat.blt i.natAbs.log2 1920 with
      | true => some (strI i)
      | false => none) = some _ := h
    split at h
    · rename_i hb
      cases h
      exact ⟨_, rfl, by simp only [PyData.shown]; exact strI_sv i, by simp only [PyData.showable]; exact decide_eq_true (Nat.le_of_ble_eq_true hb), by simp only [PyData.hasDict]⟩
    · cases h
  | .str s, _, h => ⟨_, rfl, by simp only [PyData.shown]; exact reprS_sv h, by simp only [PyData.showable], by simp only [PyData.hasDict]⟩
  | .tup xs, t, h => by
    have h : (match reprL xs with
      | none => none
      | some ts => match ts with
        | [t] => some (40 :: (t ++ [44, 41]))
        | _ => some (40 :: (joinS [44, 32] ts ++ [41]))) = some t := h
    split at h
    · cases h
    · rename_i ts hr
      obtain ⟨Ds, e1, e2, e3, e4⟩ := reprL_shown hr
      refine ⟨.tuple Ds, by show (toDs xs).map _ = _; rw [e1]; rfl, ?_, by simp only [PyData.showable]; exact e3, by simp only [PyData.hasDict]; exact e4⟩
      simp only [PyData.shown]
      rw [e2, tupleText_sv]
      split at h <;> cases h
      · rfl
      · rfl
  | .lst xs, t, h => by
    have h : (match reprL xs with
      | none => none
      | some ts => some (91 :: (joinS [44, 32] ts ++ [93]))) = some t := h
    split at h
    · cases h
    · rename_i ts hr
      obtain ⟨Ds, e1, e2, e3, e4⟩ := reprL_shown hr
      cases h
      exact ⟨.list Ds, by show (toDs xs).map _ = _; rw [e1]; rfl, by simp only [PyData.shown]; rw [e2, listText_sv], by simp only [PyData.showable]; exact e3, by simp only [PyData.hasDict]; exact e4⟩
  | .dic _, _, h => by cases h
  | .loc _, _, h => by cases h
  | .fn _, _, h => by cases h
  | .cls _, _, h => by cases h
  | .clo _ _, _, h => by cases h
  | .exo _ _, _, h => by cases h
theorem reprL_shown : ∀ {xs : List PV} {ts : List (List Nat)}, reprL xs = some ts → ∃ Ds, toDs xs = some Ds ∧ PyData.shownAll Ds = ts.map sv ∧ PyData.showableAll Ds = true ∧ PyData.hasDictAll Ds = false
  | [], _, h => by cases h; exact ⟨[], rfl, by simp only [PyData.shownAll]; rfl, by simp only [PyData.showableAll], by simp only [PyData.hasDictAll]⟩
  | x :: xs, ts, h => by
    have h : (match reprV x with
      | none => none
      | some t => (reprL xs).map (t :: ·)) = some ts := h
    split at h
    · cases h
    · rename_i t hx
      cases hr : reprL xs with
      | none => rw [hr] at h; cases h
      | some us =>
        rw [hr] at h
        cases h
        obtain ⟨D, a1, a2, a3, a4⟩ := reprV_shown hx
        obtain ⟨Ds, b1, b2, b3, b4⟩ := reprL_shown hr
        refine ⟨D :: Ds, ?_, by simp only [PyData.shownAll]; rw [a2, b2]; rfl, by simp only [PyData.showableAll]; rw [a3, b3]; rfl, by simp only [PyData.hasDictAll]; rw [a4, b4]; rfl⟩
        show (match toD x with
          | none => none
          | some d => (toDs xs).map (d :: ·)) = _
        rw [a1, b1]; rfl
end
section
variable {S : Sta} {Wx : WP} {X : Cx} {α : Type} {prog : Prog} {o : Orc} {H : Hp} {ρ : List Addr} {M : Sto} {v : PV} {x : V} {hx : Option Exn}
theorem cr_reprV (hK : X.K = S.K) (hg : X.A.guards = some []) (hu : X.A.units + 64 < cLine) : CallR X (.builtin "repr") (rB S prog .repr) := by
  intro pins s σ H xs us Q I r ⟨ρ, M, ps, z, A, rp, e, q⟩
  have e : one (fun x => (snap M 62 x).bind reprO) ps = some z := e
  match ps, rp, e with
  | [p], rp, e =>
    obtain ⟨y, ws, rfl, ry, rfl⟩ := rp
    cases r with
    | @cons _ u _ us0 ru rr =>
      cases rr
      have e : (snap M 62 p).bind reprO = some z := e
      cases hs : snap M 62 p with
      | none => rw [hs] at e; cases e
      | some d =>
        rw [hs] at e
        have e : (match reprO.isSeq d && okD 60 d with
          | true => (reprV d).bind fun t => match Nat.ble t.length 16777216 with
            | true => some (.str t)
            | false => none
          | false => none) = some z := e
        split at e
        · rename_i hb
          rw [Bool.and_eq_true] at hb
          cases ht : reprV d with
          | none => rw [ht] at e; cases e
          | some t =>
            rw [ht] at e
            have e : (match Nat.ble t.length 16777216 with
              | true => some (PV.str t)
              | false => none) = some z := e
            split at e
            · rename_i hl
              cases e
              obtain ⟨D, e1, e2, e3, e4⟩ := reprV_shown ht
              obtain ⟨D', e1', _, e5⟩ := okD_toD hb.2
              rw [e1] at e1'; cases e1'
              have dp := snap_dp A 62 hs e1 ry
              obtain ⟨as, rd⟩ := Dp.reads I D y u (by rw [hK]; exact dp) ru
              have hu2 : ∃ a, u = .ref a := by
                cases d with
                | tup ys =>
                  cases hc : toDs ys with
                  | none =>
                    have : (toDs ys).map PyData.tuple = some D := e1
                    rw [hc] at this; cases this
                  | some Ds =>
                    have : (toDs ys).map PyData.tuple = some D := e1
                    rw [hc] at this; cases this
                    cases rd
                    exact ⟨_, rfl⟩
                | lst ys =>
                  cases hc : toDs ys with
                  | none =>
                    have : (toDs ys).map PyData.list = some D := e1
                    rw [hc] at this; cases this
                  | some Ds =>
                    have : (toDs ys).map PyData.list = some D := e1
                    rw [hc] at this; cases this
                    cases rd
                    exact ⟨_, rfl⟩
                | _ => cases hb.1
              obtain ⟨a, rfl⟩ := hu2
              refine repr_of_reads' rd e3 (fun z => by rw [e4] at z; cases z) hg (by omega) (fun _ _ e => e) (fun h' u tk hk => ?_) (by rw [e2, sv_len]; exact Nat.le_of_ble_eq_true hl)
              rw [e2]
              exact ⟨.str (sv t), H, Inv.kept I hk, ⟨u, rfl⟩, q ρ H _ Ext.refl A rfl⟩
            · cases e
        · cases e
end
end Pf
end
section
set_option Elab.async false
set_option linter.all false
set_option maxRecDepth 100000
set_option maxHeartbeats 1000000
namespace Pf
open PySem PySem.Spec PyProof.Rows L2
structure NextI (P : Program) (w : World) (K : W.Frag) (J : It) (fp : List Addr) (it : Addr) (tn : Nat → Heap → Prop) : Prop where
  mem : it ∈ fp
  obj : ∀ i h, tn i h → ∀ b ∈ fp, ∃ o, h.get? b = some o ∧ ∀ v, o.data ≠ .cell v
  keep : ∀ i h h', tn i h → (∀ b ∈ fp, ∀ o, h.get? b = some o → h'.get? b = some o) → tn i h'
  item : ∀ (X : Cx), X.prog = P → X.w = w → X.K = K → ∀ (A : Around), A.handled = none → ∀ (i : Nat) (pins : List (Addr × Obj)) (s : Shared) (σ : L2.St) (H : Hp) (E : Value → Shared → Prop) (Q : Option Value → Shared → Prop), L2.Inv X pins σ H s → (∀ b ∈ fp, FpOk X pins H b) → tn i s.heap → J.go i H →
    (∀ x u H' h' tk, L2.Inv X pins σ H' { s with heap := h', toks := tk } → RelV x u → J.yld i H x H' → tn (i + 1) h' → (∀ b, b < s.heap.objs.size → H b = none → H' b = none) → s.heap.objs.size ≤ h'.objs.size → (∀ b o, b ∉ fp → s.heap.get? b = some o → h'.get? b = some o) → Q (some u) { s with heap := h', toks := tk }) →
    wpAny (model P w) A (pyNext (.ref it)) Q E s
  done : ∀ (X : Cx), X.prog = P → X.w = w → X.K = K → ∀ (A : Around), A.handled = none → ∀ (i : Nat) (pins : List (Addr × Obj)) (s : Shared) (σ : L2.St) (H : Hp) (E : Value → Shared → Prop) (Q : Option Value → Shared → Prop), L2.Inv X pins σ H s → (∀ b ∈ fp, FpOk X pins H b) → tn i s.heap → J.stop i H →
    (∀ h' tk, L2.Inv X pins σ H { s with heap := h', toks := tk } → (∀ b o, b ∉ fp → s.heap.get? b = some o → h'.get? b = some o) → Q none { s with heap := h', toks := tk }) →
    wpAny (model P w) A (pyNext (.ref it)) Q E s
section
variable {P : Program} {w : World} {K : W.Frag} {J : It} {fp : List Addr} {k : Int} {e it : Addr} {tn : Nat → Heap → Prop}
theorem next_zip {st : Bool} {k1 k2 : Kd} {a b z TI TO i1 i2 : Addr} (S : ZipSep2 z TI TO i1 i2 [i1, a] [i2, b]) : NextI P w K (Itzq st k1 k2 K a b) [z, TI, TO, i1, i2] z (zipTn st k1 k2 a b z TI TO i1 i2) where
  mem := by simp
  obj := fun i h hst => zip_obj hst
  keep := fun i h h' hst k => zip_keep hst k
  item := by
    intro X hP hw hK A hh i pins s σ H E Q I hf hst hg hQ
    subst hP hw
    have hT : s.TypeIs (.ref z) "zip" := let ⟨⟨_, _, hz, _⟩, _⟩ := hst; ⟨_, hz, rfl⟩
    unfold pyNext
    refine wpAny_bind (wpAny_attempt (wpAny_callSpecial?_slot (name := Str.ofString "__next__") hT F.slot_zip_next (wpAny_call_entry F.slot_zip_next hT F.entry_zip_next
      (zipI_item (A := A.in1) S hK hh I hf hst hg fun x u H' h' tk a1 a2 a3 a4 a5 a6 a7 _ => ?_) (F.args_zip_next_1 _))))
    exact wpAny_pure (hQ x u H' h' tk a1 a2 a3 a4 a5 a6 a7)
  done := by
    intro X hP hw hK A hh i pins s σ H E Q I hf hst hg hE
    subst hP hw
    have hT : s.TypeIs (.ref z) "zip" := let ⟨⟨_, _, hz, _⟩, _⟩ := hst; ⟨_, hz, rfl⟩
    unfold pyNext
    refine wpAny_bind (wpAny_attempt (wpAny_callSpecial?_slot (name := Str.ofString "__next__") hT F.slot_zip_next (wpAny_call_entry F.slot_zip_next hT F.entry_zip_next
      (zipI_end (A := A.in1) S hK hh I hf hst hg fun e h' tk I1 hs kk => ?_) (F.args_zip_next_1 _))))
    exact stop_next hs (hE h' tk I1 kk)
theorem next_enum (D : DrawI P w K J fp it tn) (hef : e ∉ fp) : NextI P w K (Iten k J) (e :: fp) e (enumTn k e it fp tn) where
  mem := by simp
  obj := fun i h hst b hb => by
    obtain ⟨⟨f1, f0, old, he, _⟩, hst⟩ := hst
    rcases List.mem_cons.mp hb with q | q
    · rw [q]; exact ⟨_, he, fun v z => nomatch z⟩
    · exact D.obj i h hst b q
  keep := fun i h h' hst kp => by
    obtain ⟨⟨f1, f0, old, he, o⟩, hst⟩ := hst
    exact ⟨⟨f1, f0, old, kp e (by simp) _ he, o⟩, D.keep i h h' hst fun b hb o q => kp b (List.mem_cons_of_mem _ hb) o q⟩
  item := by
    intro X hP hw hK A hh i pins s σ H E Q I hf hst hg hQ
    have hT : s.TypeIs (.ref e) "enumerate" := let ⟨⟨_, _, _, he, _⟩, _⟩ := hst; ⟨_, he, rfl⟩
    unfold pyNext
    refine wpAny_bind (wpAny_attempt (wpAny_callSpecial?_slot (name := Str.ofString "__next__") hT F.slot_enumerate_next (wpAny_call_entry F.slot_enumerate_next hT F.entry_enumerate_next
      (enumI_item (A := A.in1) D hef hP hw hK hh I hf hst hg fun x u H' h' tk a1 a2 a3 a4 a5 a6 a7 => ?_) (F.args_enumerate_next_1 _))))
    exact wpAny_pure (hQ x u H' h' tk a1 a2 a3 a4 a5 a6 a7)
  done := by
    intro X hP hw hK A hh i pins s σ H E Q I hf hst hg hE
    have hT : s.TypeIs (.ref e) "enumerate" := let ⟨⟨_, _, _, he, _⟩, _⟩ := hst; ⟨_, he, rfl⟩
    unfold pyNext
    refine wpAny_bind (wpAny_attempt (wpAny_callSpecial?_slot (name := Str.ofString "__next__") hT F.slot_enumerate_next (wpAny_call_entry F.slot_enumerate_next hT F.entry_enumerate_next
      (enumI_end (A := A.in1) D hP hw hK hh I hf hst hg fun e' h' tk I1 hs kk => ?_) (F.args_enumerate_next_1 _))))
    exact stop_next hs (hE h' tk I1 kk)
end
end Pf
end
section
set_option Elab.async false
set_option linter.all false
set_option maxRecDepth 100000
set_option maxHeartbeats 1000000
namespace Pf
open PySem PySem.Spec PyProof.Rows L2
section
variable {S : Sta} {X : Cx} {H : Hp} {ρ : List Addr} {M : Sto}
theorem vals_push {vs : List V} {acc : Array Value} {x : V} {u : Value} (h : Vals vs acc.toList) (r : RelV x u) : Vals (vs ++ [x]) (acc.push u).toList := by
  rw [Array.toList_push]
  exact Paired.app h (.cons r .nil)
theorem repL_snoc {p : PV} {x : V} (r : Rep S H ρ p x) : ∀ {ps : List PV} {vs : List V}, RepL S H ρ ps vs → RepL S H ρ (ps ++ [p]) (vs ++ [x])
  | [], _, h => by subst h; exact ⟨x, [], rfl, r, rfl⟩
  | q :: ps, _, ⟨v, ws, e, rq, t⟩ => by subst e; exact ⟨v, ws ++ [x], rfl, rq, repL_snoc r t⟩
abbrev LOb (h : Heap) (L : Addr) (acc : Array Value) (c : Nat) : Prop := h.get? L = some { cls := .type "list", dict := none, data := .seq acc c, slots := #[] }
theorem FpOk.move {pins : List (Addr × Obj)} {H1 : Hp} {b : Addr} (f : FpOk X pins H b) (h : H b = none → H1 b = none) : FpOk X pins H1 b := ⟨h f.1, f.2⟩
theorem ext_loop {J : It} {fp : List Addr} {it L : Addr} {tn : Nat → Heap → Prop} {src : Src} {ρ0 : List Addr} {H0 : Hp} {A : Around} {res : Value} {R : Result → Shared → Prop} {pins : List (Addr × Obj)} {σ : L2.St} {s0 : Shared} {zs : List PV}
    (N : NextI X.prog X.w X.K J fp it tn) (hh : A.handled = none) (hw : Walks S J src ρ0 H0) (hL : L ∉ fp) (hlim : ∀ i H h tk, L2.Inv X pins σ H { s0 with heap := h, toks := tk } → J.go i H → i < sizeLine)
    (hR : zs.length ≤ sizeLine → ∀ H1 h' tk acc c vs, L2.Inv X pins σ H1 { s0 with heap := h', toks := tk } → FpOk X pins H1 L → LOb h' L acc c → Vals vs acc.toList → Ext ρ0 H0 ρ0 H1 → Abs S H1 ρ0 M → RepL S H1 ρ0 zs vs → R (.ok (.ret res)) { s0 with heap := h', toks := tk }) :
    ∀ (k i : Nat) (xs ys : List PV) (h : Heap) (tk c : Nat) (acc : Array Value) (H : Hp) (vs : List V), Src.all M src k i = some xs → ys.length = i → i ≤ sizeLine → zs = ys ++ xs → L2.Inv X pins σ H { s0 with heap := h, toks := tk } → (∀ b ∈ fp, FpOk X pins H b) → FpOk X pins H L → tn i h → LOb h L acc c →
      Vals vs acc.toList → Ext ρ0 H0 ρ0 H → Abs S H ρ0 M → RepL S H ρ0 ys vs → codeAny (model X.prog X.w) A (.builtin "list.extend.loop" ⟨[.ref L, .ref it, res], []⟩) R { s0 with heap := h, toks := tk } := by
  intro k
  induction k with
  | zero => intro i xs ys h tk c acc H vs e; cases e
  | succ k ih =>
    intro i xs ys h tk c acc H vs e ei hi ez I hf hfL hst hO rv x A0 r
    have e : (match src.at M i with
      | none => none
      | some none => some []
      | some (some x) => (Src.all M src k (i + 1)).map (x :: ·)) = some xs := e
    have W := hw S.hid ρ0 H M i (mv_ext x) x.frz A0
    have hsz : acc.size = ys.length := by rw [← Array.length_toList, ← Paired.length rv, ← r.len]
    refine codeAny_builtin PySem.F.entry_extend_loop ?_
    rw [Around.under_plainId PySem.F.plain_extend_loop _]
    show wpAny _ A.in1 (pyNext (.ref it) >>= _) _ _ _
    split at e
    · cases e
    · rename_i e1
      cases e
      have ez' : zs = ys := by rw [ez, List.append_nil]
      refine wpAny_bind (N.done X rfl rfl rfl A.in1 hh i pins { s0 with heap := h, toks := tk } σ H _ _ I hf hst (W.1 e1) fun h' tk' I1 kk => ?_)
      exact wpAny_pure (hR (by rw [ez', ei]; exact hi) H h' tk' acc c vs I1 hfL (kk L _ hL hO) rv x A0 (by rw [ez']; exact r))
    · rename_i y e1
      cases e2 : Src.all M src k (i + 1) with
      | none => rw [e2] at e; cases e
      | some xs' =>
        rw [e2] at e
        cases e
        obtain ⟨g, gy⟩ := W.2 y e1
        refine wpAny_bind (N.item X rfl rfl rfl A.in1 hh i pins { s0 with heap := h, toks := tk } σ H _ _ I hf hst g fun v u H1 h1 tk1 I1 ru hy hst1 nn hle kk => ?_)
        obtain ⟨x1, A1, ry⟩ := gy v H1 hy
        have hO1 : LOb h1 L acc c := kk L _ hL hO
        have hlen : ys.length + 1 ≤ sizeLine := by rw [ei]; exact hlim i H h tk I g
        show wpAny _ A.in1 (updateSeq L (·.push u) >>= _) _ _ _
        refine wpAny_bind ?_
        have up : ∀ b o, b ≠ L → h1.get? b = some o → (h1.update L (Obj.mapSeq (·.push u))).get? b = some o := fun b o hb e => (Heap.get?_update_other _ _ (Ne.symm hb)).trans e
        have fl1 : FpOk X pins H1 L := FpOk.move hfL fun n => nn L (Heap.lt_size hO) n
        have ff1 : ∀ b ∈ fp, FpOk X pins H1 b := fun b hb => FpOk.move (hf b hb) fun n => by
          obtain ⟨o, ho, _⟩ := N.obj i h hst b hb
          exact nn b (Heap.lt_size ho) n
        have I2 : L2.Inv X pins σ H1 { s0 with heap := h1.update L (Obj.mapSeq (·.push u)), toks := tk1 } := Inv.turned (s := { s0 with heap := h1, toks := tk1 }) (t' := tk1) I1 up fl1.1 fl1.2.1 fl1.2.2.2.1 fl1.2.2.2.2.1 fl1.2.2.2.2.2
        refine wpAny_updateSeq hO1 rfl (wpAny_pure ⟨plainId_quiet PySem.F.plain_extend_loop _, ih (i + 1) xs' (ys ++ [y]) _ tk1 _ (acc.push u) H1 (vs ++ [v]) e2 (by rw [List.length_append, ei]; rfl) (by rw [← ei]; exact hlen) (by rw [ez]; simp) I2 ff1 fl1
          (N.keep _ _ _ hst1 fun b hb o ho => up b o (fun z => hL (z ▸ hb)) ho) (Heap.get?_update_self _ hO1 rfl) (vals_push rv ru) (x.trans x1) A1 (repL_snoc ry (RepL.ext x1 ys r))⟩) (by rw [hsz]; omega) (by show (acc.push u).size ≤ sizeLine + 1; rw [Array.size_push, hsz]; omega)
end
end Pf
end
section
set_option Elab.async false
set_option linter.all false
set_option maxRecDepth 100000
set_option maxHeartbeats 1000000
namespace Pf
open PySem PySem.Spec PyProof.Rows L2
theorem nolen_zip : typeLookup (.type "zip") (Str.ofString "__len__") = pure none := by rw [typeLookup_type, builtinLookup_eq_fast]; kernel_rfl
theorem nohint_zip : typeLookup (.type "zip") (Str.ofString "__length_hint__") = pure none := by rw [typeLookup_type, builtinLookup_eq_fast]; kernel_rfl
section
variable {prog : Program} {w : World} {A : Around} {E : Value → Shared → Prop} {s : Shared} {z : Addr}
theorem hint_zip (hT : s.TypeIs (.ref z) "zip") {Q : Bool → Shared → Prop} (h : Q true s) : wpAny (model prog w) A (Builtin.List.listLengthHint (.ref z)) Q E s := by
  unfold Builtin.List.listLengthHint
  refine wpAny_bind (wpAny_specialOf hT nolen_zip ?_)
  refine wpAny_bind (wpAny_specialOf hT nohint_zip ?_)
  exact wpAny_pure h
end
section
variable {S : Sta} {Wx : WP} {X : Cx} {prog : Prog} {o : Orc} {H : Hp} {ρ : List Addr} {M : Sto}
theorem kept_two {h : Heap} {L : Addr} {f g : Array Value → Array Value} {acc : Array Value} {c : Nat} (hO : LOb h L acc c) : (∀ b o, b ≠ L → h.get? b = some o → ((h.update L (Obj.mapSeq f)).update L (Obj.mapSeq g)).get? b = some o) :=
  fun b o hb e => (Heap.get?_update_other _ _ (Ne.symm hb)).trans ((Heap.get?_update_other _ _ (Ne.symm hb)).trans e)
theorem ext_zip {st : Bool} {k1 k2 : Kd} {a b z TI TO i1 i2 L : Addr} {src : Src} {A : Around} {R : Result → Shared → Prop} {res : Value} {pins : List (Addr × Obj)} {σ : L2.St} {s : Shared} {zs : List PV} {n c : Nat}
    (SZ : ZipSep2 z TI TO i1 i2 [i1, a] [i2, b]) (hh : A.handled = none) (hw : Walks S (Itzq st k1 k2 X.K a b) src ρ H) (e : Src.all M src n 0 = some zs) (I : L2.Inv X pins σ H s) (hf : ∀ b ∈ [z, TI, TO, i1, i2], FpOk X pins H b) (hfL : FpOk X pins H L) (hL : L ∉ [z, TI, TO, i1, i2])
    (hst : zipTn st k1 k2 a b z TI TO i1 i2 0 s.heap) (hO : LOb s.heap L #[] c) (A0 : Abs S H ρ M)
    (hR : zs.length ≤ sizeLine → ∀ H1 h' tk acc c vs, L2.Inv X pins σ H1 { s with heap := h', toks := tk } → FpOk X pins H1 L → LOb h' L acc c → Vals vs acc.toList → Ext ρ H ρ H1 → Abs S H1 ρ M → RepL S H1 ρ zs vs → R (.ok (.ret res)) { s with heap := h', toks := tk }) :
    wpAny (model X.prog X.w) A.in1 (Builtin.List.listExtendWith (.ref L) (.ref z) res)
      (fun fin s' => match fin with | .done f => R (.ok f) s' | .again c' => c'.quiet = true ∧ codeAny (model X.prog X.w) A c' R s') (fun e s' => R (.error e) s') s := by
  have hT : s.TypeIs (.ref z) "zip" := let ⟨⟨_, _, hz, _⟩, _⟩ := hst; ⟨_, hz, rfl⟩
  have hLz : L ≠ z := fun e => hL (by rw [e]; exact List.mem_cons_self)
  unfold Builtin.List.listExtendWith
  refine wpAny_bind (wpAny_typeOf (T := "zip") hT ?_)
  have h1 : Builtin.List.listSameRef (.ref L) (.ref z) = false := by simp [Builtin.List.listSameRef, hLz]
  have h2 : (Value.type "zip" == Value.type "list") = false := by decide
  have h3 : (Value.type "zip" == Value.type "tuple") = false := by decide
  simp only [h1, h2, h3, Bool.or_false, Bool.false_eq_true, if_false]
  refine wpAny_bind ((turn_zipq (P := X.prog) (w := X.w) (K := X.K) (tg := .Name (Str.ofString "x") ⟨0, 0, 0, 0⟩) SZ).self A.in1 0 s _ _ hst ?_)
  refine wpAny_bind (wpAny_holding (hint_zip hT ?_))
  simp only [Bool.true_or, if_true]
  refine wpAny_bind (wpAny_rule ?_)
  refine wpAny_bind ?_
  show wpAny _ _ (updateSeq L (·.push .none) >>= fun _ => updateSeq L (·.pop)) _ _ _
  refine wpAny_bind (wpAny_updateSeq hO rfl ?_)
  have hS₂ := Heap.get?_update_self (Obj.mapSeq (·.push Value.none)) hO rfl
  refine wpAny_updateSeq (hz := by seq_fits) hS₂ rfl ?_
  have hS₃ := Heap.get?_update_self (Obj.mapSeq (·.pop)) hS₂ rfl
  have kp := kept_two (f := (·.push Value.none)) (g := (·.pop)) hO
  have I2 := Inv.turned (t' := s.toks) I kp hfL.1 hfL.2.1 hfL.2.2.2.1 hfL.2.2.2.2.1 hfL.2.2.2.2.2
  refine wpAny_pure ⟨plainId_quiet PySem.F.plain_extend_loop _, ext_loop (s0 := s) (next_zip SZ) hh hw hL (fun i H h tk I g => ?_) hR n 0 zs [] _ s.toks _ _ H [] e rfl (Nat.zero_le _) rfl I2 hf hfL (zip_keep hst fun b hb o ho => kp b o (fun z => hL (z ▸ hb)) ho) hS₃ .nil Ext.refl A0 rfl⟩
  obtain ⟨vs, ws, x, y, q1, q2, e1, e2⟩ := g
  exact Nat.lt_of_lt_of_le (List.getElem?_eq_some_iff.mp e1).1 (k1.lim I q1)
end
end Pf
end
section
set_option Elab.async false
set_option linter.all false
set_option maxRecDepth 100000
set_option maxHeartbeats 1000000
namespace Pf
open PySem PySem.Spec PyProof.Rows L2
section
variable {S : Sta} {Wx : WP} {X : Cx} {prog : Prog} {o : Orc} {H : Hp} {ρ : List Addr} {M : Sto}
theorem call_list_zip {st : Bool} {k1 k2 : Kd} {a b z TI TO i1 i2 : Addr} {src : Src} {A : Around} {pins : List (Addr × Obj)} {σ : L2.St} {s : Shared} {zs : List PV} {n : Nat} {E Q : Value → Shared → Prop}
    (SZ : ZipSep2 z TI TO i1 i2 [i1, a] [i2, b]) (hh : A.handled = none) (hw : Walks S (Itzq st k1 k2 X.K a b) src ρ H) (e : Src.all M src n 0 = some zs) (I : L2.Inv X pins σ H s) (hf : ∀ b ∈ [z, TI, TO, i1, i2], FpOk X pins H b)
    (hst : zipTn st k1 k2 a b z TI TO i1 i2 0 s.heap) (A0 : Abs S H ρ M)
    (hQ : ∀ L H1 s' vs, L2.Inv X pins σ (upd H1 L (.lst vs)) s' → H1 L = none → Ext ρ H ρ H1 → Abs S H1 ρ M → RepL S H1 ρ zs vs → Q (.ref L) s') :
    wpAny (model X.prog X.w) A (call (.type "list") [.ref z]) Q E s := by
  have hT : s.TypeIs (.ref z) "zip" := let ⟨⟨_, _, hz, _⟩, _⟩ := hst; ⟨_, hz, rfl⟩
  have hob : ∀ b ∈ [z, TI, TO, i1, i2], b < s.heap.objs.size := fun b hb => by
    obtain ⟨o, ho, _⟩ := zip_obj hst b hb
    exact Heap.lt_size ho
  have nL : s.heap.objs.size ∉ [z, TI, TO, i1, i2] := fun m => Nat.lt_irrefl _ (hob _ m)
  refine callType_codes (Q₁ := fun obj s₁ => obj = .ref s.heap.objs.size ∧ s₁ = { s with heap := s.heap.push { cls := .type "list", data := .seq #[] } }) PySem.F.called_list (PySem.F.typeCall_list_1 _) PySem.F.entry_list_init
    (code_list_new _ ⟨rfl, rfl⟩) fun obj s₁ h₁ => ?_
  obtain ⟨rfl, rfl⟩ := h₁
  have hS : (s.heap.push { cls := .type "list", data := .seq #[] }).get? s.heap.objs.size = some { cls := .type "list", data := .seq #[] } := Heap.get?_push_size _ rfl
  refine ⟨⟨_, hS, rfl⟩, PySem.F.args_list_init_2 _ _, ?_⟩
  have fL : FpOk X pins H s.heap.objs.size := Inv.fpOk I (Nat.le_refl _) (HOk.fresh I.hok (Nat.le_refl _))
  have I1 : L2.Inv X pins σ H { s with heap := s.heap.push { cls := .type "list", data := .seq #[] } } := Inv.kept I (t' := s.toks) fun b u e => Heap.get?_push_of_some _ e
  show wpAny _ _ (do let old ← Builtin.List.listItems (.ref s.heap.objs.size); Builtin.List.listUpdate (.ref s.heap.objs.size) (fun _ => #[]); letGo old.toList.reverse; Builtin.List.listExtendWith (.ref s.heap.objs.size) (.ref z) .none) _ _ _
  refine wpAny_bind ?_
  unfold Builtin.List.listItems
  refine wpAny_bind (wpAny_seqItems hS rfl (wpAny_pure ?_))
  show wpAny _ _ (updateSeq s.heap.objs.size (fun _ => #[]) >>= fun _ => letGo (#[] : Array Value).toList.reverse >>= fun _ => Builtin.List.listExtendWith (.ref s.heap.objs.size) (.ref z) .none) _ _ _
  refine wpAny_bind (wpAny_updateSeq hS rfl ?_)
  have hS₂ := Heap.get?_update_self (Obj.mapSeq (fun _ => (#[] : Array Value))) hS rfl
  have oth : ∀ b o, b ≠ s.heap.objs.size → s.heap.get? b = some o → ((s.heap.push { cls := .type "list", data := .seq #[] }).update s.heap.objs.size (Obj.mapSeq (fun _ => (#[] : Array Value)))).get? b = some o :=
    fun b o hb e => (Heap.get?_update_other _ _ (Ne.symm hb)).trans (Heap.get?_push_of_some _ e)
  have I2 := Inv.turned (t' := s.toks) (h' := (s.heap.push { cls := .type "list", data := .seq #[] }).update s.heap.objs.size (Obj.mapSeq (fun _ => (#[] : Array Value)))) I1 (fun b o hb e => (Heap.get?_update_other _ _ (Ne.symm hb)).trans e) fL.1 fL.2.1 fL.2.2.2.1 fL.2.2.2.2.1 fL.2.2.2.2.2
  refine wpAny_bind (wpAny_letGo ?_)
  refine ext_zip SZ hh hw e I2 hf fL nL (zip_keep hst fun b hb o ho => oth b o (fun q => nL (by rw [← q]; exact hb)) ho) hS₂ A0 fun hz H1 h' tk acc c vs J1 f1 hO rv x1 A1 r1 => ?_
  have hsz : vs.length ≤ sizeLine := by rw [← r1.len]; exact hz
  exact ⟨rfl, hQ _ H1 { s with heap := h', toks := tk } vs (Inv.take (s := { s with heap := h', toks := tk }) (t' := tk) (h' := h') (o := .lst vs) J1 (fun b ob _ e => e) f1 ⟨hsz, acc.toList, c, rv, by rw [Array.toArray_toList]; exact hO⟩) f1.1 x1 A1 r1⟩
end
end Pf
end
section
set_option Elab.async false
set_option linter.all false
set_option maxRecDepth 100000
set_option maxHeartbeats 1000000
namespace Pf
open PySem PySem.Spec PyProof.Rows L2
section
variable {S : Sta} {Wx : WP} {X : Cx} {prog : Prog} {o : Orc} {H : Hp} {ρ : List Addr} {M : Sto}
theorem s_listzips (hK : X.K = S.K) (hc : X.calm = true) {e : PySem.Expr} {es : List PySem.Expr} {cs : CL} {j : Nat} {p pos kp cp p2 pos2 : Pos} (hg : Gl X ("zip" : Str)) (hm : X.mg ("zip" : Str) = none) (hg2 : Gl X ("list" : Str)) (hm2 : X.mg ("list" : Str) = none)
    (h : PA X (e :: es) (tA S Wx fun env => evL prog o env cs)) (hn : noStar (e :: es) = true) :
    PE X (.Call (.Name (Str.ofString "list") p2) [.Call (.Name (Str.ofString "zip") p) (e :: es) [⟨some (Str.ofString "strict"), .Constant (.bool true) j cp, kp⟩] pos] [] pos2) (tE S Wx fun env => evE prog o env (.bis .list (.zip true cs))) :=
  ⟨fun pins s σ H Q I ⟨ρ, M, env, A, E, P⟩ => by
    have kk : L2.PK X [⟨some (Str.ofString "strict"), PySem.Expr.Constant (.bool true) j cp, kp⟩] (tCons (tC (.bl true)) tNil) := pk_cons pe_bl pk_nil
    have P : Post S ρ H (((evL prog o env cs M).bind (zipR true)).bind fun sv M => match Src.all M sv (sv.len M + 1) 0 with
      | none => .no "walk of things"
      | some xs => biR prog .list [.lst xs] M) _ _ := P
    refine Call_ (ld_blt I hg2 hm2 (by first | exact PyProof.Rows.boot_list | exact boot_list) (PyProof.Rows.callWith_type1 (e := .Call (.Name (Str.ofString "zip") p) (e :: es) [⟨some (Str.ofString "strict"), .Constant (.bool true) j cp, kp⟩] pos) (rest := []) ?_ (by rfl) (by rfl)))
    refine Calls.spliced_cons ?_
    refine wpAny_Call_Name_kw (ld_blt I hg hm PyProof.Rows.boot_zip (callWith_typeKw (by rfl) (thn (h.run pos pins s σ H _ I (tA_seq (d := fun env => evL prog o env cs) (k := zipR true) A E P.bind)) fun us s1 ⟨vs, H1, I1, rv, xs, M1, ρ1, A1, E1, x1, r1, P1⟩ => ?_) (by rw [star_any hn]; rfl) (star_of hn)))
    refine thn (kk.run pos pins s1 σ H1 (fun zs H2 => zs = [.bl true] ∧ H2 = H1) I1 ⟨rfl, rfl⟩) fun ws s2 ⟨zs, H2, I2, rz, e1, e2⟩ => ?_
    subst e1
    subst e2
    cases rz with
    | @cons _ u _ us0 ru rr =>
      cases rr
      cases ru
      obtain ⟨a, b, k1, k2, vs1, vs2, rfl, q1, q2, q⟩ := zip_args (R := fun J H' => ∃ src ρ' M', Walks S J src ρ' H' ∧ Abs S H' ρ' M' ∧ Post S ρ' H' (match Src.all M' src (src.len M' + 1) 0 with
        | none => .no "walk of things"
        | some xs => biR prog .list [.lst xs] M') (fun v M'' ρ'' H'' => ∀ x, Rep S H'' ρ'' v x → Q x H'') (Wx σ)) hK A1 rv r1 (P1.imp (fun src M' ρ' H' _ x' A' q J hJ => ⟨src, ρ', M', hJ, A', q⟩) fun _ _ _ _ _ _ q => q)
      obtain ⟨src, ρ', M', hJ, A', P'⟩ := q
      refine zip_new (st := true) I2 q1 q2 fun h' hk hz SZ tn hsz => ?_
      refine Calls.spliced_nil ?_
      have I3 : L2.Inv X pins σ _ { s2 with heap := h' } := Inv.kept I2 (t' := s2.toks) hk
      cases ea : Src.all M' src (src.len M' + 1) 0 with
      | none => rw [ea] at P'; exact P'.elim
      | some zs =>
        rw [ea] at P'
        refine call_list_zip SZ (I2.ok.hd hc) hJ ea I3 (zip_fp I2) tn A' fun L H1 s' vs J1 hn1 x1 A1' rr => ?_
        have P2 := (show Post S ρ' _ (Rs.ok (PV.lst zs) M') _ _ from P') ρ' (upd H1 L (.lst vs)) (x1.trans (ext_new hn1)) (abs_new A1' hn1)
        exact ⟨.ref L, upd H1 L (.lst vs), J1, rfl, P2 _ (rep_lst A1' hn1 rr)⟩⟩
end
end Pf
end
section
set_option Elab.async false
set_option linter.all false
set_option maxRecDepth 100000
set_option maxHeartbeats 1000000
namespace Pf
open PySem PySem.Spec PyProof.Rows L2
theorem foldl_max_spec : ∀ (ns : List Int) (n : Int), ns.foldl max n ∈ n :: ns ∧ ∀ y ∈ n :: ns, y ≤ ns.foldl max n
  | [], n => ⟨List.mem_cons_self, fun y h => by rw [List.mem_singleton.mp h]; exact Int.le_refl _⟩
  | m :: ns, n => by
    obtain ⟨h1, h2⟩ := foldl_max_spec ns (max n m)
    show ns.foldl max (max n m) ∈ _ ∧ ∀ y ∈ n :: m :: ns, y ≤ ns.foldl max (max n m)
    have h3 := h2 _ List.mem_cons_self
    refine ⟨?_, fun y hy => ?_⟩
    · rcases List.mem_cons.mp h1 with e | e
      · rw [e]
        rcases Int.le_total n m with q | q
        · rw [Int.max_eq_right q]; simp
        · rw [Int.max_eq_left q]; simp
      · exact List.mem_cons_of_mem _ (List.mem_cons_of_mem _ e)
    · rcases List.mem_cons.mp hy with e | e
      · rw [e]; omega
      · rcases List.mem_cons.mp e with e | e
        · rw [e]; omega
        · exact h2 y (List.mem_cons_of_mem _ e)
theorem foldl_min_spec : ∀ (ns : List Int) (n : Int), ns.foldl min n ∈ n :: ns ∧ ∀ y ∈ n :: ns, ns.foldl min n ≤ y
  | [], n => ⟨List.mem_cons_self, fun y h => by rw [List.mem_singleton.mp h]; exact Int.le_refl _⟩
  | m :: ns, n => by
    obtain ⟨h1, h2⟩ := foldl_min_spec ns (min n m)
    show ns.foldl min (min n m) ∈ _ ∧ ∀ y ∈ n :: m :: ns, ns.foldl min (min n m) ≤ y
    have h3 := h2 _ List.mem_cons_self
    refine ⟨?_, fun y hy => ?_⟩
    · rcases List.mem_cons.mp h1 with e | e
      · rw [e]
        rcases Int.le_total n m with q | q
        · rw [Int.min_eq_left q]; simp
        · rw [Int.min_eq_right q]; simp
      · exact List.mem_cons_of_mem _ (List.mem_cons_of_mem _ e)
    · rcases List.mem_cons.mp hy with e | e
      · rw [e]; omega
      · rcases List.mem_cons.mp e with e | e
        · rw [e]; omega
        · exact h2 y (List.mem_cons_of_mem _ e)
section
variable {S : Sta} {Wx : WP} {X : Cx} {prog : Prog} {o : Orc} {H : Hp} {ρ : List Addr} {M : Sto}
theorem intsRep_vs : ∀ {ns : List Int} {vs : List V}, RepL S H ρ (ns.map PV.int) vs → vs = ns.map V.int
  | [], _, h => h
  | n :: ns, _, ⟨v, ws, e, r, t⟩ => by
    subst e
    rw [intsRep_vs t, show v = V.int n from r]; rfl
theorem cr_maxV (hK : X.K = S.K) (hc : X.calm = true) : CallR X (.builtin "max") (rB S prog .maxL) := by
  refine cr_one (cr_max hc) (fun _ _ => rfl) fun {H ρ M a x z Q} A r1 e q => ?_
  obtain ⟨ys, e1, e2⟩ := Option.bind_eq_some_iff.mp e
  obtain ⟨ns, e3, e4⟩ := Option.bind_eq_some_iff.mp e2
  obtain ⟨p, vs, rfl, t, r⟩ := d_lst A r1 (listOf_some e1)
  cases ints_map e3
  cases ns with
  | nil => cases e4
  | cons n ns =>
    cases e4
    have ev := intsRep_vs r
    subst ev
    refine ⟨p, n :: ns, rfl, by rw [hK]; exact t, Nat.zero_lt_succ _, fun m h1 h2 => ?_⟩
    obtain ⟨k1, k2⟩ := foldl_max_spec ns n
    have : m = ns.foldl max n := Int.le_antisymm (k2 m h1) (h2 _ k1)
    subst this
    exact q ρ H _ Ext.refl A rfl
theorem cr_minV (hK : X.K = S.K) (hc : X.calm = true) : CallR X (.builtin "min") (rB S prog .minL) := by
  refine cr_one (cr_min hc) (fun _ _ => rfl) fun {H ρ M a x z Q} A r1 e q => ?_
  obtain ⟨ys, e1, e2⟩ := Option.bind_eq_some_iff.mp e
  obtain ⟨ns, e3, e4⟩ := Option.bind_eq_some_iff.mp e2
  obtain ⟨p, vs, rfl, t, r⟩ := d_lst A r1 (listOf_some e1)
  cases ints_map e3
  cases ns with
  | nil => cases e4
  | cons n ns =>
    cases e4
    have ev := intsRep_vs r
    subst ev
    refine ⟨p, n :: ns, rfl, by rw [hK]; exact t, Nat.zero_lt_succ _, fun m h1 h2 => ?_⟩
    obtain ⟨k1, k2⟩ := foldl_min_spec ns n
    have : m = ns.foldl min n := Int.le_antisymm (h2 _ k1) (k2 m h1)
    subst this
    exact q ρ H _ Ext.refl A rfl
theorem reads_ints {h : Heap} : ∀ {ns : List Int} {us : List Value}, Vals (ns.map V.int) us → ∃ as, ReadsAll h us (ns.map PyData.int) as
  | [], _, r => by cases r; exact ⟨_, .nil⟩
  | n :: ns, _, r => by
    cases r with
    | cons a b =>
      obtain ⟨t, rfl⟩ := a
      obtain ⟨as, q⟩ := reads_ints b
      exact ⟨_, .cons (.int n t) q⟩
theorem alike_ints (ns : List Int) : PySem.W.AlikeAll (ns.map PyData.int) := by
  refine ⟨fun x hx y hy => ?_, fun x hx => ?_⟩
  · obtain ⟨i, _, rfl⟩ := List.mem_map.mp hx
    obtain ⟨j, _, rfl⟩ := List.mem_map.mp hy
    rfl
  · obtain ⟨i, _, rfl⟩ := List.mem_map.mp hx
    exact fun z => by cases z
theorem depth_ints : ∀ ns : List Int, PyData.depthAll (ns.map PyData.int) = 0
  | [] => rfl
  | n :: ns => by
    show max 0 (PyData.depthAll (ns.map PyData.int)) = 0
    rw [depth_ints ns]; rfl
end
end Pf
end
section
set_option Elab.async false
set_option linter.all false
set_option maxRecDepth 100000
set_option maxHeartbeats 1000000
namespace Pf
open PySem PySem.Spec PyProof.Rows L2
section
variable {S : Sta} {Wx : WP} {X : Cx} {prog : Prog} {o : Orc} {H : Hp} {ρ : List Addr} {M : Sto}
theorem repL2 {a b : PV} {vs : List V} (r : RepL S H ρ [a, b] vs) : ∃ x y, vs = [x, y] ∧ Rep S H ρ a x ∧ Rep S H ρ b y := by
  obtain ⟨x, _, rfl, r1, y, _, rfl, r2, rfl⟩ := r
  exact ⟨x, y, rfl, r1, r2⟩
def rBK (S : Sta) (prog : Prog) (b : BI) : List V → List V → Hp → VK → Prop := fun xs zs H Q => xs.length = 1 ∧ rB S prog b (xs ++ zs) H Q
theorem maxD_come {h : Heap} {ys : List Int} {y : Int} {v : Value} {as : List Addr} (r : Reads h v (PySem.W.maxD (.int y) (ys.map .int)) as) : ∃ t, v = .int (ys.foldl max y) t := by
  rw [PySem.W.maxD_ints] at r
  cases r with
  | int _ t => exact ⟨t, rfl⟩
theorem cr_maxDV (hK : X.K = S.K) (hc : X.calm = true) (hu : X.A.units + 1 < cLine) : CallRK X (.builtin "max") [Str.ofString "default"] (rBK S prog .maxD) := by
  intro pins s σ H xs zs us ws Q I rx rz ⟨hl, ρ, M, ps, z, A, r, e, q⟩
  have e : two (fun x d => (listOf (deref M x)).bind (maxD d maxV)) ps = some z := e
  unfold two at e
  split at e
  · rename_i a b
    obtain ⟨x, y, e0, r1, r2⟩ := repL2 r
    cases xs with
    | nil => cases hl
    | cons x0 xs =>
      cases xs with
      | cons _ _ => cases hl
      | nil =>
        cases e0
        obtain ⟨ys, e1, e2⟩ := Option.bind_eq_some_iff.mp e
        obtain ⟨p, vs, rfl, t, rr⟩ := d_lst A r1 (listOf_some e1)
        rw [Vals.ref1 rx]
        cases rz with
        | @cons _ u _ us0 ru rru =>
          cases rru
          obtain ⟨its, rv, hpl, _⟩ := Inv.list I (show SqL X.K H p vs by rw [hK]; exact t)
          cases ys with
          | nil =>
            cases e2
            cases rr
            cases rv
            refine PySem.W.max_list_default (xs := []) (as := []) (I.ok.hd hc) hpl.isList .nil (alike_ints []) (by show X.A.units + 1 + 0 < cLine; exact hu) (fun _ h' tk hk => ?_) (fun y ys i v h' tk bs e => by cases e)
            exact ⟨y, H, I.kept hk, ru, q ρ H _ Ext.refl A r2⟩
          | cons w ys =>
            have e2 : maxV (w :: ys) = some z := e2
            obtain ⟨ns, e3, e4⟩ := Option.bind_eq_some_iff.mp e2
            have em := ints_map e3
            rw [em] at rr
            have ev := intsRep_vs rr
            subst ev
            cases ns with
            | nil => cases em
            | cons n ns =>
              cases e4
              obtain ⟨as, ra⟩ := reads_ints (h := s.heap) rv
              refine PySem.W.max_list_default (xs := (n :: ns).map .int) (I.ok.hd hc) hpl.isList (by rw [List.toList_toArray]; exact ra) (alike_ints (n :: ns)) (by rw [depth_ints]; exact hu) (fun z => by cases z) (fun y ys i v h' tk bs e _ rd hk => ?_)
              cases e
              obtain ⟨t, rfl⟩ := maxD_come rd
              exact ⟨.int (ns.foldl max n), H, I.kept hk, ⟨t, rfl⟩, q ρ H _ Ext.refl A rfl⟩
  · cases e
theorem s_maxD (hK : X.K = S.K) (hc : X.calm = true) (hu : X.A.units + 1 < cLine) {e d : PySem.Expr} {c cd : CE} {p pos kp : Pos} (hg : Gl X ("max" : Str)) (hm : X.mg ("max" : Str) = none) (h : PE X e (tE S Wx fun env => evE prog o env c)) (hd : PE X d (tE S Wx fun env => evE prog o env cd)) (hn : noStar [e] = true) :
    PE X (.Call (.Name (Str.ofString "max") p) [e] [⟨some (Str.ofString "default"), d, kp⟩] pos) (tE S Wx fun env => evE prog o env (.bi .maxD (.cons c (.cons cd .nil)))) := by
  refine PE.imp (pe_callBK (cr_maxDV (prog := prog) hK hc hu) hg hm (by rfl) (s_cons h s_nil (star_of hn)) (s_kcons hd s_knil) (he := by rw [star_of hn]; rfl) (hpl := star_any hn)) fun σ H Q ⟨ρ, M, env, A, E, P⟩ => ?_
  have P : Post S ρ H ((evL prog o env ((CL.cons c .nil).app (.cons cd .nil)) M).bind fun vs M => biR prog .maxD vs M) _ _ := P
  rw [evL_app] at P
  have P : Post S ρ H ((evL prog o env (CL.cons c .nil) M).bind fun xs M => ((evL prog o env (.cons cd .nil) M).bind fun ys M => Rs.ok (xs ++ ys) M).bind fun vs M => biR prog .maxD vs M) (fun v _ ρ' H' => ∀ x, Rep S H' ρ' v x → Q x H') (Wx σ) := by
    revert P
    cases evL prog o env (CL.cons c .nil) M <;> exact fun P => P
  refine tA_mono (tA_seqE (d := fun env => evL prog o env (CL.cons c .nil)) A E P) fun xs H1 ⟨vs, M1, ρ1, eq, A1, E1, x1, r1, P1⟩ => ?_
  have P1 : Post S ρ1 H1 ((evL prog o env (.cons cd .nil) M1).bind fun ys M => biR prog .maxD (vs ++ ys) M) (fun v _ ρ' H' => ∀ x, Rep S H' ρ' v x → Q x H') (Wx σ) := by
    revert P1
    cases evL prog o env (CL.cons cd .nil) M1 <;> exact fun P => P
  refine tA_mono (tA_seq (d := fun env => evL prog o env (CL.cons cd .nil)) A1 E1 P1) fun ys H2 ⟨ws, M2, ρ2, A2, E2, x2, r2, P2⟩ => ?_
  obtain ⟨z, ez, q⟩ := Post.ofO (show Post S ρ2 H2 (ofO "builtin" (biO prog .maxD (vs ++ ws) M2) M2) _ _ from P2)
  exact ⟨by rw [← r1.len, evL_len eq]; rfl, ρ2, M2, vs ++ ws, z, A2, RepL.app (RepL.ext x2 vs r1) r2, ez, fun ρ' H' x x2 A2 r2 => q ρ' H' x2 A2 x r2⟩
end
end Pf
end
section
set_option Elab.async false
set_option linter.all false
set_option maxRecDepth 100000
set_option maxHeartbeats 1000000
namespace Pf
open PySem PySem.Spec PyProof.Rows L2
section
variable {α : Type} {le : α → α → Bool}
theorem insK_app {a : α} {l₂ : List α} (h2 : ∀ b ∈ l₂, le a b = true) : ∀ {l₁ : List α}, (∀ b ∈ l₁, le a b = false) → insK le a (l₁ ++ l₂) = l₁ ++ a :: l₂
  | [], _ => by
    cases l₂ with
    | nil => rfl
    | cons b l =>
      show (match le a b with
        | true => a :: b :: l
        | false => b :: insK le a l) = a :: b :: l
      rw [h2 b List.mem_cons_self]
  | b :: l₁, h => by
    show (match le a b with
      | true => a :: b :: (l₁ ++ l₂)
      | false => b :: insK le a (l₁ ++ l₂)) = b :: (l₁ ++ a :: l₂)
    rw [h b List.mem_cons_self, insK_app h2 fun c hc => h c (List.mem_cons_of_mem _ hc)]
theorem sortK_ms (tr : ∀ a b c, le a b = true → le b c = true → le a c = true) (tot : ∀ a b, (le a b || le b a) = true) : ∀ l : List α, sortK le l = l.mergeSort le
  | [] => by simp [sortK]
  | a :: l => by
    obtain ⟨l₁, l₂, e1, e2, e3⟩ := List.mergeSort_cons tr tot a l
    have hs := List.pairwise_mergeSort tr tot (a :: l)
    rw [e1, List.pairwise_append, List.pairwise_cons] at hs
    show insK le a (sortK le l) = _
    rw [sortK_ms tr tot l, e2, e1]
    exact insK_app (fun b hb => hs.2.1.1 b hb) fun b hb => by simpa using e3 b hb
end
theorem leII_tr (a b c : Int × Int) (h : leII a b = true) (k : leII b c = true) : leII a c = true := by
  unfold leII at *
  simp only [decide_eq_true_eq] at *
  omega
theorem leII_tot (a b : Int × Int) : (leII a b || leII b a) = true := by
  unfold leII
  rw [Bool.or_eq_true, decide_eq_true_eq, decide_eq_true_eq]
  omega
def pvT2 (p : Int × Int) : PV := .tup [.int p.1, .int p.2]
theorem itemsI_rep {S : Sta} {H : Hp} {ρ : List Addr} : ∀ {kvs : List (PV × PV)} {ps : List (Int × Int)} {ks : List (Key × V)}, itemsI kvs = some ps → RepD S H ρ kvs ks → ks = ps.map fun p => ((Sum.inl p.1 : Key), V.int p.2)
  | [], ps, _, h, r => by cases h; exact r
  | (k, x) :: kvs, ps, _, h, ⟨q, v, ws, e, hk, rx, t⟩ => by
    cases k with
    | int i =>
      cases x with
      | int j =>
        obtain ⟨qs, e1, e2⟩ := Option.map_eq_some_iff.mp (show (itemsI kvs).map ((i, j) :: ·) = some ps from h)
        subst e2
        subst e
        cases hk
        rw [itemsI_rep e1 t, show v = V.int j from rx]; rfl
      | _ => cases h
    | _ => cases h
section
variable {S : Sta} {Wx : WP} {X : Cx} {prog : Prog} {o : Orc} {H : Hp} {ρ : List Addr} {M : Sto}
theorem ext_more {H2 : Hp} (g : ∀ b o, H b = some o → H2 b = some o) : Ext ρ H ρ H2 :=
  ⟨⟨[], by simp, by simp⟩, fun a o e _ => g a o e, fun a h => by
    cases e : H a with
    | none => exact (h e).elim
    | some o => rw [g a o e]; exact (fun z => nomatch z), fun a o u e => g a _ e⟩
theorem abs_more {H2 : Hp} (A : Abs S H ρ M) (g : ∀ b o, H b = some o → H2 b = some o) : Abs S H2 ρ M :=
  ⟨A.m.imp (fun q u r => RepH.ext (ext_more g) q r) fun a ha u e => g a u e, A.nd, fun a z => (ext_more (ρ := ρ) g).dom a (A.hd a z)⟩
theorem key_int {i : Int} {u : Value} (h : RelV (kV (Sum.inl i)) u) : ∃ t, u = .int i t := h
theorem kv_at {kvs : List (Key × V)} {vs : List (Key × Value)} : ∀ {ps : List (Int × Int)}, kvs = ps.map (fun p => ((Sum.inl p.1 : Key), V.int p.2)) → KV kvs vs → ∀ (j : Nat) (k : Key) (x : Value), vs[j]? = some (k, x) → ∃ p t, ps[j]? = some p ∧ k = Sum.inl p.1 ∧ x = .int p.2 t := by
  intro ps e kv j k x h
  obtain ⟨q, h1, h2, h3⟩ := DX.pget kv h
  subst e
  rw [List.getElem?_map] at h1
  cases hp : ps[j]? with
  | none => rw [hp] at h1; cases h1
  | some p =>
    rw [hp] at h1
    cases h1
    obtain ⟨t, rfl⟩ := h3
    exact ⟨p, t, rfl, h2.symm, rfl⟩
end
end Pf
end
section
set_option Elab.async false
set_option linter.all false
set_option maxRecDepth 100000
set_option maxHeartbeats 1000000
namespace Pf
open PySem PySem.Spec PySem.Calls PyProof.Rows L2
section
variable {S : Sta} {Wx : WP} {X : Cx} {prog : Prog} {o : Orc} {H : Hp} {ρ : List Addr} {M : Sto}
abbrev ZI := Addr × Int × Int
def zEnc (z : ZI) : PyData := .tuple [.int z.2.1, .int z.2.2]
theorem z_alike (l : List ZI) : PySem.W.AllAlike (l.map zEnc) := fun d hd d' hd' => by
  obtain ⟨a, _, rfl⟩ := List.mem_map.mp hd
  obtain ⟨b, _, rfl⟩ := List.mem_map.mp hd'
  rfl
theorem z_sortable (l : List ZI) : PySem.W.Sortable (l.map zEnc) := .inl fun d hd => by
  obtain ⟨a, _, rfl⟩ := List.mem_map.mp hd
  exact ⟨_, _, rfl⟩
theorem sorted_items_run {d v : Addr} {ps : List (Int × Int)} {pins : List (Addr × Obj)} {σ : L2.St} {s : Shared} {Q : VK} (hc : X.calm = true) (hu : X.A.units + 64 < cLine) (I : L2.Inv X pins σ H s) (hd : H d = some (.dK (ps.map fun p => ((Sum.inl p.1 : Key), V.int p.2)))) (hv : s.heap.IsItemsView v d)
    (A : Abs S H ρ M) (q : ∀ H2 x, Ext ρ H ρ H2 → Abs S H2 ρ M → Rep S H2 ρ (.lst ((sortK leII ps).map pvT2)) x → Q x H2) : wpAny (model X.prog X.w) X.A (call (.builtin "sorted") [.ref v]) (EP X pins σ Q) X.xe s := by
  obtain ⟨hz, hs0, vs, kv, hdo⟩ := I.hok d _ hd
  obtain ⟨ep, hat⟩ := hdo.dictAt
  have lk : ps.length = vs.length := by have := Paired.length kv; rwa [List.length_map] at this
  rw [List.length_map] at hz
  refine PySem.Calls.call_function_entry kind_sorted plain_sorted entry_sorted (args_sorted1 _) ?_
  unfold Builtin.«sorted»
  refine wpAny_bind (m := checkCount "sorted" 1 1 _) (wpAny_pure ?_)
  refine wpAny_bind (PySem.W.kdx_collect (A := X.A.in1) (knd := mixKind X.prog X.w) (kvs := vs) (ep := ep) (I.ok.hd hc) hv hat (by omega) fun h' tk as hk hl hG => ?_)
  have las : as.length = ps.length := by omega
  refine wpAny_bind (wpAny_newList ?_ (by rw [List.length_map, las]; exact hz))
  have nd : as.Nodup := List.Pairwise.imp (fun {a b} (h : a < b) => Nat.ne_of_lt h) hG.rise
  have lo : ∀ a ∈ as, s.heap.objs.size < a := fun a ha => hG.above a ha
  have pr : ∀ (j : Nat) (a : Addr), as[j]? = some a → ∃ p t t', ps[j]? = some p ∧ h'.get? a = some { cls := .type "tuple", data := .seq #[.int p.1 t, .int p.2 t'] } := by
    intro j a hj
    obtain ⟨key, k, x, e1, e2, e3⟩ := hG.pairs j a hj
    obtain ⟨p, t', e4, rfl, rfl⟩ := kv_at rfl kv j k x e1
    obtain ⟨t, rfl⟩ := key_int (relV_key (show keyIs _ key = true from e2))
    exact ⟨p, t, t', e4, e3⟩
  have hob : (h'.push { cls := .type "list", data := .seq (as.map Value.ref).toArray }).get? h'.objs.size = some (seqObj "list" (as.map Value.ref).toArray 0) := Heap.get?_push_size _ rfl
  have ka : ∀ b o, h'.get? b = some o → (h'.push { cls := .type "list", data := .seq (as.map Value.ref).toArray }).get? b = some o := fun b o e => Heap.get?_push_of_some _ e
  have ne0 : ∀ b o, h'.get? b = some o → b ≠ h'.objs.size := fun b o e => Nat.ne_of_lt (Heap.lt_size e)
  generalize hh2 : h'.push { cls := .type "list", data := .seq (as.map Value.ref).toArray } = h2 at hob ka ⊢
  have EI : PySem.W.EachIs (fun (u : Value) (z : ZI) => u = .ref z.1 ∧ ∃ t t', h'.get? z.1 = some { cls := .type "tuple", data := .seq #[.int z.2.1 t, .int z.2.2 t'] }) (as.map Value.ref) (as.zip ps) := by
    have hl2 : (as.zip ps).length = as.length := by rw [List.length_zip, las, Nat.min_self]
    refine PySem.W.EachIs.of_zip (by rw [List.length_map, hl2]) fun p hp => ?_
    obtain ⟨j, hj⟩ := List.mem_iff_getElem?.mp hp
    obtain ⟨h1, h2⟩ := List.getElem?_zip_eq_some.mp hj
    obtain ⟨h3, h4⟩ := List.getElem?_zip_eq_some.mp h2
    rw [List.getElem?_map, h3] at h1
    obtain ⟨q, t, t', h5, h6⟩ := pr j _ h3
    rw [h4] at h5
    cases h5
    exact ⟨(Option.some.inj h1).symm, t, t', h6⟩
  have er : PySem.W.EachIs (fun v b => ∃ as, Reads h2 v (zEnc b) as ∧ h'.objs.size ∉ as) (as.map Value.ref) (as.zip ps) := EI.mono fun u z ⟨e, t, t', hg⟩ => by
    subst e
    exact ⟨_, .tuple (ka _ _ hg) rfl rfl (.cons (.int _ _) (.cons (.int _ _) .nil)), fun z => by cases z⟩
  refine wpAny_bind (wpAny_holding ?_)
  refine W.list_sort_data (A := X.A.in1) (s := { s with heap := h2, toks := tk }) (enc := zEnc) hob EI er (z_alike _) (z_sortable _) (by rw [List.length_zip, las, Nat.min_self]; exact hz) (fun b hb => ?_) fun out ho eo => wpAny_pure ⟨.ref h'.objs.size, rfl, ?_⟩
  · show X.A.units + 1 + 1 + _ < cLine
    show X.A.units + 1 + 1 + 1 < cLine
    omega
  · have eo2 : as.zip ps = as.zip ps := rfl
    generalize hzs : (as.zip ps).mergeSort (PySem.W.dataLe false zEnc) = zs at eo
    have pz : zs.Perm (as.zip ps) := by rw [← hzs]; exact List.mergeSort_perm _ _
    have idx : ∀ z ∈ zs, ∃ j : Nat, as[j]? = some z.1 ∧ ps[j]? = some z.2 := by
      intro z hz'
      obtain ⟨j, hj⟩ := List.mem_iff_getElem?.mp (pz.mem_iff.mp hz')
      exact ⟨j, List.getElem?_zip_eq_some.mp hj⟩
    have hps : zs.map (·.2) = sortK leII ps := by
      rw [sortK_ms leII_tr leII_tot, ← hzs]
      have e2 : (as.zip ps).map (·.2) = ps := List.map_snd_zip (by rw [las]; exact Nat.le_refl _)
      have := List.map_mergeSort (r := PySem.W.dataLe false zEnc) (s := leII) (f := fun z : ZI => z.2) (l := as.zip ps) fun a _ b _ => by
        have := congrFun (congrFun (PySem.W.dataLe_ii (fun z : ZI => z.2.1) (fun z : ZI => z.2.2)) a) b
        exact this
      rw [this, e2]
    have lz : zs.length = ps.length := by rw [pz.length_eq, List.length_zip, las, Nat.min_self]
    have rv : Vals (zs.map fun z => V.ref z.1) out := by
      clear ho hps pz idx lz hzs
      induction eo with
      | nil => exact .nil
      | cons h t ih => exact .cons h.1 ih
    have I' : L2.Inv X pins σ H { s with heap := h', toks := tk } := Inv.kept I (t' := tk) hk
    have kF : ∀ b o, b ≠ h'.objs.size → h2.get? b = some o → (sortedHeap h2 h'.objs.size (as.map Value.ref) out.toArray).get? b = some o := fun b o hb e => (PyProof.Rows.sortedHeap_old hb (Heap.lt_size e)).trans e
    have kS : ∀ b o, s.heap.get? b = some o → (sortedHeap h2 h'.objs.size (as.map Value.ref) out.toArray).get? b = some o := fun b o e => kF b o (ne0 _ _ (hk b o e)) (ka b o (hk b o e))
    obtain ⟨eF, heF⟩ := PyProof.Rows.sortedHeap_at (vs := as.map Value.ref) (out := out.toArray) hob
    have I1 : L2.Inv X pins σ H { s with heap := sortedHeap h2 h'.objs.size (as.map Value.ref) out.toArray, toks := tk } := Inv.kept I (t' := tk) kS
    have hn0 : H h'.objs.size = none := HOk.fresh I'.hok (Nat.le_refl _)
    have I2 : L2.Inv X pins σ (upd H h'.objs.size (.lst (zs.map fun z => V.ref z.1))) { s with heap := sortedHeap h2 h'.objs.size (as.map Value.ref) out.toArray, toks := tk } :=
      Inv.take (s := { s with heap := sortedHeap h2 h'.objs.size (as.map Value.ref) out.toArray, toks := tk }) (h' := sortedHeap h2 h'.objs.size (as.map Value.ref) out.toArray) (t' := tk) I1 (fun b ob _ e => e) (Inv.fpOk I' (Nat.le_refl _) hn0) ⟨by rw [List.length_map, lz]; exact hz, out, eF, rv, heF⟩
    obtain ⟨H2, I3, g, qt⟩ := DX.takeT (P := fun b us => ∃ (j : Nat) (p : Int × Int), as[j]? = some b ∧ ps[j]? = some p ∧ us = [.int p.1, .int p.2]) I as _ I2 nd fun b hb => by
      obtain ⟨j, hj⟩ := List.mem_iff_getElem?.mp hb
      obtain ⟨p, t, t', he, hg⟩ := pr j b hj
      refine ⟨Nat.le_of_lt (lo b hb), ?_, [.int p.1, .int p.2], ⟨j, p, hj, he, rfl⟩, fun H3 => ⟨(by rw [sizeLine_eq]; show 2 ≤ 16777216; omega), [Value.int p.1 t, Value.int p.2 t'], .cons ⟨t, rfl⟩ (.cons ⟨t', rfl⟩ .nil), ⟨_, kF _ _ (ne0 _ _ hg) (ka _ _ hg), rfl, 0, rfl⟩⟩⟩
      rw [upd_ne (ne0 _ _ hg)]
      exact HOk.fresh I.hok (Nat.le_of_lt (lo b hb))
    have gr : ∀ b o, H b = some o → H2 b = some o := fun b o e => g b o (by rw [upd_ne (ne_of_none e hn0)]; exact e)
    refine ⟨.ref h'.objs.size, H2, I3, rfl, q H2 _ (ext_more gr) (abs_more A gr) ⟨h'.objs.size, zs.map fun z => V.ref z.1, rfl, ⟨g _ _ upd_same, Abs.fresh A hn0⟩, ?_⟩⟩
    rw [← hps]
    have fin : ∀ (l : List ZI), (∀ z ∈ l, ∃ j : Nat, as[j]? = some z.1 ∧ ps[j]? = some z.2) → RepL S H2 ρ ((l.map (·.2)).map pvT2) (l.map fun z => V.ref z.1) := by
      intro l
      induction l with
      | nil => intro _; rfl
      | cons z l ih =>
        intro hl
        obtain ⟨i, i1, i2⟩ := hl z List.mem_cons_self
        obtain ⟨us, ⟨j, p, j1, j2, ev⟩, hH⟩ := qt z.1 (List.mem_of_getElem? i1)
        have eij : i = j := (List.getElem?_inj (List.getElem?_eq_some_iff.mp i1).1 nd).mp (i1.trans j1.symm)
        subst eij
        rw [i2] at j2
        cases j2
        subst ev
        have hf : H z.1 = none := HOk.fresh I.hok (Nat.le_of_lt (lo _ (List.mem_of_getElem? i1)))
        exact ⟨_, _, rfl, ⟨z.1, _, rfl, .inl ⟨hH, Abs.fresh A hf⟩, ⟨_, _, rfl, rfl, _, _, rfl, rfl, rfl⟩⟩, ih fun z hz => hl z (List.mem_cons_of_mem _ hz)⟩
    exact fin zs idx
end
end Pf
end
section
set_option Elab.async false
set_option linter.all false
set_option maxRecDepth 100000
set_option maxHeartbeats 1000000
namespace Pf
open PySem PySem.Spec PySem.Calls PyProof.Rows L2
section
variable {S : Sta} {Wx : WP} {X : Cx} {prog : Prog} {o : Orc} {H : Hp} {ρ : List Addr} {M : Sto}
theorem dicW_rep {v : PV} {x : V} {kvs : List (PV × PV)} (A : Abs S H ρ M) (r : Rep S H ρ v x) (e : derefW M v = .dic kvs) : ∃ a ks, x = .ref a ∧ H a = some (.dK ks) ∧ RepD S H ρ kvs ks := by
  rcases derefW_of e with rfl | ⟨n, rfl, ⟨xs, h, _⟩ | ⟨ks, h, e2⟩⟩
  · obtain ⟨a, ks, rfl, ⟨t, _⟩, q⟩ := r
    exact ⟨a, ks, rfl, t, q⟩
  · cases h
  · cases h
    obtain ⟨a, rfl, h1⟩ := r
    obtain ⟨b, u, hb, ho, ks, rfl, q⟩ := A.get e2
    rw [h1] at hb; cases hb
    exact ⟨a, ks, rfl, ho, q⟩
theorem s_sitems (hK : X.K = S.K) (hc : X.calm = true) (hu : X.A.units + 64 < cLine) {a : PySem.Expr} {c : CE} {p2 apos cpos pos2 : Pos} (hg : Gl X ("sorted" : Str)) (hm : X.mg ("sorted" : Str) = none) (ha : PE X a (tE S Wx fun env => evE prog o env c))
    (hb : attributeBase a (Str.ofString "items") X.env (eval a X.env) = eval a X.env) (hp : (apos.endLine == cpos.line) = true) :
    PE X (.Call (.Name (Str.ofString "sorted") p2) [.Call (.Attribute a (Str.ofString "items") apos) [] [] cpos] [] pos2) (tE S Wx fun env => evE prog o env (.sm .sitems c .nil)) :=
  ⟨fun pins s σ H Q I ⟨ρ, M, env, A, E, P⟩ => by
    have P : Post S ρ H ((evE prog o env c M).bind fun x M => match smOk .sitems x M with
      | true => smV .sitems x [] M
      | false => .no "a method of another") (fun v _ ρ' H' => ∀ x, Rep S H' ρ' v x → Q x H') (Wx σ) := P
    refine wpAny_Call_Name_kw (ld_blt I hg hm PyProof.Rows.boot_sorted (PyProof.Rows.callWith_builtin1 (e := .Call (.Attribute a (Str.ofString "items") apos) [] [] cpos) (rest := []) ?_ (by rfl) (by rfl)))
    refine Calls.spliced_cons ?_
    refine wpAny_Call_method (T := "dict") (id := "dict.items") hb rfl hp F.plainAttrs_dict F.slot_dict_items F.type_dict_items (thn (ha.run pins s σ H _ I (tE_seq (d := fun env => evE prog o env c) A E P)) fun u s1 ⟨x, H1, I1, rx, v, M1, ρ1, A1, E1, x1, r1, P1⟩ => ?_)
    split at P1
    · have P1 : Post S ρ1 H1 (match derefW M1 v with
        | .dic kvs => match sitemsV kvs with
          | some x => .ok x M1
          | none => .no "sorted items"
        | _ => .no "sorted items") (fun v _ ρ' H' => ∀ x, Rep S H' ρ' v x → Q x H') (Wx σ) := P1
      split at P1
      · rename_i kvs e1
        obtain ⟨d, ks, rfl, hd, rk⟩ := dicW_rep A1 r1 e1
        obtain rfl : u = Value.ref d := rx
        split at P1
        · rename_i z e2
          obtain ⟨ps, e3, e4⟩ := Option.map_eq_some_iff.mp e2
          have ek := itemsI_rep e3 rk
          subst ek
          subst e4
          obtain ⟨hz, hs0, vs, kv, hdo⟩ := I1.hok d _ hd
          refine ⟨hdo.typeIs, hdo.mapOf.noDict, ?_⟩
          show wpAny _ _ (callWith cpos (.builtin "dict.items") [.ref d] [] []) _ X.xe s1
          refine method_meetsIn F.slot_dict_items F.entry_dict_items rfl (PySem.evalArgs_none ⟨rfl, hdo.typeIs, F.args_dict_items_1 _, _, meets_dict_items (mixKind X.prog X.w) d hs0, ⟨vs, hdo⟩, ?_⟩)
          refine Calls.spliced_nil ?_
          have I2 : L2.Inv X pins σ H1 { s1 with heap := s1.heap.push { cls := .type "dict_items", data := .fields #[.ref d] } } := I1.kept (t' := s1.toks) fun b ob q => Heap.get?_push_of_some _ q
          exact sorted_items_run hc hu I2 hd ⟨_, Heap.get?_push_size _ rfl, rfl, rfl⟩ A1 fun H2 x y2 A2 r2 => P1 ρ1 H2 y2 A2 x r2
        · exact P1.elim
      · exact P1.elim
    · exact P1.elim⟩
end
end Pf
end
section
set_option Elab.async false
set_option linter.all false
set_option maxRecDepth 100000
set_option maxHeartbeats 1000000
namespace Pf
open PySem PySem.Spec PySem.Calls PyProof.Rows L2
theorem remV_place : ∀ {ys zs : List PV} {a : PV} {Ds : List PyData} {D : PyData}, toDs ys = some Ds → toD a = some D → remV a ys = some zs → ∃ j, SeqAt.dataPlace Ds D = some j ∧ zs = ys.eraseIdx j
  | [], _, _, _, _, _, _, h => by cases h
  | y :: ys, zs, a, Ds, D, e, ea, h => by
    have e : (match toD y with
      | none => none
      | some d => (toDs ys).map (d :: ·)) = some Ds := e
    cases ey : toD y with
    | none => rw [ey] at e; cases e
    | some d =>
      rw [ey] at e
      obtain ⟨es, e1, e2⟩ := Option.map_eq_some_iff.mp e
      subst e2
      have q := eqV_eqv ey ea
      have h : (match eqV y a with
        | true => some ys
        | false => (remV a ys).map (y :: ·)) = some zs := h
      unfold SeqAt.dataPlace
      rw [List.findIdx?_cons]
      cases c : eqV y a with
      | true =>
        rw [c] at h q
        cases h
        rw [← q]
        exact ⟨0, rfl, rfl⟩
      | false =>
        rw [c] at h q
        obtain ⟨ws, e3, e4⟩ := Option.map_eq_some_iff.mp h
        obtain ⟨j, h1, h2⟩ := remV_place e1 ea e3
        rw [← q]
        refine ⟨j + 1, ?_, by rw [← e4, h2]; rfl⟩
        show Option.map (· + 1) (SeqAt.dataPlace es D) = _
        rw [h1]; rfl
section
variable {S : Sta} {Wx : WP} {X : Cx} {prog : Prog} {o : Orc} {H : Hp} {ρ : List Addr} {M : Sto}
mutual
theorem rep_dp : ∀ {v : PV} {x : V} {D : PyData}, Rep S H ρ v x → toD v = some D → Dp S.K H x D
  | .non, _, _, r, e => by cases e; cases r; exact .non
  | .bl _, _, _, r, e => by cases e; cases r; exact .bl _
  | .int _, _, _, r, e => by cases e; cases r; exact .int _
  | .str _, _, _, r, e => by cases e; cases r; exact .str _
  | .tup xs, _, _, ⟨a, vs, e1, t, r⟩, e => by
    obtain ⟨ds, e2, e3⟩ := Option.map_eq_some_iff.mp e
    subst e1
    subst e3
    exact .tup t.sq (repL_dps r e2)
  | .lst xs, _, _, ⟨a, vs, e1, t, r⟩, e => by
    obtain ⟨ds, e2, e3⟩ := Option.map_eq_some_iff.mp e
    subst e1
    subst e3
    exact .lst (.inl (.inl t.1)) (repL_dps r e2)
  | .dic _, _, _, _, e => by cases e
  | .loc _, _, _, _, e => by cases e
  | .fn _, _, _, _, e => by cases e
  | .cls _, _, _, _, e => by cases e
  | .clo _ _, _, _, _, e => by cases e
  | .exo _ _, _, _, _, e => by cases e
theorem repL_dps : ∀ {vs : List PV} {xs : List V} {Ds : List PyData}, RepL S H ρ vs xs → toDs vs = some Ds → DpAll S.K H xs Ds
  | [], _, _, r, e => by cases e; cases r; exact .nil
  | v :: vs, _, Ds, ⟨x, xs, e1, r, t⟩, e => by
    have e : (match toD v with
      | none => none
      | some d => (toDs vs).map (d :: ·)) = some Ds := e
    cases ey : toD v with
    | none => rw [ey] at e; cases e
    | some d =>
      rw [ey] at e
      obtain ⟨es, e2, e3⟩ := Option.map_eq_some_iff.mp e
      subst e1
      subst e3
      exact .cons (rep_dp r ey) (repL_dps t e2)
end
theorem repL_erase : ∀ {ps : List PV} {vs : List V} (j : Nat), RepL S H ρ ps vs → RepL S H ρ (ps.eraseIdx j) (vs.eraseIdx j)
  | [], _, _, h => by subst h; rfl
  | p :: ps, _, 0, ⟨v, ws, e, r, t⟩ => by subst e; exact t
  | p :: ps, _, j + 1, ⟨v, ws, e, r, t⟩ => by subst e; exact ⟨v, ws.eraseIdx j, rfl, r, repL_erase j t⟩
theorem paired_erase {β γ : Type} {R : β → γ → Prop} : ∀ {as : List β} {bs : List γ} (j : Nat), Paired R as bs → Paired R (as.eraseIdx j) (bs.eraseIdx j)
  | _, _, _, .nil => .nil
  | _, _, 0, .cons a b => b
  | _, _, j + 1, .cons a b => .cons a (paired_erase j b)
def rRem (K : W.Frag) : V → List V → Hp → VK → Prop := fun x vs H Q => ∃ l xs y Ds D j, x = .ref l ∧ vs = [y] ∧ H l = some (.lst xs) ∧ DpAll K H xs Ds ∧ Dp K H y D ∧ PyData.canLayAll0 Ds = true ∧ D.canLay0 = true ∧ D.depth ≤ 60 ∧ SeqAt.dataPlace Ds D = some j ∧ Q .non (upd H l (.lst (xs.eraseIdx j)))
theorem mt_remove (hu : X.A.units + 64 < cLine) : MtM X "list.remove" (rRem X.K) := by
  intro pins s σ H x vs v us Q I rx rv h
  obtain ⟨l, xs, y, Ds, D, j, rfl, rfl, hH, h1, h2, h3, h4, h5, h6, q⟩ := h
  cases rx
  obtain ⟨u, rfl, ru⟩ := rv.one
  obtain ⟨z, its, n, r, hl, e⟩ := I.lstM hH
  obtain ⟨as, ra⟩ := Dp.readsAll I Ds xs its h1 r
  obtain ⟨bs, rb⟩ := Dp.reads I D y u h2 ru
  have e2 : its.toArray.toList = its := List.toList_toArray
  refine SeqAt.remove_list_data (j := j) (vs := its.toArray) ⟨_, e, rfl, _, rfl⟩ (by rw [e2]; exact ra) rb (PyData.plainAll_of_canLay0 _ h3) (PyData.plain_of_canLay0 _ h4) ?_ h6 (by rw [List.size_toArray]; omega) ?_
  · have : min (PyData.depthAll Ds) D.depth ≤ D.depth := Nat.min_le_right _ _
    omega
  · refine ⟨.non, _, I.lset (its' := its.eraseIdx j) hH e ?_ (paired_erase j r) ?_, rfl, q⟩
    · show its.toArray.eraseIdxIfInBounds j = (its.eraseIdx j).toArray
      rw [List.eraseIdxIfInBounds_toArray]
    · have : (xs.eraseIdx j).length ≤ xs.length := List.length_eraseIdx_le ..
      omega
theorem s_remove (hK : X.K = S.K) (hu : X.A.units + 64 < cLine) {a e : PySem.Expr} {c d : CE} {apos cpos : Pos} (ha : PE X a (tE S Wx fun env => evE prog o env c)) (he : PE X e (tE S Wx fun env => evE prog o env d)) (hn : noStar [e] = true)
    (hb : attributeBase a (Str.ofString "remove") X.env (eval a X.env) = eval a X.env) (hp : (apos.endLine == cpos.line) = true)
    (h2 : (((backTo cpos (starEach [e] X.env)).all fun x => !x.fst) && (backToKw cpos (keywordEach [] X.env)).all fun x => x.fst.isSome) && decide (([e] : List PySem.Expr).length + ([] : List Keyword).length + (if ([] : List Keyword).isEmpty = true then 0 else 1) < 30) = true) :
    PE X (.Call (.Attribute a (Str.ofString "remove") apos) [e] [] cpos) (tE S Wx fun env => evE prog o env (.sm .remove c (.cons d .nil))) :=
  PE.imp (pe_bm PySem.F.plainAttrs_list PySem.F.slot_list_remove PySem.F.type_list_remove (mt_remove hu) ha (pa_cons he pa_nil (star_of hn)) hb h2 hp (star_of hn) rfl) fun σ H Q ⟨ρ, M, env, A, E, P⟩ => by
    have P : Post S ρ H ((evE prog o env c M).bind fun x M => match smOk .remove x M with
      | true => (evL prog o env (.cons d .nil) M).bind fun vs M => smV .remove x vs M
      | false => .no "a method of another") (fun v _ ρ' H' => ∀ x, Rep S H' ρ' v x → Q x H') (Wx σ) := P
    refine tE_mono (tE_seq (d := fun env => evE prog o env c) A E P) fun x H1 ⟨v, M1, ρ1, A1, E1, x1, r1, P1⟩ => ?_
    split at P1
    · rename_i hl
      have hl : isLst (deref M1 v) = true := hl
      have ty : tyV X.K "list" x H1 := by
        generalize e : deref M1 v = w at hl
        cases w with
        | lst xs =>
          obtain ⟨p, vs, rfl, t, _⟩ := d_lst A1 r1 e
          exact .inl ⟨rfl, vs, by rw [hK]; exact t⟩
        | _ => cases hl
      refine ⟨ty, ?_⟩
      have e2 : ((evL prog o env (.cons d .nil) M1).bind fun vs M => smV .remove v vs M) = (evE prog o env d M1).bind fun y M => smV .remove v [y] M := by
        show (((evE prog o env d M1).bind fun y M => (Rs.ok [] M).bind fun ys M => Rs.ok (y :: ys) M).bind fun vs M => smV .remove v vs M) = _
        rw [Rs.bind_assoc]
        rfl
      rw [e2] at P1
      refine tE_mono (tE_seq (d := fun env => evE prog o env d) A1 E1 P1) fun y H2 ⟨w, M2, ρ2, A2, E2, x2, r2, P2⟩ => ?_
      have r1 := Rep.ext x2 v r1
      have P2 : Post S ρ2 H2 (match v with
        | .loc n => match M2[n]? with
          | some (.lst xs) => match okD 60 w && okL 60 xs with
            | true => match remV w xs with
              | some ys => .ok .non (setAt M2 n (.lst ys))
              | none => .no "remove: not there"
            | false => .no "remove of such things"
          | _ => .no "remove"
        | _ => .no "remove of what stands") (fun v _ ρ' H' => ∀ x, Rep S H' ρ' v x → Q x H') (Wx σ) := P2
      split at P2
      · rename_i n
        split at P2
        · rename_i xs e
          split at P2
          · rename_i hd
            rw [Bool.and_eq_true] at hd
            split at P2
            · rename_i ys e5
              obtain ⟨p, rfl, hp⟩ := r1
              obtain ⟨b, u, hb', ho, vs, rfl, rl⟩ := A2.get e
              rw [hp] at hb'; cases hb'
              obtain ⟨D, d1, d2, d3⟩ := okD_toD hd.1
              obtain ⟨Ds, d4, d5, d6⟩ := okL_toDs hd.2
              obtain ⟨j, j1, j2⟩ := remV_place d4 d1 e5
              subst j2
              refine ⟨p, vs, y, Ds, D, j, rfl, rfl, ho, by rw [hK]; exact repL_dps rl d4, by rw [hK]; exact rep_dp r2 d1, d5, d2, d3, j1, ?_⟩
              exact P2 ρ2 _ (ext_write (M := M2) (List.mem_of_getElem? hp) ho) (abs_write A2 hp ho ⟨_, rfl, repL_erase j rl⟩) _ rfl
            · exact P2.elim
          · exact P2.elim
        · exact P2.elim
      · exact P2.elim
    · exact P1.elim
end
end Pf
end
section
set_option Elab.async false
set_option linter.all false
set_option maxRecDepth 100000
set_option maxHeartbeats 1000000
namespace Pf
open PySem PySem.Spec PySem.Calls PyProof.Rows L2
def inK (X : Cx) : Cx := { X with A := X.A.in1.in1, xe := fun _ _ => False }
abbrev WNo : WP := fun _ _ _ _ _ => False
section
variable {S : Sta} {Wx : WP} {X : Cx} {prog : Prog} {o : Orc} {H : Hp} {ρ : List Addr} {M : Sto}
theorem Inv_toK {pins : List (Addr × Obj)} {σ : L2.St} {s : Shared} (I : L2.Inv X pins σ H s) : L2.Inv (inK X) pins σ H s :=
  ⟨⟨I.ok.mod, I.ok.kind, I.ok.glob, I.ok.blt, I.ok.above, I.ok.inj, I.ok.has, I.ok.cab, I.ok.hd, I.ok.frames, I.ok.stk, I.ok.exf, I.ok.bs, I.ok.bsz, I.ok.noex, I.ok.exfs, I.ok.funs, I.ok.frf⟩, I.os, I.bare, I.base, I.loc, I.cell, I.free, I.freeC, I.pin, I.hok, I.len⟩
theorem Inv_ofK {pins : List (Addr × Obj)} {σ : L2.St} {s : Shared} (I : L2.Inv (inK X) pins σ H s) : L2.Inv X pins σ H s :=
  ⟨⟨I.ok.mod, I.ok.kind, I.ok.glob, I.ok.blt, I.ok.above, I.ok.inj, I.ok.has, I.ok.cab, I.ok.hd, I.ok.frames, I.ok.stk, I.ok.exf, I.ok.bs, I.ok.bsz, I.ok.noex, I.ok.exfs, I.ok.funs, I.ok.frf⟩, I.os, I.bare, I.base, I.loc, I.cell, I.free, I.freeC, I.pin, I.hok, I.len⟩
theorem fpOk_un {pins : List (Addr × Obj)} {H1 : Hp} {b : Addr} (f : FpOk X pins H b) (h : H1 b = none) : FpOk X pins H1 b := ⟨h, f.2⟩
theorem sortk_keys {a kS : Addr} {f : Nat} {us : List Value} {vs : List V} {xs : List PV} {e1 : Nat} {pins : List (Addr × Obj)} {σ : L2.St} {s : Shared} {okP : PV → Sto → List Addr → Hp → Prop} {Pf : PySem.Fin → Shared → Prop} {E : Value → Shared → Prop}
    (hC : CallOk (inK X) S WNo prog o) (I : L2.Inv X pins σ H s) (fa : FpOk X pins H a) (fk : FpOk X pins H kS) (hka : kS ≠ a) (nk : s.heap.get? kS = some (seqObj "list" #[] 0)) (na : s.heap.get? a = some (seqObj "list" #[] e1)) (A0 : Abs S H ρ M) (rv : Vals vs us) (r : RepL S H ρ xs vs)
    (hz : us.length ≤ sizeLine) (kont : List (PV × PV) → Sto → Rs PV) (P : Post S ρ H ((keysBy prog o (.fn f) xs M).bind kont) okP (fun _ _ _ _ => False))
    (hfin : ∀ H' s' ρ' M' ps ws keys e, L2.Inv X (pins ++ [(a, seqObj "list" #[] e1), (kS, seqObj "list" keys e)]) σ H' s' → Ext ρ H ρ' H' → Abs S H' ρ' M' → Vals ws keys.toList → RepL S H' ρ' (ps.map (·.1)) ws → ps.map (·.2) = xs → Post S ρ' H' (kont ps M') okP (fun _ _ _ _ => False) →
      wpAny (model X.prog X.w) X.A.in1.in1 (ksk_end a false us.toArray e1 (.ref kS) keys) Pf E s') :
    wpAny (model X.prog X.w) X.A.in1.in1 (ksk_rest a (.ref (S.fA f)) false us.toArray e1 (.ref kS)) Pf E s := by
  unfold ksk_rest
  refine wpAny_bind (wpAny_rule ?_)
  first
    | rw [List.forIn_toArray]
    | (rw [← Array.forIn_toList]; simp only [List.toList_toArray])
    | rw [← Array.forIn_toList]
  have lxu : xs.length = us.length := by rw [r.len]; exact Paired.length rv
  refine wpAny_bind (ksk_fold (fun i s' => ∃ H' ρ' M' ps ws keys e, L2.Inv X (pins ++ [(a, seqObj "list" #[] e1), (kS, seqObj "list" keys e)]) σ H' s' ∧ Ext ρ H ρ' H' ∧ Abs S H' ρ' M' ∧ Vals ws keys.toList ∧ RepL S H' ρ' (ps.map (·.1)) ws ∧ ps.map (·.2) = xs.take i ∧
      Post S ρ' H' ((keysBy prog o (.fn f) (xs.drop i) M').bind fun q M => kont (ps ++ q) M) okP (fun _ _ _ _ => False)) us 0 s ?start ?step ?done)
  case start =>
    refine ⟨H, ρ, M, [], [], #[], 0, Inv.pins_of I (fun p hp => ?_), Ext.refl, A0, .nil, rfl, by simp, P⟩
    rcases List.mem_append.mp hp with hp | hp
    · exact I.pin p (List.mem_append_right _ hp)
    · rcases List.mem_cons.mp hp with rfl | hp
      · exact ⟨na, fa.1, fa.2.1, fa.2.2.1, fun v z => by cases z⟩
      · rw [List.mem_singleton.mp hp]
        exact ⟨nk, fk.1, fk.2.1, fk.2.2.1, fun v z => by cases z⟩
  case step =>
    rintro j u s' hu ⟨H', ρ', M', ps, ws, keys, e, I', x', A', rk, rr, hps, P'⟩
    simp only [Nat.zero_add] at hps P' ⊢
    have hj : j < us.length := (List.getElem?_eq_some_iff.mp hu).1
    obtain ⟨p, hp⟩ : ∃ p, xs[j]? = some p := ⟨_, List.getElem?_eq_getElem (by omega)⟩
    obtain ⟨v, hv, rp⟩ := r.get hp
    obtain ⟨v', hv', rvu⟩ := DX.pget rv hu
    rw [hv] at hv'
    cases hv'
    have ed : xs.drop j = p :: xs.drop (j + 1) := by
      obtain ⟨h1, h2⟩ := List.getElem?_eq_some_iff.mp hp
      rw [List.drop_eq_getElem_cons h1, h2]
    rw [ed] at P'
    have P' : Post S ρ' H' ((((callF prog o f [p] [] M').bind fun y M => (keysBy prog o (.fn f) (xs.drop (j + 1)) M).bind fun r M => Rs.ok ((y, p) :: r) M)).bind fun q M => kont (ps ++ q) M) okP (fun _ _ _ _ => False) := P'
    rw [Rs.bind_assoc] at P'
    have P' := P'.bind
    refine wpAny_bind (wpAny_attempt (wpAny_mono (hC f _ s' σ H' (fun y H2 => ∃ ρ2 M2 k, Ext ρ' H' ρ2 H2 ∧ Abs S H2 ρ2 M2 ∧ Rep S H2 ρ2 k y ∧ Post S ρ2 H2 ((keysBy prog o (.fn f) (xs.drop (j + 1)) M2).bind fun q M => kont ((ps ++ [(k, p)]) ++ q) M) okP (fun _ _ _ _ => False))
      [u] [] [v] [] [] ρ' M' [p] (Inv_toK I') (.cons rvu .nil) .nil rfl A' ⟨v, [], rfl, Rep.ext x' p rp, rfl⟩ (P'.imp (fun k M2 ρ2 H2 _ x2 A2 q y ry => ⟨ρ2, M2, k, x2, A2, ry, ?_⟩) fun _ _ _ _ _ _ q => q)) (fun w s2 hw => ?_) fun _ _ hF => hF.elim))
    · rw [Rs.bind_assoc] at q
      have e3 : (fun (a : List (PV × PV)) (N : Sto) => (Rs.ok ((k, p) :: a) N).bind fun q M => kont (ps ++ q) M) = fun q M => kont ((ps ++ [(k, p)]) ++ q) M := by
        funext a N
        show kont (ps ++ (k, p) :: a) N = _
        rw [List.append_assoc]; rfl
      rw [← e3]
      exact q
    · obtain ⟨y, H2, I2, ry, ρ2, M2, k, x2, A2, rk2, P2⟩ := hw
      have I2 := Inv_ofK I2
      have pa := I2.pin (a, seqObj "list" #[] e1) (List.mem_append_right _ (List.mem_append_right _ List.mem_cons_self))
      have pk := I2.pin (kS, seqObj "list" keys e) (List.mem_append_right _ (List.mem_append_right _ (List.mem_cons_of_mem _ List.mem_cons_self)))
      obtain ⟨c2, hc2⟩ : ∃ c2, (s2.heap.update kS (Obj.mapSeq (·.push w))).get? kS = some (seqObj "list" (keys.push w) c2) := ⟨_, get?_update_seq pk.1 (·.push w)⟩
      have hzk : keys.size ≤ us.length := by
        have h1 : ws.length = keys.size := (Paired.length rk).trans (Array.length_toList (xs := keys))
        have h3 := rr.len
        rw [List.length_map] at h3
        have h2 := congrArg List.length hps
        rw [List.length_map, List.length_take] at h2
        omega
      refine wpAny_bind (listUpdate_at pk.1 rfl ?_ (Nat.le_trans hzk hz) (Nat.le_trans (Nat.le_of_eq (Array.size_push ..)) (Nat.succ_le_succ (Nat.le_trans hzk hz))))
      have oth : ∀ b o, b ≠ kS → s2.heap.get? b = some o → (s2.heap.update kS (Obj.mapSeq (·.push w))).get? b = some o := fun b o hb e => (Heap.get?_update_other _ _ (Ne.symm hb)).trans e
      have I3 : L2.Inv X pins σ H2 s2 := Inv.unpinned I2
      have I4 : L2.Inv X pins σ H2 { s2 with heap := s2.heap.update kS (Obj.mapSeq (·.push w)) } := Inv.turned (t' := s2.toks) I3 oth pk.2.1 fk.2.1 fk.2.2.2.1 fk.2.2.2.2.1 fk.2.2.2.2.2
      refine wpAny_pure ⟨rfl, H2, ρ2, M2, ps ++ [(k, p)], ws ++ [y], keys.push w, c2, Inv.pins_of I4 (fun q hq => ?_), x'.trans x2, A2, vals_push rk ry, ?_, ?_, P2⟩
      · rcases List.mem_append.mp hq with hq | hq
        · exact I4.pin q (List.mem_append_right _ hq)
        · rcases List.mem_cons.mp hq with rfl | hq
          · exact ⟨oth a _ (Ne.symm hka) pa.1, pa.2.1, fa.2.1, fa.2.2.1, fun v z => by cases z⟩
          · rw [List.mem_singleton.mp hq]
            exact ⟨hc2, pk.2.1, fk.2.1, fk.2.2.1, fun v z => by cases z⟩
      · rw [List.map_append]
        exact repL_snoc rk2 (RepL.ext x2 _ rr)
      · rw [List.map_append, hps, List.take_add_one, hp]; rfl
  case done =>
    rintro s' ⟨H', ρ', M', ps, ws, keys, e, I', x', A', rk, rr, hps, P'⟩
    have e3 : xs.take (0 + us.length) = xs := List.take_of_length_le (by omega)
    have e4 : xs.drop (0 + us.length) = [] := List.drop_eq_nil_of_le (by omega)
    rw [e3] at hps
    rw [e4] at P'
    have P' : Post S ρ' H' (kont (ps ++ []) M') okP (fun _ _ _ _ => False) := P'
    rw [List.append_nil] at P'
    have pk := I'.pin (kS, seqObj "list" keys e) (List.mem_append_right _ (List.mem_append_right _ (List.mem_cons_of_mem _ List.mem_cons_self)))
    refine wpAny_bind (listItems_at pk.1 rfl ?_)
    exact hfin H' s' ρ' M' ps ws keys e I' x' A' rk rr hps P'
end
end Pf
end
section
set_option Elab.async false
set_option linter.all false
set_option maxRecDepth 100000
set_option maxHeartbeats 1000000
namespace Pf
open PySem PySem.Spec PySem.Calls PyProof.Rows L2
theorem keysS_map : ∀ {ps : List (PV × PV)} {qs : List (List Nat × PV)}, keysS ps = some qs → ps = qs.map fun q => (PV.str q.1, q.2)
  | [], _, h => by cases h; rfl
  | (k, x) :: ps, qs, h => by
    cases k with
    | str s =>
      obtain ⟨rs, e1, e2⟩ := Option.map_eq_some_iff.mp (show (keysS ps).map ((s, x) :: ·) = some qs from h)
      subst e2
      rw [keysS_map e1]; rfl
    | _ => cases h
def leS (p q : List Nat × PV) : Bool := !slt q.1 p.1
theorem leS_le (p q : List Nat × PV) : leS p q = decide (p.1 ≤ q.1) := by
  unfold leS
  rw [slt_sv]
  by_cases h : q.1 < p.1
  · rw [decide_eq_true h, decide_eq_false (List.not_le.mpr h)]; rfl
  · rw [decide_eq_false h, decide_eq_true (List.not_lt.mp h)]; rfl
theorem leS_tr (a b c : List Nat × PV) (h : leS a b = true) (k : leS b c = true) : leS a c = true := by
  rw [leS_le, decide_eq_true_eq] at *
  exact List.le_trans h k
theorem leS_tot (a b : List Nat × PV) : (leS a b || leS b a) = true := by
  rw [leS_le, leS_le, Bool.or_eq_true, decide_eq_true_eq, decide_eq_true_eq]
  exact List.le_total ..
section
variable {S : Sta} {Wx : WP} {X : Cx} {prog : Prog} {o : Orc} {H : Hp} {ρ : List Addr} {M : Sto}
abbrev ZS := List Nat × PV × V
def sEnc (z : ZS) : PyData := .str (sv z.1)
theorem s_alike (l : List ZS) : PySem.W.AllAlike (l.map sEnc) := fun d hd d' hd' => by
  obtain ⟨a, _, rfl⟩ := List.mem_map.mp hd
  obtain ⟨b, _, rfl⟩ := List.mem_map.mp hd'
  rfl
theorem s_sortable (l : List ZS) : PySem.W.Sortable (l.map sEnc) := .inr fun d hd => by
  obtain ⟨a, _, rfl⟩ := List.mem_map.mp hd
  exact ⟨fun z => (by cases z), fun xs z => (by cases z)⟩
theorem repL_zip : ∀ {ps : List PV} {vs : List V}, RepL S H ρ ps vs → ∀ z ∈ ps.zip vs, Rep S H ρ z.1 z.2
  | [], _, h, z, hz => by cases hz
  | p :: ps, _, ⟨v, ws, e, r, t⟩, z, hz => by
    subst e
    rcases List.mem_cons.mp hz with rfl | hz
    · exact r
    · exact repL_zip t z hz
theorem repL_of {α : Type} {f : α → PV} {g : α → V} : ∀ {l : List α}, (∀ z ∈ l, Rep S H ρ (f z) (g z)) → RepL S H ρ (l.map f) (l.map g)
  | [], _ => rfl
  | z :: l, h => ⟨_, _, rfl, h z List.mem_cons_self, repL_of fun y hy => h y (List.mem_cons_of_mem _ hy)⟩
theorem keyStrs : ∀ {qs : List (List Nat × PV)} {ws : List V} {ks : List Value}, RepL S H ρ (qs.map fun q => PV.str q.1) ws → Vals ws ks → ∀ (vs : List V) (h : Heap), vs.length = qs.length →
    PySem.W.EachIs (fun v k => ∃ as, Reads h v k as) ks ((qs.zip vs).map fun z => PyData.str (sv z.1.1))
  | [], _, _, r, rv, vs, h, _ => by cases r; cases rv; exact .nil
  | q :: qs, _, _, ⟨v, ws, e, r, t⟩, rv, vs, h, hl => by
    subst e
    cases rv with
    | cons a b =>
      cases vs with
      | nil => cases hl
      | cons v' vs =>
        rw [show v = V.str (sv q.1) from r] at a
        obtain ⟨tk, rfl⟩ := a
        exact .cons ⟨_, .str _ _⟩ (keyStrs t b vs h (by simpa using hl))
theorem sortk_end {a kS : Addr} {us : List Value} {vs : List V} {xs : List PV} {e1 e : Nat} {keys : Array Value} {ws : List V} {ps : List (PV × PV)} {pins : List (Addr × Obj)} {σ : L2.St} {s : Shared} {okP : PV → Sto → List Addr → Hp → Prop} {Pf : PySem.Fin → Shared → Prop} {E : Value → Shared → Prop}
    (hu : X.A.units + 64 < cLine) (I0 : L2.Inv X (pins ++ [(a, seqObj "list" #[] e1), (kS, seqObj "list" keys e)]) σ H s) (fa : FpOk X pins H a) (fk : FpOk X pins H kS) (hka : kS ≠ a) (A : Abs S H ρ M) (rv : Vals vs us) (r : RepL S H ρ xs vs)
    (hz : us.length ≤ sizeLine) (rk : Vals ws keys.toList) (rr : RepL S H ρ (ps.map (·.1)) ws) (hps : ps.map (·.2) = xs) (P : Post S ρ H (ofO "sorted by" ((sortBy ps).map PV.lst) M) okP (fun _ _ _ _ => False))
    (hfin : ∀ zs s' us', L2.Inv X pins σ (upd H a (.lst us')) s' → RepL S H ρ zs us' → Post S ρ H (Rs.ok (PV.lst zs) M) okP (fun _ _ _ _ => False) → Pf (.done (.ret .none)) s') :
    wpAny (model X.prog X.w) X.A.in1.in1 (ksk_end a false us.toArray e1 (.ref kS) keys) Pf E s := by
  cases hq : keysS ps with
  | none =>
    have : sortBy ps = none := by unfold sortBy; rw [hq]
    rw [this] at P
    exact P.elim
  | some qs =>
    have es : sortBy ps = some ((sortK leS qs).map (·.2)) := by unfold sortBy; rw [hq]; rfl
    rw [es] at P
    have ep := keysS_map hq
    have eq2 : qs.map (·.2) = xs := by rw [← hps, ep, List.map_map]; rfl
    have lq : qs.length = vs.length := by rw [← r.len, ← eq2, List.length_map]
    have lu : vs.length = us.length := Paired.length rv
    have rr2 : RepL S H ρ (qs.map fun q => PV.str q.1) ws := by
      have := rr
      rw [ep, List.map_map] at this
      exact this
    have pa := I0.pin (a, seqObj "list" #[] e1) (List.mem_append_right _ (List.mem_append_right _ List.mem_cons_self))
    have pk := I0.pin (kS, seqObj "list" keys e) (List.mem_append_right _ (List.mem_append_right _ (List.mem_cons_of_mem _ List.mem_cons_self)))
    obtain ⟨G, G1, G2⟩ := L2.restrict s.heap (fun b => decide (b ≠ kS))
    have hG : PySem.W.KeepsBut a G s.heap := fun b o hb e => by
      by_cases hk : b = kS
      · rw [G2 b (by simp [hk])] at e; cases e
      · rw [← G1 b (by simp [hk])]; exact e
    have eb : (qs.zip vs).map (fun z => (z.1.1, z.1.2, z.2)) = (qs.zip vs).map (fun z => (z.1.1, z.1.2, z.2)) := rfl
    generalize hbs : (qs.zip vs).map (fun z => ((z.1.1, z.1.2, z.2) : ZS)) = bs at eb
    have lb : bs.length = us.length := by rw [← hbs, List.length_map, List.length_zip, lq, Nat.min_self, lu]
    have EI : PySem.W.EachIs (fun (u : Value) (z : ZS) => RelV z.2.2 u) us bs := by
      refine PySem.W.EachIs.of_zip lb.symm fun p hp => ?_
      obtain ⟨j, hj⟩ := List.mem_iff_getElem?.mp hp
      obtain ⟨h1, h2⟩ := List.getElem?_zip_eq_some.mp hj
      rw [← hbs, List.getElem?_map] at h2
      cases h3 : (qs.zip vs)[j]? with
      | none => rw [h3] at h2; cases h2
      | some y =>
        rw [h3] at h2
        have h2 : (y.1.1, y.1.2, y.2) = p.2 := Option.some.inj h2
        obtain ⟨h4, h5⟩ := List.getElem?_zip_eq_some.mp h3
        obtain ⟨v', h6, h7⟩ := DX.pget rv h1
        rw [h5] at h6
        cases h6
        rw [← h2]
        exact h7
    have ek : bs.map sEnc = (qs.zip vs).map fun z => PyData.str (sv z.1.1) := by rw [← hbs, List.map_map]; rfl
    have hk' : PySem.W.EachIs (fun v k => ∃ as, Reads s.heap v k as) keys.toList (bs.map sEnc) := by rw [ek]; exact keyStrs rr2 rk vs s.heap lq.symm
    have lk : keys.size = us.length := by
      have h1 := hk'.length
      rw [Array.length_toList, List.length_map] at h1
      omega
    refine PySem.W.keyH_end (κ := PySem.W.dataKind s.heap (bs.map sEnc)) (h₁ := G) hG (G2 kS (by simp)) pk.1 pa.1 hka (PySem.W.SortsAt.data (A := X.A.in1.in1) (s := s) hk' (s_alike bs) (s_sortable bs) fun d hd => ?_) lk hz fun h' tk c kp hD => ?_
    · obtain ⟨b, _, rfl⟩ := List.mem_map.mp hd
      show X.A.units + 1 + 1 + 0 < cLine
      omega
    · have eo := PySem.W.keyedOut_each (rev := false) (k := sEnc) (bs := bs) (vs := us) (out := PySem.W.sortVals (PySem.W.dataKind s.heap (bs.map sEnc)) false keys.toList us) ⟨s.heap, keys.toList, s_alike bs, rfl, hk'⟩ EI
      generalize hout : PySem.W.sortVals (PySem.W.dataKind s.heap (bs.map sEnc)) false keys.toList us = out at eo hD
      generalize hts : bs.mergeSort (PySem.W.dataLe false sEnc) = ts at eo
      have pt : ts.Perm bs := by rw [← hts]; exact List.mergeSort_perm _ _
      have et : ts.map (fun z => (z.1, z.2.1)) = sortK leS qs := by
        rw [sortK_ms leS_tr leS_tot, ← hts]
        have e2 : bs.map (fun z : ZS => (z.1, z.2.1)) = qs := by
          rw [← hbs, List.map_map]
          exact (List.map_fst_zip (l₁ := qs) (l₂ := vs) (by omega))
        have := List.map_mergeSort (r := PySem.W.dataLe false sEnc) (s := leS) (f := fun z : ZS => (z.1, z.2.1)) (l := bs) fun a _ b _ => by
          have := congrFun (congrFun (PySem.W.dataLe_str (fun z : ZS => sv z.1)) a) b
          rw [leS_le]
          exact this
        rw [this, e2]
      have kB : ∀ b o, b ∉ [a, kS] → s.heap.get? b = some o → h'.get? b = some o := fun b o hb e => by
        have h1 : b ≠ a := fun z => hb (by rw [z]; exact List.mem_cons_self)
        have h2 : b ≠ kS := fun z => hb (by rw [z]; exact List.mem_cons_of_mem _ List.mem_cons_self)
        refine kp b o h1 ?_
        rw [G1 b (by simp [h2])]
        exact e
      have I1 : L2.Inv X pins σ H { s with heap := h', toks := tk } := Inv.turnedL (t' := tk) (ch := [a, kS]) (Inv.unpinned I0) kB fun b hb => by
        rcases List.mem_cons.mp hb with rfl | hb
        · exact fa
        · rw [List.mem_singleton.mp hb]; exact fk
      have rvt : Vals (ts.map fun z => z.2.2) out := by
        clear hout hts pt et hD
        induction eo with
        | nil => exact .nil
        | cons h t ih => exact .cons h ih
      have lt : ts.length = us.length := by rw [pt.length_eq, lb]
      have rt : RepL S H ρ ((sortK leS qs).map (·.2)) (ts.map fun z => z.2.2) := by
        rw [← et, List.map_map]
        refine repL_of (f := fun z : ZS => z.2.1) (g := fun z : ZS => z.2.2) fun z hz' => ?_
        have hz2 := pt.mem_iff.mp hz'
        rw [← hbs] at hz2
        obtain ⟨y, hy, rfl⟩ := List.mem_map.mp hz2
        obtain ⟨j, hj⟩ := List.mem_iff_getElem?.mp hy
        obtain ⟨h1, h2⟩ := List.getElem?_zip_eq_some.mp hj
        refine repL_zip (ps := xs) (vs := vs) r (y.1.2, y.2) (List.mem_of_getElem? (i := j) ?_)
        rw [List.getElem?_zip_eq_some]
        refine ⟨?_, h2⟩
        rw [← eq2, List.getElem?_map, h1]; rfl
      refine hfin _ { s with heap := h', toks := tk } (ts.map fun z => z.2.2) (Inv.take (s := { s with heap := h', toks := tk }) (t' := tk) (h' := h') (o := .lst (ts.map fun z => z.2.2)) I1 (fun b ob _ e => e) fa ⟨by rw [List.length_map, lt]; exact hz, out, c, rvt, hD⟩) rt P
end
end Pf
end
section
set_option Elab.async false
set_option linter.all false
set_option maxRecDepth 100000
set_option maxHeartbeats 1000000
namespace Pf
open PySem PySem.Spec PySem.Calls PyProof.Rows L2
section
variable {S : Sta} {Wx : WP} {X : Cx} {prog : Prog} {o : Orc} {H : Hp} {ρ : List Addr} {M : Sto}
def kontS : List (PV × PV) → Sto → Rs PV := fun ps M => ofO "sorted by" ((sortBy ps).map .lst) M
def rSortF (S : Sta) (prog : Prog) (o : Orc) (f : Nat) : List V → List V → Hp → VK → Prop := fun xs zs H Q => ∃ l vs ps ρ M, xs = [.ref l] ∧ zs = [.ref (S.fA f)] ∧ SqL S.K H l vs ∧ RepL S H ρ ps vs ∧ Abs S H ρ M ∧
  Post S ρ H ((keysBy prog o (.fn f) ps M).bind kontS) (fun v _ ρ' H' => ∀ x, Rep S H' ρ' v x → Q x H') (fun _ _ _ _ => False)
theorem cr_sortF (hK : X.K = S.K) (hu : X.A.units + 64 < cLine) (hC : CallOk (inK X) S WNo prog o) (f : Nat) : CallRK X (.builtin "sorted") [Str.ofString "key"] (rSortF S prog o f) := by
  intro pins s σ H xs zs us ws Q I rx rz ⟨l, vs, ps, ρ, M, e1, e2, hs, r, A, P⟩
  subst e1
  subst e2
  rw [Vals.ref1 rx, Vals.ref1 rz]
  obtain ⟨its, rv, hpl, hlen⟩ := Inv.list I (show SqL X.K H l vs by rw [hK]; exact hs)
  have hL : its.length ≤ sizeLine := by rw [← Paired.length rv]; exact hlen
  refine PySem.W.sorted_of_sort hpl.isList hL (ksk_s1 _ _) (fun x => ksk_l1 _ _) fun E' => ?_
  show wpAny _ _ (Builtin.«list.sort» ⟨[.ref (s.heap.objs.size + 1)], [(Str.ofString "key", .ref (S.fA f))]⟩) _ _ _
  rw [ksk_t1]
  have ho := PySem.W.copyHeap_at s.heap its
  generalize ha : s.heap.objs.size + 1 = a at ho ⊢
  have hao : s.heap.objs.size < a := by rw [← ha]; exact Nat.lt_succ_self _
  have hold : ∀ b u, s.heap.get? b = some u → (PySem.W.copyHeap s.heap its).get? b = some u := fun b u e => PySem.W.copyHeap_old e
  generalize hcp : PySem.W.copyHeap s.heap its = hc at ho hold ⊢
  obtain ⟨e1, ho1⟩ : ∃ e1, (hc.update a (Obj.mapSeq fun _ => (#[] : Array Value))).get? a = some (seqObj "list" #[] e1) := ⟨_, get?_update_seq ho fun _ => #[]⟩
  have hac : a < hc.objs.size := Heap.lt_size ho
  have hkS : ((hc.update a (Obj.mapSeq fun _ => (#[] : Array Value))).push (seqObj "tuple" its.toArray 0)).objs.size = hc.objs.size + 1 := by rw [size_push', Heap.size_update]
  unfold ksk_tree
  refine wpAny_bind (listItems_at ho rfl ?_)
  refine wpAny_bind (listUpdate_at ho rfl ?_ (by rw [List.size_toArray]; exact hL) (Nat.zero_le _))
  refine wpAny_bind (seqEpoch_at ho1 rfl ?_)
  refine wpAny_bind (wpAny_newTuple ?_ (by show its.length ≤ _; exact hL))
  refine wpAny_bind (wpAny_newList ?_ (Nat.zero_le _))
  refine wpAny_holding ?_
  have kp : ∀ b u, s.heap.get? b = some u → (((hc.update a (Obj.mapSeq fun _ => (#[] : Array Value))).push (seqObj "tuple" its.toArray 0)).push (seqObj "list" #[] 0)).get? b = some u := fun b u e =>
    Heap.get?_push_of_some _ (Heap.get?_push_of_some _ ((Heap.get?_update_other _ _ (Nat.ne_of_gt (Nat.lt_trans (Heap.lt_size e) hao))).trans (hold b u e)))
  have hI := Inv.kept I (t' := s.toks) kp
  have fa : FpOk X pins H a := Inv.fpOk I (Nat.le_of_lt hao) (HOk.fresh I.hok (Nat.le_of_lt hao))
  have hks : s.heap.objs.size ≤ hc.objs.size + 1 := by omega
  have fk : FpOk X pins H ((hc.update a (Obj.mapSeq fun _ => (#[] : Array Value))).push (seqObj "tuple" its.toArray 0)).objs.size := by
    rw [hkS]; exact Inv.fpOk I hks (HOk.fresh I.hok hks)
  have hka : ((hc.update a (Obj.mapSeq fun _ => (#[] : Array Value))).push (seqObj "tuple" its.toArray 0)).objs.size ≠ a := by rw [hkS]; exact Nat.ne_of_gt (Nat.lt_succ_of_lt hac)
  refine sortk_keys hC hI fa fk hka (Heap.get?_push_size _ rfl) (Heap.get?_push_of_some _ (Heap.get?_push_of_some _ ho1)) A rv r hL kontS P fun H' s' ρ' M' qs ws keys e I' x' A' rk rr hps P' => ?_
  have pa := I'.pin (a, seqObj "list" #[] e1) (List.mem_append_right _ (List.mem_append_right _ List.mem_cons_self))
  have pk := I'.pin (_, seqObj "list" keys e) (List.mem_append_right _ (List.mem_append_right _ (List.mem_cons_of_mem _ List.mem_cons_self)))
  refine sortk_end hu I' (fpOk_un fa pa.2.1) (fpOk_un fk pk.2.1) hka A' rv (RepL.ext x' ps r) hL rk rr hps P' fun zs s2 us' I2 rz P2 => ⟨rfl, .ref a, upd H' a (.lst us'), I2, rfl, ?_⟩
  exact P2 ρ' _ (ext_new pa.2.1) (abs_new A' pa.2.1) _ (rep_lst A' pa.2.1 rz)
theorem s_sortk (hK : X.K = S.K) (hu : X.A.units + 64 < cLine) (hC : CallOk (inK X) S WNo prog o) (hW : ∀ σ e M ρ H, ¬ Wx σ e M ρ H) {f : Nat} {e d : PySem.Expr} {c : CE} {p pos kp : Pos} (hg : Gl X ("sorted" : Str)) (hm : X.mg ("sorted" : Str) = none)
    (h : PE X e (tE S Wx fun env => evE prog o env c)) (hd : PE X d (tE S Wx fun env => evE prog o env (.cst (.fn f)))) (hn : noStar [e] = true) :
    PE X (.Call (.Name (Str.ofString "sorted") p) [e] [⟨some (Str.ofString "key"), d, kp⟩] pos) (tE S Wx fun env => evE prog o env (.sortk c (.cst (.fn f)))) := by
  refine PE.imp (pe_callBK (cr_sortF hK hu hC f) hg hm (by rfl) (s_cons h s_nil (star_of hn)) (s_kcons hd s_knil) (he := by rw [star_of hn]; rfl) (hpl := star_any hn)) fun σ H Q ⟨ρ, M, env, A, E, P⟩ => ?_
  have P : Post S ρ H ((evE prog o env c M).bind fun x M => match listOf (deref M x) with
    | none => .no "sorted"
    | some xs => (keysBy prog o (.fn f) xs M).bind kontS) (fun v _ ρ' H' => ∀ x, Rep S H' ρ' v x → Q x H') (Wx σ) := P
  have P0 : Post S ρ H ((evL prog o env (CL.cons c .nil) M).bind fun xs M => match xs with
    | [x] => match listOf (deref M x) with
      | none => .no "sorted"
      | some xs => (keysBy prog o (.fn f) xs M).bind kontS
    | _ => .no "one") (fun v _ ρ' H' => ∀ x, Rep S H' ρ' v x → Q x H') (Wx σ) := by
    show Post S ρ H (((evE prog o env c M).bind fun x M => (Rs.ok [] M).bind fun ys M => Rs.ok (x :: ys) M).bind _) _ _
    rw [Rs.bind_assoc]
    exact P
  refine tA_mono (tA_seq (d := fun env => evL prog o env (CL.cons c .nil)) A E P0) fun xs H1 ⟨vs, M1, ρ1, A1, E1, x1, r1, P1⟩ => ?_
  match vs, r1, P1 with
  | [x], r1, P1 =>
    have P1 : Post S ρ1 H1 (match listOf (deref M1 x) with
      | none => (Rs.no "sorted" : Rs PV)
      | some xs => (keysBy prog o (.fn f) xs M1).bind kontS) (fun v _ ρ' H' => ∀ x, Rep S H' ρ' v x → Q x H') (Wx σ) := P1
    obtain ⟨xv, rfl, rx⟩ := repL1 r1
    cases hl : listOf (deref M1 x) with
    | none =>
      rw [hl] at P1
      exact P1.elim
    | some ys =>
      rw [hl] at P1
      have P1 : Post S ρ1 H1 ((keysBy prog o (.fn f) ys M1).bind kontS) (fun v _ ρ' H' => ∀ x, Rep S H' ρ' v x → Q x H') (Wx σ) := P1
      refine ⟨ρ1, M1, env, A1, E1, fun ρ2 H2 x2 A2 zs rz => ?_⟩
      obtain ⟨z, e0, rz'⟩ := repL1 rz
      subst e0
      obtain ⟨l, ws, rfl, t, rl⟩ := d_lst A2 (Rep.ext x2 x rx) (listOf_some hl)
      exact ⟨l, ws, ys, ρ2, M1, rfl, by rw [show z = V.ref (S.fA f) from rz'], t, rl, A2, (Post.ext P1 x2).imp (fun _ _ _ _ _ _ _ q => q) fun e M' ρ' H' _ _ q => hW _ _ _ _ _ q⟩
  | [], _, P1 => exact P1.elim
  | _ :: _ :: _, _, P1 => exact P1.elim
end
end Pf
end
section
set_option Elab.async false
set_option linter.all false
set_option maxRecDepth 100000
set_option maxHeartbeats 1000000
namespace Pf
open PySem PySem.Spec PySem.Calls PyProof.Rows L2
def strB (x : Str) (l : List Nat) : Bool := seq x.cps.toList l
theorem strB_eq {x : Str} {l : List Nat} (h : strB x l = true) : x = sv l := by
  have := seq_iff.mp h
  obtain ⟨a⟩ := x
  have : a.toList = l := this
  subst this
  show (⟨a⟩ : Str) = ⟨a.toList.toArray⟩
  rw [Array.toArray_toList]
theorem strB_ne {x : Str} {l : List Nat} (h : strB x l = false) : x ≠ sv l := fun e => by
  subst e
  unfold strB at h
  rw [show seq (sv l).cps.toList l = true from seq_iff.mpr (by show l.toArray.toList = l; rw [List.toList_toArray])] at h
  cases h
theorem strB_beq {x n : Str} : seq x.cps.toList n.cps.toList = (x == n) := by
  cases h : seq x.cps.toList n.cps.toList with
  | true =>
    have := seq_iff.mp h
    obtain ⟨a⟩ := x
    obtain ⟨b⟩ := n
    have : a = b := Array.toList_inj.mp this
    subst this
    exact (beq_self_eq_true _).symm
  | false =>
    symm
    rw [beq_eq_false_iff_ne]
    intro e
    subst e
    rw [seq_iff.mpr rfl] at h
    cases h
def lkB : List (Str × NameKind) → Str → Option NameKind
  | [], _ => none
  | (n, k) :: r, x => match seq x.cps.toList n.cps.toList with
    | true => some k
    | false => lkB r x
theorem lkB_eq : ∀ (ns : List (Str × NameKind)) (x : Str), lkB ns x = ns.lookup x
  | [], _ => rfl
  | (n, k) :: r, x => by
    unfold lkB
    rw [strB_beq, List.lookup_cons]
    cases x == n with
    | true => rfl
    | false => exact lkB_eq r x
structure Tabs where
  fs : List (List Nat × Nat)
  cs : List (List Nat × Nat)
  vs : List (List Nat × PV)
  bs : List (List Nat)
  ats : List (List Nat)
structure Ct where
  T : Tabs
  NL : List (List Nat)
  sc : PySem.Scope
  F : Str → Bool
def kindB (Γ : Ct) (x : Str) : Option NameKind := lkB Γ.sc.names x
def glB (Γ : Ct) (x : Str) : Bool := match kindB Γ x with
  | some .globalImplicit => true
  | _ => false
def visB (Γ : Ct) (x : Str) : Bool := match kindB Γ x with
  | some .local => true
  | some .cell => true
  | some .free => true
  | _ => false
def locB (Γ : Ct) (x : Str) : Bool := match kindB Γ x with
  | some .local => true
  | some .cell => true
  | _ => false
def lonB (Γ : Ct) (x : Str) : Bool := match kindB Γ x with
  | some .local => true
  | _ => false
def slotB (Γ : Ct) (x : Str) (i : Nat) : Bool := match Γ.NL[i]? with
  | some l => strB x l
  | none => false
def dbgB (x : Str) : Bool := !seq x.cps.toList [95, 95, 100, 101, 98, 117, 103, 95, 95]
def cdB (x : Str) : Bool := !seq x.cps.toList [95, 95, 99, 108, 97, 115, 115, 100, 105, 99, 116, 95, 95]
theorem dbg_of {x : Str} (h : dbgB x = true) : (x == ("__debug__" : Str)) = false := by
  rw [← strB_beq]
  exact (Bool.not_eq_true' _).mp h
theorem cd_of {x : Str} (h : cdB x = true) : (x == ("__classdict__" : Str)) = false := by
  rw [← strB_beq]
  exact (Bool.not_eq_true' _).mp h
abbrev xwNo : XWish := fun _ _ _ _ _ => False
structure GT (S : Sta) (prog : Prog) (g : Str → Option Value) (T : Tabs) : Prop where
  f : ∀ q ∈ T.fs, g (sv q.1) = some (.ref (S.fA q.2)) ∧ W.keepIn S.K (.ref (S.fA q.2)) = true
  c : ∀ q ∈ T.cs, g (sv q.1) = some (.ref (S.cA q.2)) ∧ W.keepIn S.K (.ref (S.cA q.2)) = true ∧ S.own q.2 = true ∧ q.2 < prog.cls.length
  v : ∀ q ∈ T.vs, ∃ v u, g (sv q.1) = some u ∧ RelV v u ∧ ∀ h H ρ, Rep (S.wh h) H ρ q.2 v
  b : ∀ l ∈ T.bs, g (sv l) = none
  a : ∀ l ∈ T.ats, ∀ d, S.own d = true → NoAttr S.K (S.cA d) (sv l)
structure XOk (S : Sta) (prog : Prog) (o : Orc) (Γ : Ct) (X : Cx) : Prop where
  hK : X.K = S.K
  hc : ClsOk S prog
  cm : X.calm = true
  N : X.N = Γ.NL.map sv
  nd : X.N.Nodup
  sc : X.env.scope = Γ.sc
  fn : ∀ x, Γ.F x = true → X.fn x = true
  gt : GT S prog X.mg Γ.T
  gd : X.A.guards = some []
  xe : X.xe = fun _ _ => False
  ex : ∃ k, Room (k + 3) X.A ∧ ∀ h f d, prog.fns[f]? = some d → ∃ fd, FnG X.prog X.w X.K X.mg X.base (L2.CX X.prog X.w) k (S.fA f) fd (d.pn.map sv) (spF (S.wh h) xwNo o f d) ∧ FnDat (S.wh h) X.K d fd
def rlB (scope sc : PySem.Scope) : PySem.Scope :=
  { scope with names := scope.names.map fun (n, k) => if (k == .free && sc.kind == .function && (match lkB sc.names n with
    | some .cell => true
    | _ => false)) then (n, .cell) else (n, k) }
theorem rlB_eq (scope : PySem.Scope) (env : PySem.Env) : relabel scope env = rlB scope env.scope := by
  unfold relabel rlB
  have : ∀ n, (env.kindOf n == some NameKind.cell) = (match lkB env.scope.names n with
    | some .cell => true
    | _ => false) := fun n => by
    unfold PySem.Env.kindOf
    rw [lkB_eq]
    cases List.lookup n env.scope.names with
    | none => rfl
    | some k => cases k <;> rfl
  simp only [this]
def Ct.blk (Γ : Ct) (scope : PySem.Scope) : Ct := { Γ with sc := rlB scope Γ.sc, F := fun x => match lkB scope.names x with
  | some .cell => true
  | _ => false }
section
variable {S : Sta} {X : Cx} {prog : Prog} {o : Orc} {Γ : Ct}
theorem ClsOk.wh {h : Addr → Prop} (c : ClsOk S prog) : ClsOk (S.wh h) prog := ⟨c.cl, c.c1, c.c2, c.c3, c.c4, c.kT, c.kB, c.me, c.mkC, c.kO⟩
theorem GT.wh {h : Addr → Prop} {g : Str → Option Value} {T : Tabs} (c : GT S prog g T) : GT (S.wh h) prog g T := ⟨c.f, c.c, c.v, c.b, c.a⟩
theorem XOk.wh {h : Addr → Prop} (k : XOk S prog o Γ X) : XOk (S.wh h) prog o Γ X :=
  ⟨k.hK, k.hc.wh, k.cm, k.N, k.nd, k.sc, k.fn, k.gt.wh, k.gd, k.xe, k.ex⟩
theorem XOk.blk (k : XOk S prog o Γ X) (h : Addr → Prop) (s : Shared) (H : Hp) (scope : PySem.Scope) (cl : List (Str × Addr)) (C : Addr) (fp : List Addr) : XOk (S.wh h) prog o (Γ.blk scope) (X.blk s H scope (compEnvC scope cl C X.env) fp) := by
  refine ⟨k.hK, k.hc.wh, k.cm, k.N, k.nd, ?_, fun x e => ?_, k.gt.wh, k.gd, rfl, k.ex⟩
  · show relabel scope X.env = rlB scope Γ.sc
    rw [rlB_eq, k.sc]
  · show (scope.names.lookup x == some NameKind.cell) = true
    have e : (match lkB scope.names x with
      | some .cell => true
      | _ => false) = true := e
    rw [lkB_eq] at e
    split at e
    · rename_i q; rw [q]; rfl
    · cases e
theorem XOk.hN {x : Str} {i : Nat} (k : XOk S prog o Γ X) (h : slotB Γ x i = true) : X.N[i]? = some x := by
  unfold slotB at h
  split at h
  · rename_i l e
    rw [k.N, List.getElem?_map, e, strB_eq h]; rfl
  · cases h
theorem XOk.kd {x : Str} (k : XOk S prog o Γ X) : X.env.kindOf x = kindB Γ x := by
  unfold PySem.Env.kindOf kindB
  rw [k.sc, lkB_eq]
theorem XOk.gl {x : Str} (k : XOk S prog o Γ X) (h : glB Γ x = true) : Gl X x := by
  unfold glB at h
  show X.env.kindOf x = _
  rw [k.kd]
  split at h
  · assumption
  · cases h
theorem XOk.vis {x : Str} (k : XOk S prog o Γ X) (h : visB Γ x = true) : Vis X.env.scope x := by
  have e : X.env.scope.names.lookup x = kindB Γ x := k.kd
  unfold Vis
  rw [e]
  unfold visB at h
  split at h
  · exact .inl (by assumption)
  · exact .inr (.inl (by assumption))
  · exact .inr (.inr (by assumption))
  · cases h
theorem XOk.loc {x : Str} (k : XOk S prog o Γ X) (h : locB Γ x = true) : L2.Loc X.env.scope x := by
  have e : X.env.scope.names.lookup x = kindB Γ x := k.kd
  unfold L2.Loc
  rw [e]
  unfold locB at h
  split at h
  · exact .inl (by assumption)
  · exact .inr (by assumption)
  · cases h
theorem XOk.lon {x : Str} (k : XOk S prog o Γ X) (h : lonB Γ x = true) : List.lookup x X.env.scope.names = some NameKind.local := by
  have e : X.env.scope.names.lookup x = kindB Γ x := k.kd
  rw [e]
  unfold lonB at h
  split at h
  · assumption
  · cases h
theorem XOk.hu (k : XOk S prog o Γ X) : X.A.units + 200 < cLine := by
  obtain ⟨n, r, _⟩ := k.ex
  have := r.un
  omega
theorem XOk.hd (k : XOk S prog o Γ X) : X.A.handled = none := by
  obtain ⟨n, r, _⟩ := k.ex
  exact r.hd
theorem cx_no {P : Program} {w : World} {outer : List PySem.Env} {H : Hp} {s : Shared} {u : Value} {s' : Shared} (h : L2.CX P w outer H s (fun _ _ _ => False) u s') : False := by
  obtain ⟨_, _, _, _, _, _, _, _, _, _, _, _, h⟩ := h
  exact h
theorem XOk.fns (k : XOk S prog o Γ X) : ∃ n, CallFns X S xwNo prog o (L2.CX X.prog X.w) n := by
  obtain ⟨n, r, f⟩ := k.ex
  exact ⟨n, ⟨fun i d e => f S.hid i d e, k.gd, r.mono (by omega)⟩⟩
theorem XOk.call (k : XOk S prog o Γ X) : CallOk X S WNo prog o := by
  obtain ⟨n, F⟩ := k.fns
  exact callOk_of (EW := fun _ _ _ _ => False) F (fun _ _ _ _ _ h => h) fun _ _ _ _ _ _ _ h => (cx_no h).elim
theorem XOk.new (k : XOk S prog o Γ X) : NewOk X S WNo prog o := by
  obtain ⟨n, F⟩ := k.fns
  exact newOk_of (EW := fun _ _ _ _ => False) k.hK k.hc F (fun _ _ _ _ _ h => h) fun _ _ _ _ _ _ _ h => (cx_no h).elim
theorem XOk.callK (k : XOk S prog o Γ X) : CallOk (inK X) S WNo prog o := by
  obtain ⟨n, r, f⟩ := k.ex
  refine callOk_of (X := inK X) (CX := L2.CX X.prog X.w) (k := n) (EW := fun _ _ _ _ => False) ⟨fun i d e => f S.hid i d e, k.gd, ?_⟩ (fun _ _ _ _ _ h => h) fun _ _ _ _ _ _ _ h => (cx_no h).elim
  exact Room.in1 (Room.in1 r)
theorem XOk.own (k : XOk S prog o Γ X) : OwnEq X S prog o := own_eq k.hK k.hc k.call (by have := k.hu; omega)
theorem XOk.pas (k : XOk S prog o Γ X) : PassesOwn (model X.prog X.w) X.A X.env X.xe := by rw [k.xe]; exact PassesOwn.never
end
end Pf
end
section
set_option Elab.async false
set_option linter.all false
set_option maxRecDepth 100000
set_option maxHeartbeats 1000000
namespace Pf
open PySem
def noSuper : Expr → Bool
  | .Call (.Name _ _) [] [] _ => false
  | _ => true
def noSt : Expr → Bool
  | .Starred _ _ => false
  | _ => true
def ixB : Expr → Bool
  | .Slice _ _ _ _ => false
  | _ => true
def noSet : Expr → Bool
  | .Set _ _ _ => false
  | _ => true
def noCmp : Expr → Bool
  | .ListComp _ _ _ _ => false
  | .SetComp _ _ _ _ => false
  | .DictComp _ _ _ _ _ => false
  | _ => true
def noTup : Expr → Bool
  | .Tuple _ _ _ => false
  | .List _ _ => false
  | _ => true
def plainT : Expr → Bool
  | .UnaryOp .Not _ _ => false
  | .BoolOp _ _ _ => false
  | .IfExp _ _ _ _ => false
  | .Compare _ _ _ _ => false
  | _ => true
def isBop : Expr → Bool
  | .BoolOp _ _ _ => true
  | _ => false
def constB : Const → PV → Bool
  | .none, .non => true
  | .bool a, .bl b => a == b
  | .int i, .int j => decide (i = j)
  | .str x, .str l => strB x l
  | _, _ => false
mutual
def pvB : PV → PV → Bool
  | .non, .non => true
  | .bl a, .bl b => a == b
  | .int i, .int j => decide (i = j)
  | .str a, .str b => seq a b
  | .tup a, .tup b => pvBs a b
  | _, _ => false
def pvBs : List PV → List PV → Bool
  | [], [] => true
  | x :: xs, y :: ys => pvB x y && pvBs xs ys
  | _, _ => false
end
def opB (q : Operator) (p : BOp) : Bool := decide (q = opA p)
def cmB (q : CmpOp) (p : COp) : Bool := decide (q = cmpA p)
def fnB (Γ : Ct) (x : Str) (f : Nat) : Bool := glB Γ x && dbgB x && Γ.T.fs.any fun q => Nat.beq q.2 f && strB x q.1
def clB (Γ : Ct) (x : Str) (c : Nat) : Bool := glB Γ x && dbgB x && Γ.T.cs.any fun q => Nat.beq q.2 c && strB x q.1
def vlB (Γ : Ct) (x : Str) (p : PV) : Bool := glB Γ x && dbgB x && Γ.T.vs.any fun q => strB x q.1 && pvB q.2 p
def bltB (Γ : Ct) (x : Str) (l : List Nat) : Bool := glB Γ x && strB x l && Γ.T.bs.any (seq l)
def atB (Γ : Ct) (f : List Nat) : Bool := Γ.T.ats.any (seq f)
def biN : BI → Option (List Nat)
  | .len => some [108, 101, 110]
  | .all => some [97, 108, 108]
  | .any => some [97, 110, 121]
  | .max2 => some [109, 97, 120]
  | .min2 => some [109, 105, 110]
  | .maxL => some [109, 97, 120]
  | .minL => some [109, 105, 110]
  | .tuple => some [116, 117, 112, 108, 101]
  | .list => some [108, 105, 115, 116]
  | .sorted => some [115, 111, 114, 116, 101, 100]
  | .repr => some [114, 101, 112, 114]
  | _ => none
def tyC : Ty → List Nat
  | .int => [105, 110, 116]
  | .bool => [98, 111, 111, 108]
  | .str => [115, 116, 114]
  | .tuple => [116, 117, 112, 108, 101]
  | .list => [108, 105, 115, 116]
  | .dict => [100, 105, 99, 116]
  | .own _ => []
def kwB : List Keyword → List (List Nat) → Bool
  | [], [] => true
  | k :: r, l :: ls => (match k.arg with
    | some a => strB a l
    | none => false) && kwB r ls
  | _, _ => false
def kw1 (k : Keyword) (l : List Nat) : Bool := match k.arg with
  | some a => strB a l
  | none => false
def blkB (Γ : Ct) (scope : PySem.Scope) (wp : List Nat) : Bool :=
  decide (scope.kind = .function) && (wp.all (fun i => (Γ.NL[i]?).isSome) && scope.names.all fun y =>
    (match lkB scope.names y.1 with
      | some k => decide (k = y.2)
      | none => false) && (match y.2 with
      | .free => (match kindB Γ y.1 with
        | some .cell => true
        | some .free => true
        | _ => false)
      | .local => wp.any (fun i => slotB Γ y.1 i) || !(Γ.NL.any (strB y.1))
      | .cell => wp.any (fun i => slotB Γ y.1 i) || !(Γ.NL.any (strB y.1))
      | _ => true))
def lenB (es : CL) : Bool := Nat.ble es.len 1000
def swpB (Γ : Ct) (y : Str) (l1 l2 : Nat) (scope : PySem.Scope) : Bool :=
  decide (Γ.sc.kind = .function) && (lonB Γ y && ((l1 == l2) && !(scope.names.any fun (n, k) => n == y && (k == .local || k == .cell))))
def swB (Γ : Ct) (ts vs : List Expr) : Option (List Str) :=
  if !(ts.length == 2 || ts.length == 3) || vs.length != ts.length || Γ.sc.kind != .function then none
  else if vs.any (fun | .Starred .. => true | _ => false) then none
  else
    let line := (ts.head?.map (·.pos.line)).getD 0
    let names := ts.filterMap fun
      | .Name id pos => if kindB Γ id == some .local && pos.line == line then some id else none
      | _ => none
    if names.length != ts.length || names.eraseDups.length != names.length then none
    else if vs.all (foldedForSure 8) then none
    else if vs.all (constantsAlone 8) then none
    else some names
def parB (Γ : Ct) : List Str → List Nat → Bool
  | [], [] => true
  | x :: xs, i :: is => slotB Γ x i && lonB Γ x && parB Γ xs is
  | _, _ => false
mutual
def tOk : Expr → Bool
  | .UnaryOp .Not x _ => tOk x
  | .BoolOp _ es _ => tOks es
  | .IfExp _ _ _ _ => false
  | _ => true
def tOks : List Expr → Bool
  | [] => true
  | e :: es => tOk e && tOks es
end
mutual
def chkT (Γ : Ct) (own : Option (List Nat)) : Expr → CT → Bool
  | e, .v i => match e with
    | .Name x _ => slotB Γ x i && locB Γ x && (Γ.F x || lonB Γ x) && (match own with
      | none => true
      | some vs => vs.any (Nat.beq i))
    | _ => false
  | e, .tup ts => match e with
    | .Tuple es _ _ => chkTs Γ own es ts
    | _ => false
  | e, .star ts i => match e with
    | .Tuple es _ _ => match es.getLast? with
      | some (.Starred (.Name y yp) sp) => chkTs Γ own es.dropLast ts && (slotB Γ y i && locB Γ y && (Γ.F y || lonB Γ y) && (match own with
        | none => true
        | some vs => vs.any (Nat.beq i)))
      | _ => false
    | _ => false
  | e, .attr _ _ => false
  | e, .idx a b => match own with
    | some _ => false
    | none => match e with
      | .Subscript x y _ => ixB y && chkE Γ x a && chkE Γ y b
      | _ => false
def chkTs (Γ : Ct) (own : Option (List Nat)) : List Expr → CTs → Bool
  | es, .nil => match es with
    | [] => true
    | _ => false
  | es, .cons t ts => match es with
    | e :: es => noSt e && chkT Γ own e t && chkTs Γ own es ts
    | [] => false
def chkE (Γ : Ct) : Expr → CE → Bool
  | e, .v i => match e with
    | .Name x _ => slotB Γ x i && visB Γ x && dbgB x && cdB x
    | _ => false
  | e, .cst p => match e with
    | .Constant c _ _ => constB c p
    | .Name x _ => vlB Γ x p || (match p with
      | .fn f => fnB Γ x f
      | _ => false)
    | _ => false
  | e, .tup es => match e with
    | .Tuple xs _ _ => lenB es && chkL Γ xs es
    | _ => false
  | e, .lst es => match e with
    | .List xs _ => lenB es && chkL Γ xs es
    | _ => false
  | e, .dic ks es => match e, ks, es with
    | .Dict [] [] _, .nil, .nil => true
    | _, _, _ => false
  | e, .lk _ c => plainT e && chkE Γ e c
  | e, .mk (.op p a b) => match p, e with
    | .add, .BinOp x .Add y _ => chkE Γ x a && chkE Γ y b
    | _, _ => false
  | e, .mk (.lst es) => match e with
    | .List xs _ => lenB es && chkL Γ xs es
    | _ => false
  | e, .mk (.dic ks es) => match e, ks, es with
    | .Dict [] [] _, .nil, .nil => true
    | _, _, _ => false
  | e, .mk (.bi b es) => match e with
    | .Call (.Name x _) (y :: ys) [] _ => mkB b && (match biN b with
      | some l => bltB Γ x l
      | none => false) && chkL Γ (y :: ys) es
    | _ => false
  | e, .mk (.comp wp elt (.cons t s c .nil)) => match e with
    | .ListComp x [⟨tg, iter, ifs, 0⟩] scope _ => noSet iter && blkB Γ scope wp && chkI Γ iter s && chkT (Γ.blk scope) (some wp) tg t && chkO (Γ.blk scope) ifs c && chkE (Γ.blk scope) x elt
    | _ => false
  | e, .mk (.dcomp wp kc vc (.cons t s c .nil)) => match e with
    | .DictComp kx vx [⟨tg, iter, ifs, 0⟩] scope _ => noSet iter && blkB Γ scope wp && chkI Γ iter s && chkT (Γ.blk scope) (some wp) tg t && chkO (Γ.blk scope) ifs c && chkE (Γ.blk scope) kx kc && chkE (Γ.blk scope) vx vc
    | _ => false
  | e, .mk _ => false
  | e, .mkd ks es => match e with
    | .Dict kx xs _ => chkD Γ kx xs ks es && !kx.isEmpty && Nat.ble kx.length 15
    | _ => false
  | e, .stuck => true
  | e, .op p a b => match e with
    | .BinOp x q y _ => opB q p && opOk p && chkE Γ x a && chkE Γ y b
    | _ => false
  | e, .neg a => match e with
    | .UnaryOp .USub x _ => chkE Γ x a
    | _ => false
  | e, .cmp o a b => match e with
    | .Compare x [q] [y] _ => (match o with
      | .isN => (match q, y with
        | .Is, .Constant .none _ _ => true
        | _, _ => false) && chkE Γ x a && (match b with
        | .cst .non => true
        | _ => false)
      | .notN => (match q, y with
        | .IsNot, .Constant .none _ _ => true
        | _, _ => false) && chkE Γ x a && (match b with
        | .cst .non => true
        | _ => false)
      | _ => cmB q o && copOk o && !behindInMarks q y && chkE Γ x a && chkE Γ y b)
    | _ => false
  | e, .chn p q a b c => match e with
    | .Compare x [r, s] [y, z] _ => cmB r p && cmB s q && copOk p && copOk q && !lastMarks [r, s] [y, z] && chkE Γ x a && chkE Γ y b && chkE Γ z c
    | _ => false
  | e, .and a b => match e with
    | .BoolOp .And (x :: y :: rest) pos => chkE Γ x a && (match rest with
      | [] => chkE Γ y b
      | _ => chkE Γ (.BoolOp .And (y :: rest) pos) b)
    | _ => false
  | e, .or a b => match e with
    | .BoolOp .Or (x :: y :: rest) pos => chkE Γ x a && (match rest with
      | [] => chkE Γ y b
      | _ => chkE Γ (.BoolOp .Or (y :: rest) pos) b)
    | _ => false
  | e, .not a => match e with
    | .UnaryOp .Not x _ => chkE Γ x a
    | _ => false
  | e, .ite c a b => match e with
    | .IfExp x y z _ => tOk x && chkE Γ x c && chkE Γ y a && chkE Γ z b
    | _ => false
  | e, .call f es ks => match e with
    | .Call (.Name x _) xs kws _ => fnB Γ x f && kwB kws ks && chkA Γ xs kws es
    | _ => false
  | e, .callv _ _ => false
  | e, .meth a m es ks => match e with
    | .Call (.Attribute x nm apos) xs kws pos => noSuper x && strB nm m && kwB kws ks && (apos.endLine == pos.line) && Nat.blt (xs.length + kws.length) 20 && chkE Γ x a && chkA Γ xs kws es
    | _ => false
  | e, .new c es ks => match e with
    | .Call (.Name x _) xs kws _ => clB Γ x c && kwB kws ks && chkA Γ xs kws es
    | _ => false
  | e, .attr a f => match e with
    | .Attribute x nm _ => noSuper x && strB nm f && atB Γ f && chkE Γ x a
    | _ => false
  | e, .idx a b => match e with
    | .Subscript x y _ => ixB y && chkE Γ x a && chkE Γ y b
    | _ => false
  | e, .sl a lo hi => match e with
    | .Subscript x (.Slice l h none _) _ => chkE Γ x a && chkSl Γ l lo && chkSl Γ h hi
    | _ => false
  | e, .bi (.isinst t) es => match e, es with
    | .Call (.Name x _) [y, .Name z _] [] _, .cons c .nil => noSt y && bltB Γ x [105, 115, 105, 110, 115, 116, 97, 110, 99, 101] && (match t with
      | .own d => clB Γ z d
      | _ => bltB Γ z (tyC t)) && chkE Γ y c
    | _, _ => false
  | e, .bi .maxD es => match e, es with
    | .Call (.Name x _) [y] [kw] _, .cons c (.cons d .nil) => noSt y && bltB Γ x [109, 97, 120] && kw1 kw [100, 101, 102, 97, 117, 108, 116] && chkE Γ y c && chkE Γ kw.value d
    | _, _ => false
  | e, .bi b es => match e with
    | .Call (.Name x _) (y :: ys) [] _ => (match biN b with
      | some l => bltB Γ x l
      | none => false) && chkL Γ (y :: ys) es
    | _ => false
  | e, .bis b s => match b, s with
    | .list, .zip true cs => match e with
      | .Call (.Name x _) [.Call (.Name z _) (y :: ys) [⟨some kn, .Constant (.bool true) _ _, _⟩] _] [] _ => bltB Γ x [108, 105, 115, 116] && bltB Γ z [122, 105, 112] && strB kn [115, 116, 114, 105, 99, 116] && chkL Γ (y :: ys) cs
      | _ => false
    | _, _ => false
  | e, .sortk c k => match e, k with
    | .Call (.Name x _) [y] [kw] _, .cst (.fn f) => noSt y && bltB Γ x [115, 111, 114, 116, 101, 100] && kw1 kw [107, 101, 121] && chkE Γ y c && (match kw.value with
      | .Name z _ => fnB Γ z f
      | _ => false)
    | _, _ => false
  | e, .sm m a es => match m with
    | .append => match e, es with
      | .Call (.Attribute x nm apos) [y] [] pos, .cons c .nil => noSt y && noSuper x && strB nm [97, 112, 112, 101, 110, 100] && (apos.endLine == pos.line) && chkE Γ x a && chkE Γ y c
      | _, _ => false
    | .remove => match e, es with
      | .Call (.Attribute x nm apos) [y] [] pos, .cons c .nil => noSt y && noSuper x && strB nm [114, 101, 109, 111, 118, 101] && (apos.endLine == pos.line) && chkE Γ x a && chkE Γ y c
      | _, _ => false
    | .sitems => match e, es with
      | .Call (.Name x _) [.Call (.Attribute y nm apos) [] [] pos] [] _, .nil => noSuper y && bltB Γ x [115, 111, 114, 116, 101, 100] && strB nm [105, 116, 101, 109, 115] && (apos.endLine == pos.line) && chkE Γ y a
      | _, _ => false
    | _ => false
  | e, .comp wp elt (.cons t s c .nil) => match e with
    | .ListComp x [⟨tg, iter, ifs, 0⟩] scope _ => noSet iter && blkB Γ scope wp && chkI Γ iter s && chkT (Γ.blk scope) (some wp) tg t && chkO (Γ.blk scope) ifs c && chkE (Γ.blk scope) x elt
    | _ => false
  | e, .comp _ _ _ => false
  | e, .dcomp _ _ _ _ => false
  | e, .lam _ => false
def chkL (Γ : Ct) : List Expr → CL → Bool
  | xs, .nil => match xs with
    | [] => true
    | _ => false
  | xs, .cons c cs => match xs with
    | x :: xs => noSt x && chkE Γ x c && chkL Γ xs cs
    | [] => false
def chkA (Γ : Ct) : List Expr → List Keyword → CL → Bool
  | xs, kws, .nil => match xs, kws with
    | [], [] => true
    | _, _ => false
  | xs, kws, .cons c cs => match xs with
    | x :: xs => noSt x && chkE Γ x c && chkA Γ xs kws cs
    | [] => match kws with
      | k :: kws => chkE Γ k.value c && chkA Γ [] kws cs
      | [] => false
def chkD (Γ : Ct) : List (Option Expr) → List Expr → List PV → CL → Bool
  | kx, xs, ks, .nil => match kx, xs, ks with
    | [], [], [] => true
    | _, _, _ => false
  | kx, xs, ks, .cons c cs => match kx, xs, ks with
    | some (.Constant (.str n) _ _) :: kx, x :: xs, .str l :: ks => strB n l && chkE Γ x c && chkD Γ kx xs ks cs
    | _, _, _ => false
def chkSl (Γ : Ct) : Option Expr → CO → Bool
  | e, .n => match e with
    | none => true
    | some _ => false
  | e, .s c => match e with
    | some x => chkE Γ x c
    | none => false
def chkO (Γ : Ct) : List Expr → CO → Bool
  | e, .n => match e with
    | [] => true
    | _ => false
  | e, .s c => match e with
    | [x] => tOk x && chkE Γ x c
    | _ => false
def chkI (Γ : Ct) : Expr → CI → Bool
  | e, .e c => chkE Γ e c
  | e, .rng a => match e with
    | .Call (.Name x _) [y] [] _ => noSt y && bltB Γ x [114, 97, 110, 103, 101] && chkE Γ y a
    | _ => false
  | e, .rng2 a b => match e with
    | .Call (.Name x _) [y, z] [] _ => noSt y && noSt z && bltB Γ x [114, 97, 110, 103, 101] && chkE Γ y a && chkE Γ z b
    | _ => false
  | e, .enum es => match e with
    | .Call (.Name x _) (y :: ys) [] _ => bltB Γ x [101, 110, 117, 109, 101, 114, 97, 116, 101] && chkL Γ (y :: ys) es
    | _ => false
  | e, .enumz es => match e with
    | .Call (.Name x _) [.Call (.Name z _) (y :: ys) [] _] [] _ => bltB Γ x [101, 110, 117, 109, 101, 114, 97, 116, 101] && bltB Γ z [122, 105, 112] && chkL Γ (y :: ys) es
    | _ => false
  | e, .zip st es => match st with
    | false => match e with
      | .Call (.Name z _) (y :: ys) [] _ => bltB Γ z [122, 105, 112] && chkL Γ (y :: ys) es
      | _ => false
    | true => match e with
      | .Call (.Name z _) (y :: ys) [⟨some kn, .Constant (.bool true) _ _, _⟩] _ => bltB Γ z [122, 105, 112] && strB kn [115, 116, 114, 105, 99, 116] && chkL Γ (y :: ys) es
      | _ => false
end
def ends : Expr → Option Pos
  | .Attribute _ _ p => some p
  | _ => none
def chkLC (Γ : Ct) (v : Expr) (wp : List Nat) (elt : CE) (t : CT) (s : CI) (c : CO) : Bool := match v with
  | .ListComp x [⟨tg, iter, ifs, 0⟩] scope _ => noSet iter && blkB Γ scope wp && chkI Γ iter s && chkT (Γ.blk scope) (some wp) tg t && chkO (Γ.blk scope) ifs c && chkE (Γ.blk scope) x elt
  | _ => false
mutual
def chkS (Γ : Ct) : Stmt → CS → Bool
  | st, .stuck => true
  | st, .pass => match st with
    | .Pass _ => true
    | _ => false
  | st, .ex c => match st with
    | .Expr e _ => noCmp e && chkE Γ e c
    | _ => false
  | st, .ret c => match st with
    | .Return (some e) _ => chkE Γ e c
    | .Return none _ => match c with
      | .cst .non => true
      | _ => false
    | _ => false
  | st, .ite c a b => match st with
    | .If e x y _ => tOk e && chkE Γ e c && chkB Γ x a && chkB Γ y b
    | _ => false
  | st, .for_ t s b => match st with
    | .For tg iter body [] _ => noSet iter && chkI Γ iter s && chkT Γ none tg t && chkB Γ body b
    | _ => false
  | st, .aug p t c => match st, t with
    | .AugAssign (.Name x _) q e _, .v i => opB q p && (match p with
      | .add => true
      | .sub => true
      | _ => false) && slotB Γ x i && locB Γ x && (Γ.F x || lonB Γ x) && chkE Γ e c
    | _, _ => false
  | st, .par is es => match st with
    | .Assign [.Tuple ts _ _] (.Tuple vs _ _) _ => (match swB Γ ts vs with
      | some xs => parB Γ xs is && Nat.ble is.length 3
      | none => false) && chkL Γ vs es
    | _ => false
  | st, .asg t c => match st with
    | .Assign [tg] v pos => match tg, t with
      | .Attribute x nm _, .attr a f => strB nm f && atB Γ f && chkE Γ x a && chkE Γ v c
      | .Name y py, .v i => match v with
        | .ListComp x gs scope vp => match swpB Γ y py.line vp.line scope with
          | true => slotB Γ y i && (match c with
            | .comp wp elt (.cons t s co .nil) => chkLC Γ v wp elt t s co
            | .mk (.comp wp elt (.cons t s co .nil)) => chkLC Γ v wp elt t s co
            | _ => false)
          | false => false
        | _ => noCmp v && chkT Γ none tg t && chkE Γ v c
      | .Tuple _ _ _, _ => noCmp v && noTup v && chkT Γ none tg t && chkE Γ v c
      | .Subscript _ _ _, _ => noCmp v && chkT Γ none tg t && chkE Γ v c
      | _, _ => false
    | _ => false
  | st, _ => false
def chkB (Γ : Ct) : List Stmt → CB → Bool
  | sts, .nil => match sts with
    | [] => true
    | _ => false
  | sts, .cons s b => match s with
    | .stuck => true
    | .fgt _ => chkB Γ sts b
    | _ => match sts with
      | st :: r => chkS Γ st s && chkB Γ r b
      | [] => false
end
end Pf
end
section
set_option Elab.async false
set_option linter.all false
set_option maxRecDepth 100000
set_option maxHeartbeats 1000000
namespace Pf
open PySem PySem.Spec PySem.Calls PyProof.Rows L2
section
variable {S : Sta} {Wx : WP} {X : Cx} {prog : Prog} {o : Orc} {H : Hp} {ρ : List Addr} {M : Sto} {hx : Option Exn} {Γ : Ct}
theorem s_mkadd {a b : PySem.Expr} {c d : CE} {pos : Pos} (ha : PE X a (tE S Wx fun env => evE prog o env c)) (hb : PE X b (tE S Wx fun env => evE prog o env d)) :
    PE X (.BinOp a .Add b pos) (tE S Wx fun env => evE prog o env (.mk (.op .add c d))) :=
  PE.imp (pe_op op_cat ha hb) fun σ H Q ⟨ρ, M, env, A, E, P⟩ => by
    have P : Post S ρ H (((evE prog o env c M).bind fun x M => (evE prog o env d M).bind fun y M => opRs .add x y M).bind mkR) (fun v _ ρ' H' => ∀ x, Rep S H' ρ' v x → Q x H') (Wx σ) := P
    rw [Rs.bind_assoc] at P
    refine tE_mono (tE_seq (d := fun env => evE prog o env c) A E P) fun x H1 ⟨v, M1, ρ1, A1, E1, x1, r1, P1⟩ => ?_
    have P1 : Post S ρ1 H1 (((evE prog o env d M1).bind fun y M => opRs .add v y M).bind mkR) (fun v _ ρ' H' => ∀ x, Rep S H' ρ' v x → Q x H') (Wx σ) := P1
    rw [Rs.bind_assoc] at P1
    refine tE_mono (tE_seq (d := fun env => evE prog o env d) A1 E1 P1) fun y H2 ⟨w, M2, ρ2, A2, E2, x2, r2, P2⟩ => ?_
    have ra := Rep.ext x2 v r1
    have P2 : Post S ρ2 H2 ((ofO "operator" (opV .add (derefW M2 v) (derefW M2 w)) M2).bind mkR) (fun v _ ρ' H' => ∀ x, Rep S H' ρ' v x → Q x H') (Wx σ) := P2
    generalize ea : derefW M2 v = a' at P2
    generalize eb : derefW M2 w = b' at P2
    cases a' with
    | lst xs =>
      cases b' with
      | lst ys =>
        cases e : opV .add (.lst xs) (.lst ys) with
        | none => rw [e] at P2; exact P2.elim
        | some z =>
          rw [e] at P2
          obtain ⟨hz, rfl⟩ := fitO_some e
          obtain ⟨p, vs, e1, t1, s1⟩ := w_lst A2 ra ea
          obtain ⟨p2, ws, e2, t2, s2⟩ := w_lst A2 r2 eb
          exact ⟨p, p2, vs, ws, e1, e2, t1, t2, by rw [← s1.len, ← s2.len]; exact hz, fun p3 hp => P2 _ _ (ext_loc hp) (abs_loc A2 hp (repH_lst hp (s1.app s2))) _ (rep_loc A2)⟩
      | _ => exact P2.elim
    | int i => cases b' <;> first
      | exact P2.elim
      | exact (show False from P2).elim
    | str l =>
      cases b' with
      | str l2 =>
        cases e : opV .add (.str l) (.str l2) with
        | none => rw [e] at P2; exact P2.elim
        | some z =>
          rw [e] at P2
          obtain ⟨hz, rfl⟩ := fitO_some e
          exact (show False from P2).elim
      | _ => exact P2.elim
    | tup l =>
      cases b' with
      | tup l2 =>
        cases e : opV .add (.tup l) (.tup l2) with
        | none => rw [e] at P2; exact P2.elim
        | some z =>
          rw [e] at P2
          obtain ⟨hz, rfl⟩ := fitO_some e
          exact (show False from P2).elim
      | _ => exact P2.elim
    | _ => cases b' <;> exact P2.elim
theorem s_one {op : PySem.BoolOp} {a : PySem.Expr} {d : Den PV} {pos : Pos} (h : PE X a (tE S Wx d)) : PE X (.BoolOp op [a] pos) (tE S Wx d) :=
  ⟨fun pins s σ H Q I t => h.run pins s σ H Q I t⟩
theorem t_bop {op : PySem.BoolOp} {es : List PySem.Expr} {pos : Pos} {t : TT} (h : PW X (.BoolOp op es pos) t) : PT X (.BoolOp op es pos) t :=
  ⟨fun pins s σ H Q I q => h.run _ pins s σ H Q I q⟩
theorem b_stuck {sts : List Stmt} {b : CB} : PSs X sts (tS S Wx fun env => evB prog o hx env (.cons .stuck b)) :=
  ⟨fun pins s σ H D I ⟨ρ, M, env, A, E, P⟩ => (show False from P).elim⟩
theorem noSuper_base {a : PySem.Expr} {nm : Str} {env : PySem.Env} {wh : Sem Value} (h : noSuper a = true) : attributeBase a nm env wh = wh := by
  unfold attributeBase
  split
  · cases h
  · rfl
theorem meth_form {a : PySem.Expr} {nm : Str} {es : List PySem.Expr} {kws : List Keyword} {apos pos : Pos} {env : PySem.Env} (h : noSuper a = true) (hp : (apos.endLine == pos.line) = true)
    (hf : methodCallForm (es.length + kws.length) (backTo pos (starEach es env)) (backToKw pos (keywordEach kws env)) = true) :
    eval (.Call (.Attribute a nm apos) es kws pos) env = (do
      let ov ← eval a env
      standAt apos.atName
      let fx ← holding [ov] (getMethod ov nm (do return (← importBound a env).getD true))
      match fx with
        | (f, first) => callWith pos f first (backTo pos (starEach es env)) (backToKw pos (keywordEach kws env))) := by
  have e : eval (.Call (.Attribute a nm apos) es kws pos) env = (do
      let ov ← attributeBase a nm env (eval a env)
      standAt apos.atName
      methodCall a nm apos pos env ov (es.length + kws.length) (backTo pos (starEach es env)) (backToKw pos (keywordEach kws env))) := rfl
  rw [e, noSuper_base h]
  unfold methodCall
  rw [hf]
  unfold methodCallPos calleeOf
  simp only [Bool.not_true, hp, Bool.or_true, if_true, Bool.false_or]
  rfl
theorem ix_of {b : PySem.Expr} (h : ixB b = true) : PlainIx b := fun o i => by
  cases b <;> first
    | rfl
    | cases h
theorem set_of {e : PySem.Expr} {env : PySem.Env} (h : noSet e = true) (x : Value) : foldedSetIterable e env x = pure x := by
  cases e <;> first
    | rfl
    | cases h
theorem cmp_of {e : PySem.Expr} {t : Option PySem.Expr} {l : Nat} {env : PySem.Env} (h : noCmp e = true) : swapsWith e t l env = pure false := by
  cases e <;> first
    | rfl
    | cases h
theorem att_of {e a : PySem.Expr} {nm : Str} {p : Pos} {l : Nat} {env : PySem.Env} : swapsWith e (some (.Attribute a nm p)) l env = pure false := by
  cases e <;> rfl
theorem plain_of {e : PySem.Expr} {env : PySem.Env} (h : plainT e = true) (whole : Sem Value) : PySem.isTrue e env whole = (do let v ← whole; standAt e.pos; holding [v] (truthy v)) := by
  unfold PySem.isTrue
  cases e with
  | UnaryOp op x p => cases op <;> first
    | rfl
    | cases h
  | BoolOp _ _ _ => cases h
  | IfExp _ _ _ _ => cases h
  | Compare _ _ _ _ => cases h
  | _ => rfl
end
end Pf
end
section
set_option Elab.async false
set_option linter.all false
set_option maxRecDepth 100000
set_option maxHeartbeats 1000000
namespace Pf
open PySem PySem.Spec PySem.Calls PyProof.Rows L2
def TrE (S : Sta) (prog : Prog) (o : Orc) (X : Cx) (e : PySem.Expr) (c : CE) : Prop :=
  PE X e (tE S WNo fun env => evE prog o env c) ∧ (tOk e = true → PT X e (tT S WNo (tst fun env => evE prog o env c))) ∧
    ∀ op es pos, e = .BoolOp op es pos → tOk e = true → PW X e (tT S WNo (tst fun env => evE prog o env c))
section
variable {S : Sta} {X : Cx} {prog : Prog} {o : Orc} {H : Hp} {ρ : List Addr} {M : Sto} {hx : Option Exn} {Γ : Ct}
theorem wno (σ σ' : L2.St) : (WNo : WP) σ = WNo σ' := rfl
theorem wnn : ∀ σ e M ρ H, ¬ (WNo : WP) σ e M ρ H := fun _ _ _ _ _ h => h
theorem tr_plain {e : PySem.Expr} {c : CE} (k : XOk S prog o Γ X) (h : PE X e (tE S WNo fun env => evE prog o env c)) (hp : plainT e = true) : TrE S prog o X e c :=
  ⟨h, fun _ => t_truth h k.hK (plain_of hp), fun op es pos e1 => by subst e1; cases hp⟩
theorem tr_stuck {e : PySem.Expr} : TrE S prog o X e .stuck :=
  ⟨s_stuck, fun _ => ⟨fun pins s σ H Q I ⟨ρ, M, env, A, E, P⟩ => (show False from P).elim⟩, fun _ _ _ _ _ => ⟨fun wh pins s σ H Q I ⟨ρ, M, env, A, E, P⟩ => (show False from P).elim⟩⟩
theorem any_fs {Γ : Ct} {x : Str} {f : Nat} (h : fnB Γ x f = true) : glB Γ x = true ∧ (x == ("__debug__" : Str)) = false ∧ ∃ q ∈ Γ.T.fs, q.2 = f ∧ x = sv q.1 := by
  unfold fnB at h
  simp only [Bool.and_eq_true, List.any_eq_true] at h
  obtain ⟨⟨h1, h2⟩, q, h3, h4, h5⟩ := h
  exact ⟨h1, dbg_of h2, q, h3, Nat.eq_of_beq_eq_true h4, strB_eq h5⟩
theorem any_cs {Γ : Ct} {x : Str} {f : Nat} (h : clB Γ x f = true) : glB Γ x = true ∧ (x == ("__debug__" : Str)) = false ∧ ∃ q ∈ Γ.T.cs, q.2 = f ∧ x = sv q.1 := by
  unfold clB at h
  simp only [Bool.and_eq_true, List.any_eq_true] at h
  obtain ⟨⟨h1, h2⟩, q, h3, h4, h5⟩ := h
  exact ⟨h1, dbg_of h2, q, h3, Nat.eq_of_beq_eq_true h4, strB_eq h5⟩
mutual
theorem pvB_eq : ∀ {a b : PV}, pvB a b = true → a = b
  | .non, b, h => by cases b <;> first | rfl | cases h
  | .bl x, b, h => by
    cases b <;> first | (cases h; done) | skip
    rename_i y
    have : x = y := by simpa [pvB] using h
    rw [this]
  | .int x, b, h => by
    cases b <;> first | (cases h; done) | skip
    rename_i y
    have : x = y := by simpa [pvB] using h
    rw [this]
  | .str x, b, h => by
    cases b <;> first | (cases h; done) | skip
    rename_i y
    rw [seq_iff.mp (show seq x y = true from h)]
  | .tup x, b, h => by
    cases b <;> first | (cases h; done) | skip
    rename_i y
    rw [pvBs_eq (show pvBs x y = true from h)]
  | .lst _, b, h => by cases b <;> cases h
  | .dic _, b, h => by cases b <;> cases h
  | .loc _, b, h => by cases b <;> cases h
  | .fn _, b, h => by cases b <;> cases h
  | .cls _, b, h => by cases b <;> cases h
  | .clo _ _, b, h => by cases b <;> cases h
  | .exo _ _, b, h => by cases b <;> cases h
theorem pvBs_eq : ∀ {a b : List PV}, pvBs a b = true → a = b
  | [], b, h => by cases b <;> first | rfl | cases h
  | x :: xs, b, h => by
    cases b with
    | nil => cases h
    | cons y ys =>
      have h : (pvB x y && pvBs xs ys) = true := h
      rw [Bool.and_eq_true] at h
      rw [pvB_eq h.1, pvBs_eq h.2]
end
theorem k_var {x : Str} {pos : Pos} {i : Nat} (k : XOk S prog o Γ X) (h : (slotB Γ x i && visB Γ x && dbgB x && cdB x) = true) : PE X (.Name x pos) (tE S WNo fun env => evE prog o env (.v i)) := by
  simp only [Bool.and_eq_true] at h
  exact s_var (k.hN h.1.1.1) (k.vis h.1.1.2) (dbg_of h.1.2) (cd_of h.2)
theorem k_const {c : Const} {j : Nat} {pos : Pos} {p : PV} (h : constB c p = true) : PE X (.Constant c j pos) (tE S WNo fun env => evE prog o env (.cst p)) := by
  cases c with
  | none => cases p <;> first | (cases h; done) | exact s_non
  | bool b =>
    cases p <;> first | (cases h; done) | skip
    rename_i b2
    have : b = b2 := by simpa [constB] using h
    subst this
    exact s_bl
  | int i =>
    cases p <;> first | (cases h; done) | skip
    rename_i b2
    have : i = b2 := by simpa [constB] using h
    subst this
    exact s_int
  | str x =>
    cases p <;> first | (cases h; done) | skip
    rw [strB_eq h]
    exact s_str
  | _ => cases p <;> cases h
theorem k_fn {x : Str} {pos : Pos} {f : Nat} (k : XOk S prog o Γ X) (h : fnB Γ x f = true) : PE X (.Name x pos) (tE S WNo fun env => evE prog o env (.cst (.fn f))) := by
  obtain ⟨h1, h2, q, h3, rfl, rfl⟩ := any_fs h
  exact s_glob (v := .ref (S.fA q.2)) (k.gl h1) (k.gt.f q h3).1 rfl (fun H ρ => rfl) h2
theorem k_vl {x : Str} {pos : Pos} {p : PV} (k : XOk S prog o Γ X) (h : vlB Γ x p = true) : PE X (.Name x pos) (tE S WNo fun env => evE prog o env (.cst p)) := by
  unfold vlB at h
  simp only [Bool.and_eq_true, List.any_eq_true] at h
  obtain ⟨⟨h1, h2⟩, q, h3, h4, h5⟩ := h
  have e := pvB_eq h5
  have ex := strB_eq h4
  subst e
  subst ex
  obtain ⟨v, u, g1, g2, g3⟩ := k.gt.v q h3
  exact s_glob (k.gl h1) g1 g2 (fun H ρ => g3 S.hid H ρ) (dbg_of h2)
theorem k_blt {x : Str} {l : List Nat} (k : XOk S prog o Γ X) (h : bltB Γ x l = true) : x = sv l ∧ Gl X (sv l) ∧ X.mg (sv l) = none := by
  unfold bltB at h
  simp only [Bool.and_eq_true, List.any_eq_true] at h
  obtain ⟨⟨h1, h2⟩, q, h3, h4⟩ := h
  have ex := strB_eq h2
  subst ex
  have e := seq_iff.mp h4
  subst e
  exact ⟨rfl, k.gl h1, k.gt.b _ h3⟩
theorem lenB_le {es : CL} (h : lenB es = true) : es.len ≤ sizeLine := by
  have := Nat.le_of_ble_eq_true h
  rw [sizeLine_eq]
  omega
theorem noSt_cons {e : PySem.Expr} {es : List PySem.Expr} (h : noSt e = true) (hs : noStar es = true) : noStar (e :: es) = true := by
  cases e <;> first
    | exact hs
    | cases h
theorem at_of {f : List Nat} (k : XOk S prog o Γ X) (h : atB Γ f = true) : ∀ d, S.own d = true → NoAttr S.K (S.cA d) (sv f) := by
  unfold atB at h
  simp only [List.any_eq_true] at h
  obtain ⟨q, h1, h2⟩ := h
  rw [seq_iff.mp h2]
  exact k.gt.a q h1
theorem kw_of : ∀ {kws : List Keyword} {ks : List (List Nat)}, kwB kws ks = true → kwNm kws ks
  | [], ks, h => by
    cases ks with
    | nil => rfl
    | cons _ _ => cases h
  | kw :: kws, ks, h => by
    cases ks with
    | nil => cases h
    | cons l ls =>
      have h : ((match kw.arg with
        | some a => strB a l
        | none => false) && kwB kws ls) = true := h
      rw [Bool.and_eq_true] at h
      cases ha : kw.arg with
      | none => rw [ha] at h; cases h.1
      | some a =>
        rw [ha] at h
        exact ⟨l, ls, by rw [ha, strB_eq h.1], rfl, kw_of h.2⟩
theorem kw1_of {kw : Keyword} {l : List Nat} (h : kw1 kw l = true) : kw = ⟨some (sv l), kw.value, kw.pos⟩ := by
  obtain ⟨a, v, p⟩ := kw
  unfold kw1 at h
  cases a with
  | none => cases h
  | some a => rw [strB_eq (show strB a l = true from h)]
theorem kw_len : ∀ {kws : List Keyword} {ks : List (List Nat)}, kwNm kws ks → kws.length = ks.length
  | [], ks, h => by rw [show ks = [] from h]; rfl
  | _ :: kws, ks, ⟨a, t, _, e, h⟩ => by rw [e, List.length_cons, List.length_cons, kw_len h]
theorem k_bi {b : BI} {x : Str} {p pos : Pos} {y : PySem.Expr} {ys : List PySem.Expr} {es : CL} {l : List Nat} (k : XOk S prog o Γ X) (hl : biN b = some l) (h : bltB Γ x l = true) (hs : noStar (y :: ys) = true) (ha : PA X (y :: ys) (tA S WNo fun env => evL prog o env es)) :
    PE X (.Call (.Name x p) (y :: ys) [] pos) (tE S WNo fun env => evE prog o env (.bi b es)) := by
  obtain ⟨rfl, hg, hm⟩ := k_blt k h
  have hu := k.hu
  cases b <;> first
    | (cases hl; done)
    | skip
  all_goals cases hl
  · exact s_bi (cr_lenV k.hK) (fun hc ha => pe_callB hc hg hm (by rfl) ha (hn := by decide) (hdb := by decide) (he := star_of hs) (hpl := star_any (noStar_cons hs).2)) ha
  · exact s_bi (cr_allV k.hK k.cm) (fun hc ha => pe_callB hc hg hm (by rfl) ha (hn := by decide) (hdb := by decide) (he := star_of hs) (hpl := star_any (noStar_cons hs).2)) ha
  · exact s_bi (cr_anyV k.hK k.cm) (fun hc ha => pe_callB hc hg hm (by rfl) ha (hn := by decide) (hdb := by decide) (he := star_of hs) (hpl := star_any (noStar_cons hs).2)) ha
  · exact s_bi (cr_max2V k.cm) (fun hc ha => pe_callB hc hg hm (by rfl) ha (hn := by decide) (hdb := by decide) (he := star_of hs) (hpl := star_any (noStar_cons hs).2)) ha
  · exact s_bi (cr_min2V k.cm) (fun hc ha => pe_callB hc hg hm (by rfl) ha (hn := by decide) (hdb := by decide) (he := star_of hs) (hpl := star_any (noStar_cons hs).2)) ha
  · exact s_bi (cr_maxV k.hK k.cm) (fun hc ha => pe_callB hc hg hm (by rfl) ha (hn := by decide) (hdb := by decide) (he := star_of hs) (hpl := star_any (noStar_cons hs).2)) ha
  · exact s_bi (cr_minV k.hK k.cm) (fun hc ha => pe_callB hc hg hm (by rfl) ha (hn := by decide) (hdb := by decide) (he := star_of hs) (hpl := star_any (noStar_cons hs).2)) ha
  · exact s_bi (cr_tupleV k.hK) (fun hc ha => pe_callTy hc hg hm (by rfl) ha (hn := by decide) (hdb := by decide) (he := star_of hs) (hpl := star_any (noStar_cons hs).2)) ha
  · exact s_bin (cr_listV k.hK) (fun hc ha => pe_callTy hc hg hm (by rfl) ha (hn := by decide) (hdb := by decide) (he := star_of hs) (hpl := star_any (noStar_cons hs).2)) m_list ha
  · exact s_bin (cr_sortedV k.hK) (fun hc ha => pe_callB hc hg hm (by rfl) ha (hn := by decide) (hdb := by decide) (he := star_of hs) (hpl := star_any (noStar_cons hs).2)) m_sorted ha
  · exact s_bi (cr_reprV k.hK k.gd (by omega)) (fun hc ha => pe_callB hc hg hm (by rfl) ha (hn := by decide) (hdb := by decide) (he := star_of hs) (hpl := star_any (noStar_cons hs).2)) ha
theorem k_mkbi {b : BI} {x : Str} {p pos : Pos} {y : PySem.Expr} {ys : List PySem.Expr} {es : CL} {l : List Nat} (k : XOk S prog o Γ X) (hb : mkB b = true) (hl : biN b = some l) (h : bltB Γ x l = true) (hs : noStar (y :: ys) = true) (ha : PA X (y :: ys) (tA S WNo fun env => evL prog o env es)) :
    PE X (.Call (.Name x p) (y :: ys) [] pos) (tE S WNo fun env => evE prog o env (.mk (.bi b es))) := by
  obtain ⟨rfl, hg, hm⟩ := k_blt k h
  cases b <;> first
    | (cases hb; done)
    | skip
  all_goals cases hl
  · exact s_mkbi (cr_listV k.hK) (fun hc ha => pe_callTy hc hg hm (by rfl) ha (hn := by decide) (hdb := by decide) (he := star_of hs) (hpl := star_any (noStar_cons hs).2)) m_list ha
  · exact s_mkbi (cr_sortedV k.hK) (fun hc ha => pe_callB hc hg hm (by rfl) ha (hn := by decide) (hdb := by decide) (he := star_of hs) (hpl := star_any (noStar_cons hs).2)) m_sorted ha
theorem tyC_boot {t : Ty} (h : ∀ d, t ≠ .own d) : bootBuiltins (sv (tyC t)) = some (.type (tyT t)) ∧ sv (tyC t) ≠ "__name__" ∧ (sv (tyC t) == ("__debug__" : Str)) = false := by
  cases t <;> first
    | (exact ⟨by rfl, by decide, by decide⟩)
    | exact (h _ rfl).elim
theorem k_isi {t : Ty} {x z : Str} {p pos zp : Pos} {y : PySem.Expr} {c : CE} (k : XOk S prog o Γ X) (h : bltB Γ x [105, 115, 105, 110, 115, 116, 97, 110, 99, 101] = true) (hy : noSt y = true)
    (hz : (match t with
      | .own d => clB Γ z d
      | _ => bltB Γ z (tyC t)) = true) (hc : PE X y (tE S WNo fun env => evE prog o env c)) : PE X (.Call (.Name x p) [y, .Name z zp] [] pos) (tE S WNo fun env => evE prog o env (.bi (.isinst t) (.cons c .nil))) := by
  obtain ⟨rfl, hg, hm⟩ := k_blt k h
  have hs : noStar [y, .Name z zp] = true := noSt_cons hy rfl
  have gen : ∀ {w : V} {u : Value}, PE X (.Name z zp) (tC w) → ClsV w u → ((∃ d, t = .own d ∧ d < prog.cls.length ∧ u = .ref (S.cA d)) ∨ ((∀ d, t ≠ .own d) ∧ u = .type (tyT t))) →
      PE X (.Call (.Name (sv [105, 115, 105, 110, 115, 116, 97, 110, 99, 101]) p) [y, .Name z zp] [] pos) (tE S WNo fun env => evE prog o env (.bi (.isinst t) (.cons c .nil))) := fun hte hw ht =>
    s_isi k.hK k.hc (fun hc ha => pe_callB hc hg hm (by rfl) ha (hn := by decide) (hdb := by decide) (he := star_of hs) (hpl := star_any (noStar_cons hs).2)) hc hte hw ht (star_of hs) rfl
  by_cases ho : ∃ d, t = .own d
  · obtain ⟨d, rfl⟩ := ho
    obtain ⟨h1, h2, q, h3, rfl, rfl⟩ := any_cs hz
    obtain ⟨g1, g2, g3, g4⟩ := k.gt.c q h3
    exact gen (pe_glob (v := .ref (S.cA q.2)) (k.gl h1) g1 rfl h2) (.own _) (.inl ⟨q.2, rfl, g4, rfl⟩)
  · have hn : ∀ d, t ≠ .own d := fun d e => ho ⟨d, e⟩
    have hz : bltB Γ z (tyC t) = true := by
      cases t <;> first
        | exact hz
        | exact (hn _ rfl).elim
    obtain ⟨rfl, hg2, hm2⟩ := k_blt k hz
    obtain ⟨b1, b2, b3⟩ := tyC_boot hn
    exact gen (pe_bltn (v := .ty (tyT t)) hg2 hm2 b1 rfl b2 b3) (.ty _) (.inr ⟨hn, rfl⟩)
end
end Pf
end
section
set_option Elab.async false
set_option linter.all false
set_option maxRecDepth 100000
set_option maxHeartbeats 2000000
namespace Pf
open PySem PySem.Spec PySem.Calls PyProof.Rows L2
section
variable {S : Sta} {X : Cx} {prog : Prog} {o : Orc} {H : Hp} {ρ : List Addr} {M : Sto} {hx : Option Exn} {Γ : Ct}
def ownL (Γ : Ct) (wp : List Nat) : List (Str × Nat) := wp.map fun i => (sv (Γ.NL.getD i []), i)
theorem own_snd {Γ : Ct} : ∀ wp : List Nat, (ownL Γ wp).map (·.2) = wp
  | [] => rfl
  | i :: wp => by
    show i :: (ownL Γ wp).map (·.2) = i :: wp
    rw [own_snd wp]
theorem slot_own {x : Str} {wp : List Nat} (h : (wp.any fun i => slotB Γ x i) = true) : x ∈ (ownL Γ wp).map (·.1) := by
  rw [List.any_eq_true] at h
  obtain ⟨i, h1, h2⟩ := h
  unfold slotB at h2
  split at h2
  · rename_i l e
    refine List.mem_map.mpr ⟨(sv (Γ.NL.getD i []), i), List.mem_map.mpr ⟨i, h1, rfl⟩, ?_⟩
    show sv (Γ.NL.getD i []) = x
    rw [strB_eq h2, List.getD_eq_getElem?_getD, e]; rfl
  · cases h2
theorem not_N {x : Str} (k : XOk S prog o Γ X) (h : (!(Γ.NL.any (strB x))) = true) : x ∉ X.N := fun m => by
  rw [k.N] at m
  obtain ⟨l, h1, h2⟩ := List.mem_map.mp m
  rw [Bool.not_eq_true', ← Bool.not_eq_true, List.any_eq_true] at h
  refine h ⟨l, h1, ?_⟩
  rw [← h2]
  unfold strB
  exact seq_iff.mpr (by show l.toArray.toList = l; rw [List.toList_toArray])
theorem blk_ok {scope : PySem.Scope} {wp : List Nat} (k : XOk S prog o Γ X) (h : blkB Γ scope wp = true) : BlkOk X.N X.env.scope scope (ownL Γ wp) := by
  unfold blkB at h
  simp only [Bool.and_eq_true, List.all_eq_true, decide_eq_true_eq] at h
  obtain ⟨h1, h2, h3⟩ := h
  refine ⟨h1, fun y hy => ?_, fun p hp => ?_, fun y hy e => ?_, fun y hy e => ?_⟩
  · have := (h3 y hy).1
    rw [← lkB_eq]
    split at this
    · rename_i q e
      rw [e, of_decide_eq_true this]
    · cases this
  · obtain ⟨i, hi, rfl⟩ := List.mem_map.mp hp
    have := h2 i hi
    obtain ⟨l, hl⟩ := Option.isSome_iff_exists.mp this
    show X.N[i]? = some (sv (Γ.NL.getD i []))
    rw [k.N, List.getElem?_map, List.getD_eq_getElem?_getD, hl]; rfl
  · have q := (h3 y hy).2
    rw [e] at q
    have q : (match kindB Γ y.1 with
      | some .cell => true
      | some .free => true
      | _ => false) = true := q
    have e2 : X.env.scope.names.lookup y.1 = kindB Γ y.1 := k.kd
    rw [e2]
    split at q
    · exact .inl (by assumption)
    · exact .inr (by assumption)
    · cases q
  · have q := (h3 y hy).2
    rcases e with e | e
    all_goals
      rw [e] at q
      have q : ((wp.any fun i => slotB Γ y.1 i) || !(Γ.NL.any (strB y.1))) = true := q
      rw [Bool.or_eq_true] at q
      rcases q with q | q
      · exact .inl (slot_own q)
      · exact .inr (not_N k q)
def kpOf : Option (List Nat) → L2.St → L2.St → Prop
  | none => kT
  | some vs => kW vs
theorem kp_ok : ∀ own, KpOk (kpOf own)
  | none => kT_ok
  | some vs => kW_ok vs
theorem k_name {own : Option (List Nat)} {x : Str} {pos : Pos} {i : Nat} (k : XOk S prog o Γ X) (h : (slotB Γ x i && locB Γ x && (Γ.F x || lonB Γ x) && (match own with
    | none => true
    | some vs => vs.any (Nat.beq i))) = true) : PG X (.Name x pos) (tG S WNo (kpOf own) fun p env M => evT prog o env (.v i) p M) := by
  simp only [Bool.and_eq_true] at h
  refine g_name k.nd (k.hN h.1.1.1) (k.loc h.1.1.2) ?_ fun σ v => ?_
  · have := h.1.2
    rw [Bool.or_eq_true] at this
    exact this.elim (fun f => .inl (k.fn x f)) fun f => .inr (k.lon f)
  · cases own with
    | none => trivial
    | some vs =>
      have h4 := h.2
      rw [List.any_eq_true] at h4
      obtain ⟨j, h5, h6⟩ := h4
      rw [Nat.eq_of_beq_eq_true h6]
      exact kW_set h5 σ v
theorem asg_each {e : PySem.Expr} {es : List PySem.Expr} {env : PySem.Env} (h : noSt e = true) : assignEach (e :: es) env = (false, assign e env) :: assignEach es env := by
  cases e <;> first
    | rfl
    | cases h
theorem backTo_all {env : PySem.Env} {pos : Pos} : ∀ {es : List PySem.Expr}, noStar es = true → ((backTo pos (starEach es env)).all fun x => !x.fst) = true
  | [], _ => rfl
  | e :: es, h => by
    obtain ⟨h1, h2⟩ := noStar_cons h
    rw [star_of h]
    show (!false && (backTo pos (starEach es env)).all fun x => !x.fst) = true
    rw [backTo_all h2]; rfl
theorem few_of {e : PySem.Expr} {env : PySem.Env} {pos : Pos} (h : noStar [e] = true) : (((backTo pos (starEach [e] env)).all fun x => !x.fst) && (backToKw pos (keywordEach [] env)).all fun x => x.fst.isSome) && decide (([e] : List PySem.Expr).length + ([] : List Keyword).length + (if ([] : List Keyword).isEmpty = true then 0 else 1) < 30) = true := by
  rw [backTo_all h]; rfl
theorem form_of {xs : List PySem.Expr} {kws : List Keyword} {ks : List (List Nat)} {env : PySem.Env} {pos : Pos} (h : noStar xs = true) (hk : kwNm kws ks) (hn : Nat.blt (xs.length + kws.length) 20 = true) :
    methodCallForm (xs.length + kws.length) (backTo pos (starEach xs env)) (backToKw pos (keywordEach kws env)) = true := by
  unfold methodCallForm
  rw [backTo_all h, (kw_all (env := env) (pos := pos) hk).1, Bool.true_and, Bool.true_and, decide_eq_true_eq]
  have := Nat.le_of_ble_eq_true hn
  split <;> omega
end
end Pf
end
section
set_option Elab.async false
set_option linter.all false
set_option maxRecDepth 100000
set_option maxHeartbeats 4000000
namespace Pf
open PySem PySem.Spec PySem.Calls PyProof.Rows L2
section
variable {prog : Prog} {o : Orc} {hx : Option Exn}
theorem kX {S : Sta} {X : Cx} {Γ : Ct} {e : PySem.Expr} {c : CE} (k : XOk S prog o Γ X) (h : PE X e (tE S WNo fun env => evE prog o env c)) (hp : plainT e = true) : TrE S prog o X e c := tr_plain k h hp
theorem k_cmp {S : Sta} {X : Cx} {Γ : Ct} {op : COp} {q : CmpOp} {x y : PySem.Expr} {a b : CE} {pos : Pos} (k : XOk S prog o Γ X) (h1 : cmB q op = true) (h2 : copOk op = true) (h3 : (!behindInMarks q y) = true) (ha : PE X x (tE S WNo fun env => evE prog o env a)) (hb : PE X y (tE S WNo fun env => evE prog o env b)) :
    TrE S prog o X (.Compare x [q] [y] pos) (.cmp op a b) := by
  have hu := k.hu
  have e : q = cmpA op := of_decide_eq_true h1
  subst e
  have hm : behindInMarks (cmpA op) y = false := (Bool.not_eq_true' _).mp h3
  have ho := rC_all (prog := prog) (o := o) k.hK (by omega) k.own h2
  exact ⟨s_cmp ho ha hb hm, fun _ => t_cmp ho ha hb hm, fun _ _ _ e => by cases e⟩
theorem k_chn {S : Sta} {X : Cx} {Γ : Ct} {p q : COp} {r s : CmpOp} {x y z : PySem.Expr} {a b c : CE} {pos : Pos} (k : XOk S prog o Γ X) (h1 : cmB r p = true) (h2 : cmB s q = true) (h3 : copOk p = true) (h4 : copOk q = true) (h5 : (!lastMarks [r, s] [y, z]) = true)
    (ha : PE X x (tE S WNo fun env => evE prog o env a)) (hb : PE X y (tE S WNo fun env => evE prog o env b)) (hc : PE X z (tE S WNo fun env => evE prog o env c)) : TrE S prog o X (.Compare x [r, s] [y, z] pos) (.chn p q a b c) := by
  have hu := k.hu
  have e1 : r = cmpA p := of_decide_eq_true h1
  have e2 : s = cmpA q := of_decide_eq_true h2
  subst e1
  subst e2
  have hm := (Bool.not_eq_true' _).mp h5
  have ho := rC_all (prog := prog) (o := o) k.hK (by omega) k.own h3
  have ho' := rC_all (prog := prog) (o := o) k.hK (by omega) k.own h4
  exact ⟨s_chn ho ho' ha hb hc hm, fun _ => t_chn ho ho' ha hb hc hm, fun _ _ _ e => by cases e⟩
theorem k_isN {S : Sta} {X : Cx} {x : PySem.Expr} {a : CE} {j : Nat} {pos p2 : Pos} (ha : PE X x (tE S WNo fun env => evE prog o env a)) : TrE S prog o X (.Compare x [.Is] [.Constant .none j p2] pos) (.cmp .isN a (.cst .non)) :=
  ⟨s_isN ha, fun _ => t_isN ha, fun _ _ _ e => by cases e⟩
theorem k_notN {S : Sta} {X : Cx} {x : PySem.Expr} {a : CE} {j : Nat} {pos p2 : Pos} (ha : PE X x (tE S WNo fun env => evE prog o env a)) : TrE S prog o X (.Compare x [.IsNot] [.Constant .none j p2] pos) (.cmp .notN a (.cst .non)) :=
  ⟨s_notN ha, fun _ => t_notN ha, fun _ _ _ e => by cases e⟩
theorem tOk_two {op : PySem.BoolOp} {x y : PySem.Expr} {r : List PySem.Expr} {pos : Pos} (h : tOk (.BoolOp op (x :: y :: r) pos) = true) : tOk x = true ∧ tOk y = true ∧ tOk (.BoolOp op (y :: r) pos) = true := by
  have h : (tOk x && (tOk y && tOks r)) = true := h
  simp only [Bool.and_eq_true] at h
  refine ⟨h.1, h.2.1, ?_⟩
  show (tOk y && tOks r) = true
  rw [h.2.1, h.2.2]; rfl
theorem k_and {S : Sta} {X : Cx} {Γ : Ct} {x y : PySem.Expr} {r : List PySem.Expr} {pos : Pos} {a b : CE} (k : XOk S prog o Γ X) (ha : TrE S prog o X x a) (hb : TrE S prog o X (.BoolOp .And (y :: r) pos) b) : TrE S prog o X (.BoolOp .And (x :: y :: r) pos) (.and a b) := by
  have w : tOk (.BoolOp .And (x :: y :: r) pos) = true → PW X (.BoolOp .And (x :: y :: r) pos) (tT S WNo (tst fun env => evE prog o env (.and a b))) := fun h =>
    w_and (ha.2.1 (tOk_two h).1) (hb.2.2 _ _ _ rfl (tOk_two h).2.2)
  exact ⟨s_and k.hK ha.1 hb.1, fun h => t_bop (w h), fun _ _ _ e h => by rw [e] at h ⊢; rw [← e] at h ⊢; exact w h⟩
theorem k_or {S : Sta} {X : Cx} {Γ : Ct} {x y : PySem.Expr} {r : List PySem.Expr} {pos : Pos} {a b : CE} (k : XOk S prog o Γ X) (ha : TrE S prog o X x a) (hb : TrE S prog o X (.BoolOp .Or (y :: r) pos) b) : TrE S prog o X (.BoolOp .Or (x :: y :: r) pos) (.or a b) := by
  have w : tOk (.BoolOp .Or (x :: y :: r) pos) = true → PW X (.BoolOp .Or (x :: y :: r) pos) (tT S WNo (tst fun env => evE prog o env (.or a b))) := fun h =>
    w_or (ha.2.1 (tOk_two h).1) (hb.2.2 _ _ _ rfl (tOk_two h).2.2)
  exact ⟨s_or k.hK ha.1 hb.1, fun h => t_bop (w h), fun _ _ _ e h => by rw [e] at h ⊢; rw [← e] at h ⊢; exact w h⟩
theorem k_one {S : Sta} {X : Cx} {op : PySem.BoolOp} {y : PySem.Expr} {pos : Pos} {b : CE} (hb : TrE S prog o X y b) : TrE S prog o X (.BoolOp op [y] pos) b := by
  have w : tOk (.BoolOp op [y] pos) = true → PW X (.BoolOp op [y] pos) (tT S WNo (tst fun env => evE prog o env b)) := fun h => by
    have h : (tOk y && true) = true := h
    rw [Bool.and_true] at h
    exact w_one (hb.2.1 h)
  exact ⟨s_one hb.1, fun h => t_bop (w h), fun _ _ _ e h => by rw [e] at h ⊢; rw [← e] at h ⊢; exact w h⟩
theorem k_not {S : Sta} {X : Cx} {Γ : Ct} {x : PySem.Expr} {pos : Pos} {a : CE} (k : XOk S prog o Γ X) (ha : TrE S prog o X x a) : TrE S prog o X (.UnaryOp .Not x pos) (.not a) :=
  ⟨s_not k.hK ha.1, fun h => t_not (ha.2.1 h), fun _ _ _ e => by cases e⟩
theorem k_blk {S : Sta} {X : Cx} {Γ : Ct} {x tg : PySem.Expr} {ifs : List PySem.Expr} {scope : PySem.Scope} {wp : List Nat} {t : CT} {c : CO} {elt : CE} (k : XOk S prog o Γ X)
    (hT : ∀ {S : Sta} {X : Cx}, XOk S prog o (Γ.blk scope) X → PG X tg (tG S WNo (kW wp) fun p env M => evT prog o env t p M)) (hE : ∀ {S : Sta} {X : Cx}, XOk S prog o (Γ.blk scope) X → TrE S prog o X x elt)
    (hI : (ifs = [] ∧ c = .n) ∨ ∃ e ce, ifs = [e] ∧ c = .s ce ∧ ∀ {S : Sta} {X : Cx}, XOk S prog o (Γ.blk scope) X → PT X e (tT S WNo (tst fun env => evE prog o env ce))) :
    BlkS S WNo prog o X x tg ifs scope ((ownL Γ wp).map (·.2)) t c elt := by
  rw [own_snd]
  refine ⟨fun h s H C cl fp => hT (k.blk h s H scope cl C fp), fun s H C cl fp => ?_, fun h s H C cl fp => (hE (k.blk h s H scope cl C fp)).1⟩
  rcases hI with h | ⟨e, ce, h1, h2, h3⟩
  · exact .inl h
  · exact .inr ⟨e, ce, h1, h2, fun h => h3 (k.blk h s H scope cl C fp)⟩
theorem k_call {S : Sta} {X : Cx} {Γ : Ct} {x : Str} {xs : List PySem.Expr} {kws : List Keyword} {ks : List (List Nat)} {f : Nat} {es : CL} {p pos : Pos} (k : XOk S prog o Γ X) (h : fnB Γ x f = true) (hk : kwB kws ks = true)
    (ha : ∃ c1 c2, es = c1.app c2 ∧ PosOk X S WNo prog o xs c1 ∧ L2.PK X kws (tA S WNo fun env => evL prog o env c2) ∧ c2.len = kws.length ∧ noStar xs = true) : TrE S prog o X (.Call (.Name x p) xs kws pos) (.call f es ks) := by
  obtain ⟨h1, h2, q, h3, rfl, rfl⟩ := any_fs h
  obtain ⟨c1, c2, rfl, hp, hkw, hl, hs⟩ := ha
  have hk := kw_of hk
  obtain ⟨g1, g2⟩ := k.gt.f q h3
  exact kX k (s_call k.call (k.gl h1) g1 (by rw [k.hK]; exact g2) hs hk (by rw [hl, kw_len hk]) hp hkw h2) rfl
theorem k_new {S : Sta} {X : Cx} {Γ : Ct} {x : Str} {xs : List PySem.Expr} {kws : List Keyword} {ks : List (List Nat)} {f : Nat} {es : CL} {p pos : Pos} (k : XOk S prog o Γ X) (h : clB Γ x f = true) (hk : kwB kws ks = true)
    (ha : ∃ c1 c2, es = c1.app c2 ∧ PosOk X S WNo prog o xs c1 ∧ L2.PK X kws (tA S WNo fun env => evL prog o env c2) ∧ c2.len = kws.length ∧ noStar xs = true) : TrE S prog o X (.Call (.Name x p) xs kws pos) (.new f es ks) := by
  obtain ⟨h1, h2, q, h3, rfl, rfl⟩ := any_cs h
  obtain ⟨c1, c2, rfl, hp, hkw, hl, hs⟩ := ha
  have hk := kw_of hk
  obtain ⟨g1, g2, g3, g4⟩ := k.gt.c q h3
  exact kX k (s_new k.new g3 (k.gl h1) g1 (by rw [k.hK]; exact g2) hs hk (by rw [hl, kw_len hk]) hp hkw h2) rfl
theorem k_meth {S : Sta} {X : Cx} {Γ : Ct} {x : PySem.Expr} {nm : Str} {m : List Nat} {xs : List PySem.Expr} {kws : List Keyword} {ks : List (List Nat)} {a : CE} {es : CL} {apos pos : Pos} (k : XOk S prog o Γ X) (h1 : noSuper x = true) (h2 : strB nm m = true) (hk : kwB kws ks = true)
    (hp : (apos.endLine == pos.line) = true) (hn : Nat.blt (xs.length + kws.length) 20 = true) (hx : TrE S prog o X x a)
    (ha : ∃ c1 c2, es = c1.app c2 ∧ PosOk X S WNo prog o xs c1 ∧ L2.PK X kws (tA S WNo fun env => evL prog o env c2) ∧ c2.len = kws.length ∧ noStar xs = true) : TrE S prog o X (.Call (.Attribute x nm apos) xs kws pos) (.meth a m es ks) := by
  obtain ⟨c1, c2, rfl, hp', hkw, hl, hs⟩ := ha
  have hk := kw_of hk
  rw [strB_eq h2]
  exact kX k (s_meth k.hK k.hc k.call hx.1 hs hk (by rw [hl, kw_len hk]) hp' hkw (meth_form h1 hp (form_of hs hk hn))) rfl
end
end Pf
end
section
set_option Elab.async false
set_option linter.all false
set_option maxRecDepth 100000
set_option maxHeartbeats 4000000
namespace Pf
open PySem PySem.Spec PySem.Calls PyProof.Rows L2
section
variable {prog : Prog} {o : Orc}
abbrev ArgsOk (S : Sta) (prog : Prog) (o : Orc) (X : Cx) (xs : List PySem.Expr) (kws : List Keyword) (es : CL) : Prop :=
  ∃ c1 c2, es = c1.app c2 ∧ PosOk X S WNo prog o xs c1 ∧ L2.PK X kws (tA S WNo fun env => evL prog o env c2) ∧ c2.len = kws.length ∧ noStar xs = true
abbrev PALok (S : Sta) (prog : Prog) (o : Orc) (X : Cx) (xs : List PySem.Expr) (es : CL) : Prop := PA X xs (tA S WNo fun env => evL prog o env es) ∧ noStar xs = true
abbrev EOk (prog : Prog) (o : Orc) (c : CE) : Prop := ∀ {S : Sta} {X : Cx} {Γ : Ct} {e : PySem.Expr}, XOk S prog o Γ X → chkE Γ e c = true → TrE S prog o X e c
abbrev LOk (prog : Prog) (o : Orc) (es : CL) : Prop := ∀ {S : Sta} {X : Cx} {Γ : Ct} {xs : List PySem.Expr}, XOk S prog o Γ X → chkL Γ xs es = true → PALok S prog o X xs es
abbrev AOk (prog : Prog) (o : Orc) (es : CL) : Prop := ∀ {S : Sta} {X : Cx} {Γ : Ct} {xs : List PySem.Expr} {kws : List Keyword}, XOk S prog o Γ X → chkA Γ xs kws es = true → ArgsOk S prog o X xs kws es
abbrev DOk (prog : Prog) (o : Orc) (es : CL) : Prop := ∀ {S : Sta} {X : Cx} {Γ : Ct} {kx : List (Option PySem.Expr)} {xs : List PySem.Expr} {ks : List PV} {pos : Pos}, XOk S prog o Γ X → chkD Γ kx xs ks es = true → ∃ qs trs, ks = qs.map PV.str ∧ DispS S WNo prog o X pos kx xs qs es trs
abbrev SlOk (prog : Prog) (o : Orc) (c : CO) : Prop := ∀ {S : Sta} {X : Cx} {Γ : Ct} {e : Option PySem.Expr}, XOk S prog o Γ X → chkSl Γ e c = true → L2.PO X e (tO S WNo fun env => evO prog o env c)
abbrev OOk (prog : Prog) (o : Orc) (c : CO) : Prop := ∀ {Γ : Ct} {ifs : List PySem.Expr}, chkO Γ ifs c = true → (ifs = [] ∧ c = .n) ∨ ∃ e ce, ifs = [e] ∧ c = .s ce ∧ ∀ {S : Sta} {X : Cx}, XOk S prog o Γ X → PT X e (tT S WNo (tst fun env => evE prog o env ce))
abbrev IOk (prog : Prog) (o : Orc) (s : CI) : Prop := ∀ {S : Sta} {X : Cx} {Γ : Ct} {e tg : PySem.Expr}, XOk S prog o Γ X → chkI Γ e s = true → L2.PI X tg e (tI S WNo fun env => evI prog o env s)
abbrev TOk (prog : Prog) (o : Orc) (t : CT) : Prop := ∀ {S : Sta} {X : Cx} {Γ : Ct} {own : Option (List Nat)} {e : PySem.Expr}, XOk S prog o Γ X → chkT Γ own e t = true → PG X e (tG S WNo (kpOf own) fun p env M => evT prog o env t p M)
abbrev TsOk (prog : Prog) (o : Orc) (ts : CTs) : Prop := ∀ {S : Sta} {X : Cx} {Γ : Ct} {own : Option (List Nat)} {es : List PySem.Expr}, XOk S prog o Γ X → chkTs Γ own es ts = true → PGs X es (tGs S WNo (kpOf own) fun ps env M => evTs prog o env ts ps M) ∧ ts.len = es.length ∧ noStar es = true
theorem k_comp {S : Sta} {X : Cx} {Γ : Ct} {x tg iter : PySem.Expr} {ifs : List PySem.Expr} {scope : PySem.Scope} {wp : List Nat} {t : CT} {s : CI} {c : CO} {elt : CE} {pos : Pos} (k : XOk S prog o Γ X)
    (h : (noSet iter && blkB Γ scope wp && chkI Γ iter s && chkT (Γ.blk scope) (some wp) tg t && chkO (Γ.blk scope) ifs c && chkE (Γ.blk scope) x elt) = true) (hI : IOk prog o s) (hT : TOk prog o t) (hO : OOk prog o c) (hE : EOk prog o elt) :
    (PE X (.ListComp x [⟨tg, iter, ifs, 0⟩] scope pos) (tE S WNo fun env => evE prog o env (.comp wp elt (.cons t s c .nil))) ∧
      PE X (.ListComp x [⟨tg, iter, ifs, 0⟩] scope pos) (tE S WNo fun env => evE prog o env (.mk (.comp wp elt (.cons t s c .nil))))) ∧
    (∀ tg', L2.PI X tg' iter (tI S WNo fun env => evI prog o env s)) ∧ BlkOk X.N X.env.scope scope (ownL Γ wp) ∧ BlkS S WNo prog o X x tg ifs scope ((ownL Γ wp).map (·.2)) t c elt ∧ (∀ x : Value, foldedSetIterable iter X.env x = pure x) := by
  simp only [Bool.and_eq_true] at h
  have B := k_blk (S := S) (X := X) k (fun kb => hT kb h.1.1.2) (fun kb => hE kb h.2) (hO h.1.2)
  have ok := blk_ok k h.1.1.1.1.2
  have hi := fun tg' => hI (tg := tg') k h.1.1.1.2
  have hs := fun v => set_of (env := X.env) h.1.1.1.1.1 v
  refine ⟨?_, hi, ok, B, hs⟩
  have a1 := s_lc (pos := pos) wno k.cm k.nd (hi tg) ok B hs
  have a2 := s_mklc (pos := pos) wno k.cm k.nd (hi tg) ok B hs
  rw [own_snd] at a1 a2
  exact ⟨a1, a2⟩
theorem k_dcomp {S : Sta} {X : Cx} {Γ : Ct} {kx x tg iter : PySem.Expr} {ifs : List PySem.Expr} {scope : PySem.Scope} {wp : List Nat} {t : CT} {s : CI} {c : CO} {kc elt : CE} {pos : Pos} (k : XOk S prog o Γ X)
    (h : (noSet iter && blkB Γ scope wp && chkI Γ iter s && chkT (Γ.blk scope) (some wp) tg t && chkO (Γ.blk scope) ifs c && chkE (Γ.blk scope) kx kc && chkE (Γ.blk scope) x elt) = true) (hI : IOk prog o s) (hT : TOk prog o t) (hO : OOk prog o c) (hK : EOk prog o kc) (hE : EOk prog o elt) :
    PE X (.DictComp kx x [⟨tg, iter, ifs, 0⟩] scope pos) (tE S WNo fun env => evE prog o env (.mk (.dcomp wp kc elt (.cons t s c .nil)))) := by
  simp only [Bool.and_eq_true] at h
  have B := k_blk (S := S) (X := X) k (fun kb => hT kb h.1.1.1.2) (fun kb => hE kb h.2) (hO h.1.1.2)
  have B2 := k_blk (S := S) (X := X) k (fun kb => hT kb h.1.1.1.2) (fun kb => hK kb h.1.2) (hO h.1.1.2)
  have ok := blk_ok k h.1.1.1.1.1.2
  have a1 := s_mkdc (pos := pos) wno k.cm k.nd (hI (tg := tg) k h.1.1.1.1.2) ok B B2 (fun v => set_of (env := X.env) h.1.1.1.1.1.1 v)
  rw [own_snd] at a1
  exact a1
theorem k_big {S : Sta} {X : Cx} {Γ : Ct} {e : PySem.Expr} {b : BI} {es : CL} (k : XOk S prog o Γ X) (h : (match e with
    | .Call (.Name x _) (y :: ys) [] _ => (match biN b with
      | some l => bltB Γ x l
      | none => false) && chkL Γ (y :: ys) es
    | _ => false) = true) (hL : ∀ {xs : List PySem.Expr}, chkL Γ xs es = true → PALok S prog o X xs es) : TrE S prog o X e (.bi b es) := by
  split at h
  · rw [Bool.and_eq_true] at h
    obtain ⟨h2, h3⟩ := h
    split at h2
    · rename_i l hl
      obtain ⟨a1, a2⟩ := hL h3
      exact kX k (k_bi k hl h2 a2 a1) rfl
    · cases h2
  · cases h
theorem k_isig {S : Sta} {X : Cx} {Γ : Ct} {e : PySem.Expr} {t : Ty} {c : CE} (k : XOk S prog o Γ X) (h : chkE Γ e (.bi (.isinst t) (.cons c .nil)) = true) (hc : ∀ {y : PySem.Expr}, chkE Γ y c = true → TrE S prog o X y c) : TrE S prog o X e (.bi (.isinst t) (.cons c .nil)) := by
  unfold chkE at h
  split at h
  · simp only [Bool.and_eq_true] at h
    obtain ⟨⟨⟨h1, h2⟩, h3⟩, h4⟩ := h
    rename_i he
    cases he
    exact kX k (k_isi k h2 h1 h3 (hc h4).1) rfl
  · cases h
theorem k_maxDg {S : Sta} {X : Cx} {Γ : Ct} {e : PySem.Expr} {c d : CE} (k : XOk S prog o Γ X) (h : chkE Γ e (.bi .maxD (.cons c (.cons d .nil))) = true) (hc : ∀ {y : PySem.Expr}, chkE Γ y c = true → TrE S prog o X y c) (hd : ∀ {y : PySem.Expr}, chkE Γ y d = true → TrE S prog o X y d) : TrE S prog o X e (.bi .maxD (.cons c (.cons d .nil))) := by
  unfold chkE at h
  split at h
  · rename_i he
    cases he
    simp only [Bool.and_eq_true] at h
    obtain ⟨⟨⟨⟨h1, h2⟩, h3⟩, h4⟩, h5⟩ := h
    obtain ⟨rfl, hg, hm⟩ := k_blt k h2
    have hu := k.hu
    rw [kw1_of h3]
    exact kX k (s_maxD k.hK k.cm (by omega) hg hm (hc h4).1 (hd h5).1 (noSt_cons h1 rfl)) rfl
  · cases h
theorem k_lzg {S : Sta} {X : Cx} {Γ : Ct} {e : PySem.Expr} {cs : CL} (k : XOk S prog o Γ X) (h : chkE Γ e (.bis .list (.zip true cs)) = true) (hL : ∀ {xs : List PySem.Expr}, chkL Γ xs cs = true → PALok S prog o X xs cs) : TrE S prog o X e (.bis .list (.zip true cs)) := by
  unfold chkE at h
  dsimp only at h
  split at h
  · simp only [Bool.and_eq_true] at h
    obtain ⟨⟨⟨h1, h2⟩, h3⟩, h4⟩ := h
    obtain ⟨rfl, hg, hm⟩ := k_blt k h1
    obtain ⟨rfl, hg2, hm2⟩ := k_blt k h2
    obtain ⟨a1, a2⟩ := hL h4
    rw [strB_eq h3]
    exact kX k (s_listzips k.hK k.cm hg2 hm2 hg hm a1 a2) rfl
  · cases h
theorem k_skg {S : Sta} {X : Cx} {Γ : Ct} {e : PySem.Expr} {c k' : CE} (k : XOk S prog o Γ X) (h : chkE Γ e (.sortk c k') = true) (hc : ∀ {y : PySem.Expr}, chkE Γ y c = true → TrE S prog o X y c) : TrE S prog o X e (.sortk c k') := by
  unfold chkE at h
  split at h
  · simp only [Bool.and_eq_true] at h
    obtain ⟨⟨⟨⟨h1, h2⟩, h3⟩, h4⟩, h5⟩ := h
    obtain ⟨rfl, hg, hm⟩ := k_blt k h2
    have hu := k.hu
    rw [kw1_of h3]
    split at h5
    · rename_i hv
      rw [hv]
      exact kX k (s_sortk k.hK (by omega) k.callK wnn hg hm (hc h4).1 (k_fn k h5) (noSt_cons h1 rfl)) rfl
    · cases h5
  · cases h
theorem k_apg {S : Sta} {X : Cx} {Γ : Ct} {e : PySem.Expr} {a c : CE} (k : XOk S prog o Γ X) (h : chkE Γ e (.sm .append a (.cons c .nil)) = true) (ha : ∀ {y : PySem.Expr}, chkE Γ y a = true → TrE S prog o X y a) (hc : ∀ {y : PySem.Expr}, chkE Γ y c = true → TrE S prog o X y c) : TrE S prog o X e (.sm .append a (.cons c .nil)) := by
  unfold chkE at h
  dsimp only at h
  split at h
  · rename_i he
    cases he
    simp only [Bool.and_eq_true] at h
    obtain ⟨⟨⟨⟨⟨h1, h2⟩, h3⟩, h4⟩, h5⟩, h6⟩ := h
    rw [strB_eq h3]
    have hs := noSt_cons h1 (rfl : noStar [] = true)
    exact kX k (s_append k.hK (ha h5).1 (hc h6).1 hs (noSuper_base h2) h4 (few_of hs)) rfl
  · cases h
theorem k_rmg {S : Sta} {X : Cx} {Γ : Ct} {e : PySem.Expr} {a c : CE} (k : XOk S prog o Γ X) (h : chkE Γ e (.sm .remove a (.cons c .nil)) = true) (ha : ∀ {y : PySem.Expr}, chkE Γ y a = true → TrE S prog o X y a) (hc : ∀ {y : PySem.Expr}, chkE Γ y c = true → TrE S prog o X y c) : TrE S prog o X e (.sm .remove a (.cons c .nil)) := by
  unfold chkE at h
  dsimp only at h
  split at h
  · rename_i he
    cases he
    simp only [Bool.and_eq_true] at h
    obtain ⟨⟨⟨⟨⟨h1, h2⟩, h3⟩, h4⟩, h5⟩, h6⟩ := h
    rw [strB_eq h3]
    have hs := noSt_cons h1 (rfl : noStar [] = true)
    have hu := k.hu
    exact kX k (s_remove k.hK (by omega) (ha h5).1 (hc h6).1 hs (noSuper_base h2) h4 (few_of hs)) rfl
  · cases h
theorem k_sig {S : Sta} {X : Cx} {Γ : Ct} {e : PySem.Expr} {a : CE} (k : XOk S prog o Γ X) (h : chkE Γ e (.sm .sitems a .nil) = true) (ha : ∀ {y : PySem.Expr}, chkE Γ y a = true → TrE S prog o X y a) : TrE S prog o X e (.sm .sitems a .nil) := by
  unfold chkE at h
  dsimp only at h
  split at h
  · simp only [Bool.and_eq_true] at h
    obtain ⟨⟨⟨⟨h1, h2⟩, h3⟩, h4⟩, h5⟩ := h
    obtain ⟨rfl, hg, hm⟩ := k_blt k h2
    rw [strB_eq h3]
    have hu := k.hu
    exact kX k (s_sitems k.hK k.cm (by omega) hg hm (ha h5).1 (noSuper_base h1) h4) rfl
  · cases h
end
end Pf
end
section
set_option Elab.async false
set_option linter.all false
set_option maxRecDepth 100000
set_option maxHeartbeats 4000000
namespace Pf
open PySem PySem.Spec PySem.Calls PyProof.Rows L2
theorem ix_asg {a b : PySem.Expr} {pos : Pos} {env : PySem.Env} (h : ixB b = true) : ∀ (v : Value), assign (a.Subscript b pos) env v = (do
    let ov ← holding [v] (eval a env)
    let iv ← holding [v, ov] (eval b env)
    standAt pos
    holding [v, ov, iv] (PySem.setItem ov iv v)
    release [v, ov, iv] []) := by
  intro v
  cases b <;> first
    | rfl
    | cases h
section
variable {prog : Prog} {o : Orc}
mutual
theorem ckE : ∀ (c : CE), EOk prog o c
  | .v i, _, _, _, e, k, h => by
    unfold chkE at h
    split at h
    · exact kX k (k_var k h) rfl
    · cases h
  | .cst p, _, _, _, e, k, h => by
    unfold chkE at h
    split at h
    · exact kX k (k_const h) rfl
    · rw [Bool.or_eq_true] at h
      rcases h with h | h
      · exact kX k (k_vl k h) rfl
      · split at h
        · exact kX k (k_fn k h) rfl
        · cases h
    · cases h
  | .tup es, _, _, _, e, k, h => by
    unfold chkE at h
    split at h
    · rw [Bool.and_eq_true] at h
      exact kX k (s_tup (ckL es k h.2).1 (lenB_le h.1)) rfl
    · cases h
  | .lst es, _, _, _, e, k, h => by
    unfold chkE at h
    split at h
    · rw [Bool.and_eq_true] at h
      exact kX k (s_lst (ckL es k h.2).1 (lenB_le h.1)) rfl
    · cases h
  | .dic ks es, _, _, _, e, k, h => by
    unfold chkE at h
    split at h
    · exact kX k s_dic0 rfl
    · cases h
  | .lk d c, _, _, _, e, k, h => by
    unfold chkE at h
    rw [Bool.and_eq_true] at h
    exact kX k (s_lk (ckE c k h.2).1) h.1
  | .mk c', _, _, _, e, k, h => by
    cases c' with
    | op p a b =>
      unfold chkE at h
      split at h
      · rw [Bool.and_eq_true] at h
        exact kX k (s_mkadd (ckE a k h.1).1 (ckE b k h.2).1) rfl
      · cases h
    | lst es =>
      unfold chkE at h
      split at h
      · rw [Bool.and_eq_true] at h
        exact kX k (s_mklst (ckL es k h.2).1 (lenB_le h.1)) rfl
      · cases h
    | dic ks es =>
      unfold chkE at h
      split at h
      · exact kX k s_mkdic0 rfl
      · cases h
    | bi b es =>
      unfold chkE at h
      split at h
      · simp only [Bool.and_eq_true] at h
        obtain ⟨⟨h1, h2⟩, h3⟩ := h
        split at h2
        · rename_i l hl
          obtain ⟨a1, a2⟩ := ckL es k h3
          exact kX k (k_mkbi k h1 hl h2 a2 a1) rfl
        · cases h2
      · cases h
    | comp wp elt gs =>
      cases gs with
      | nil => unfold chkE at h; cases h
      | cons t s c r =>
        cases r with
        | nil =>
          unfold chkE at h
          split at h
          · exact kX k (k_comp k h (ckI s) (ckT t) (ckO c) (ckE elt)).1.2 rfl
          · cases h
        | cons _ _ _ _ => unfold chkE at h; cases h
    | dcomp wp kc vc gs =>
      cases gs with
      | nil => unfold chkE at h; cases h
      | cons t s c r =>
        cases r with
        | nil =>
          unfold chkE at h
          split at h
          · exact kX k (k_dcomp k h (ckI s) (ckT t) (ckO c) (ckE kc) (ckE vc)) rfl
          · cases h
        | cons _ _ _ _ => unfold chkE at h; cases h
    | _ => unfold chkE at h; cases h
  | .mkd ks es, _, _, _, e, k, h => by
    unfold chkE at h
    split at h
    · rename_i kx xs pos
      simp only [Bool.and_eq_true] at h
      obtain ⟨⟨h1, h2⟩, h3⟩ := h
      obtain ⟨qs, trs, rfl, d⟩ := ckD es (pos := pos) k h1
      exact kX k (s_mkd d (fun e => by rw [e] at h2; cases h2) (Nat.le_of_ble_eq_true h3)) rfl
    · cases h
  | .stuck, _, _, _, e, k, h => tr_stuck
  | .op p a b, _, _, _, e, k, h => by
    unfold chkE at h
    split at h
    · simp only [Bool.and_eq_true] at h
      obtain ⟨⟨⟨h1, h2⟩, h3⟩, h4⟩ := h
      rw [show _ = opA p from of_decide_eq_true h1]
      exact kX k (s_op k.hK h2 (ckE a k h3).1 (ckE b k h4).1) rfl
    · cases h
  | .neg a, _, _, _, e, k, h => by
    unfold chkE at h
    split at h
    · exact kX k (s_neg (ckE a k h).1) rfl
    · cases h
  | .cmp op a b, _, _, _, e, k, h => by
    unfold chkE at h
    split at h
    · split at h
      · simp only [Bool.and_eq_true] at h
        obtain ⟨⟨h1, h2⟩, h3⟩ := h
        split at h1
        · split at h3
          · exact k_isN (ckE a k h2).1
          · cases h3
        · cases h1
      · simp only [Bool.and_eq_true] at h
        obtain ⟨⟨h1, h2⟩, h3⟩ := h
        split at h1
        · split at h3
          · exact k_notN (ckE a k h2).1
          · cases h3
        · cases h1
      · simp only [Bool.and_eq_true] at h
        obtain ⟨⟨⟨⟨h1, h2⟩, h3⟩, h4⟩, h5⟩ := h
        exact k_cmp k h1 h2 h3 (ckE a k h4).1 (ckE b k h5).1
    · cases h
  | .chn p q a b c, _, _, _, e, k, h => by
    unfold chkE at h
    split at h
    · simp only [Bool.and_eq_true] at h
      obtain ⟨⟨⟨⟨⟨⟨⟨h1, h2⟩, h3⟩, h4⟩, h5⟩, h6⟩, h7⟩, h8⟩ := h
      exact k_chn k h1 h2 h3 h4 h5 (ckE a k h6).1 (ckE b k h7).1 (ckE c k h8).1
    · cases h
  | .and a b, _, _, _, e, k, h => by
    unfold chkE at h
    split at h
    · rw [Bool.and_eq_true] at h
      obtain ⟨h1, h2⟩ := h
      split at h2
      · exact k_and k (ckE a k h1) (k_one (ckE b k h2))
      · exact k_and k (ckE a k h1) (ckE b k h2)
    · cases h
  | .or a b, _, _, _, e, k, h => by
    unfold chkE at h
    split at h
    · rw [Bool.and_eq_true] at h
      obtain ⟨h1, h2⟩ := h
      split at h2
      · exact k_or k (ckE a k h1) (k_one (ckE b k h2))
      · exact k_or k (ckE a k h1) (ckE b k h2)
    · cases h
  | .not a, _, _, _, e, k, h => by
    unfold chkE at h
    split at h
    · exact k_not k (ckE a k h)
    · cases h
  | .ite c a b, _, _, _, e, k, h => by
    unfold chkE at h
    split at h
    · simp only [Bool.and_eq_true] at h
      obtain ⟨⟨⟨h1, h2⟩, h3⟩, h4⟩ := h
      exact ⟨s_ite ((ckE c k h2).2.1 h1) (ckE a k h3).1 (ckE b k h4).1, fun h => (by cases h), fun _ _ _ e => by cases e⟩
    · cases h
  | .call f es ks, _, _, _, e, k, h => by
    unfold chkE at h
    split at h
    · simp only [Bool.and_eq_true] at h
      exact k_call k h.1.1 h.1.2 (ckA es k h.2)
    · cases h
  | .meth a m es ks, _, _, _, e, k, h => by
    unfold chkE at h
    split at h
    · simp only [Bool.and_eq_true] at h
      obtain ⟨⟨⟨⟨⟨⟨h1, h2⟩, h3⟩, h4⟩, h5⟩, h6⟩, h7⟩ := h
      exact k_meth k h1 h2 h3 h4 h5 (ckE a k h6) (ckA es k h7)
    · cases h
  | .new c es ks, _, _, _, e, k, h => by
    unfold chkE at h
    split at h
    · simp only [Bool.and_eq_true] at h
      exact k_new k h.1.1 h.1.2 (ckA es k h.2)
    · cases h
  | .attr a f, _, _, _, e, k, h => by
    unfold chkE at h
    split at h
    · simp only [Bool.and_eq_true] at h
      obtain ⟨⟨⟨h1, h2⟩, h3⟩, h4⟩ := h
      rw [strB_eq h2]
      exact kX k (s_attr k.hK k.hc (ckE a k h4).1 (noSuper_base h1) (at_of k h3)) rfl
    · cases h
  | .idx a b, _, _, _, e, k, h => by
    unfold chkE at h
    split at h
    · simp only [Bool.and_eq_true] at h
      obtain ⟨⟨h1, h2⟩, h3⟩ := h
      have hu := k.hu
      exact kX k (s_idx k.hK (by omega) (ckE a k h2).1 (ckE b k h3).1 (ix_of h1)) rfl
    · cases h
  | .sl a lo hi, _, _, _, e, k, h => by
    unfold chkE at h
    split at h
    · simp only [Bool.and_eq_true] at h
      obtain ⟨⟨h1, h2⟩, h3⟩ := h
      exact kX k (s_sl k.hK (ckE a k h1).1 (ckSl lo k h2) (ckSl hi k h3)) rfl
    · cases h
  | .bi b es, _, _, _, e, k, h => by
    cases b with
    | isinst t =>
      cases es with
      | nil => unfold chkE at h; split at h <;> first | (rename_i he; cases he; done) | cases h
      | cons c es =>
        cases es with
        | nil => exact k_isig k h (ckE c k)
        | cons _ _ => unfold chkE at h; split at h <;> first | (rename_i he; cases he; done) | cases h
    | maxD =>
      cases es with
      | nil => unfold chkE at h; split at h <;> first | (rename_i he; cases he; done) | cases h
      | cons c es =>
        cases es with
        | nil => unfold chkE at h; split at h <;> first | (rename_i he; cases he; done) | cases h
        | cons d es =>
          cases es with
          | nil => exact k_maxDg k h (ckE c k) (ckE d k)
          | cons _ _ => unfold chkE at h; split at h <;> first | (rename_i he; cases he; done) | cases h
    | _ => unfold chkE at h; exact k_big k h (ckL es k)
  | .bis b s, _, _, _, e, k, h => by
    cases b with
    | list =>
      cases s with
      | zip st cs =>
        cases st with
        | true => exact k_lzg k h (ckL cs k)
        | false => unfold chkE at h; cases h
      | _ => unfold chkE at h; cases h
    | _ => unfold chkE at h; cases h
  | .sortk c k', _, _, _, e, k, h => k_skg k h (ckE c k)
  | .sm m a es, _, _, _, e, k, h => by
    cases m with
    | append =>
      cases es with
      | nil => unfold chkE at h; dsimp only at h; split at h <;> first | (rename_i he; cases he; done) | cases h
      | cons c es =>
        cases es with
        | nil => exact k_apg k h (ckE a k) (ckE c k)
        | cons _ _ => unfold chkE at h; dsimp only at h; split at h <;> first | (rename_i he; cases he; done) | cases h
    | remove =>
      cases es with
      | nil => unfold chkE at h; dsimp only at h; split at h <;> first | (rename_i he; cases he; done) | cases h
      | cons c es =>
        cases es with
        | nil => exact k_rmg k h (ckE a k) (ckE c k)
        | cons _ _ => unfold chkE at h; dsimp only at h; split at h <;> first | (rename_i he; cases he; done) | cases h
    | sitems =>
      cases es with
      | nil => exact k_sig k h (ckE a k)
      | cons _ _ => unfold chkE at h; dsimp only at h; split at h <;> first | (rename_i he; cases he; done) | cases h
    | _ => unfold chkE at h; cases h
  | .comp wp elt gs, _, _, _, e, k, h => by
    cases gs with
    | nil => unfold chkE at h; cases h
    | cons t s c r =>
      cases r with
      | nil =>
        unfold chkE at h
        split at h
        · exact kX k (k_comp k h (ckI s) (ckT t) (ckO c) (ckE elt)).1.1 rfl
        · cases h
      | cons _ _ _ _ => unfold chkE at h; cases h
  | .callv _ _, _, _, _, e, k, h => by unfold chkE at h; cases h
  | .dcomp _ _ _ _, _, _, _, e, k, h => by unfold chkE at h; cases h
  | .lam _, _, _, _, e, k, h => by unfold chkE at h; cases h
theorem ckL : ∀ (es : CL), LOk prog o es
  | .nil, _, _, _, xs, k, h => by
    cases xs with
    | nil => exact ⟨s_nil, rfl⟩
    | cons _ _ => cases h
  | .cons c cs, _, _, _, xs, k, h => by
    cases xs with
    | nil => cases h
    | cons x xs =>
      unfold chkL at h
      simp only [Bool.and_eq_true] at h
      obtain ⟨a1, a2⟩ := ckL cs k h.2
      have hs := noSt_cons h.1.1 a2
      exact ⟨s_cons (ckE c k h.1.2).1 a1 (star_of hs), hs⟩
theorem ckA : ∀ (es : CL), AOk prog o es
  | .nil, _, _, _, xs, kws, k, h => by
    cases xs with
    | nil =>
      cases kws with
      | nil => exact ⟨.nil, .nil, rfl, .inl ⟨rfl, rfl⟩, s_knil, rfl, rfl⟩
      | cons _ _ => cases h
    | cons _ _ => cases h
  | .cons c cs, _, _, _, xs, kws, k, h => by
    cases xs with
    | nil =>
      cases kws with
      | nil => cases h
      | cons kw kws =>
        unfold chkA at h
        simp only [Bool.and_eq_true] at h
        obtain ⟨c1, c2, e, hp, hk, hl, hs⟩ := ckA cs k h.2
        have e1 : c1 = .nil := by
          rcases hp with ⟨_, e⟩ | ⟨_, _, e, _⟩
          · exact e
          · cases e
        subst e1
        have e : cs = c2 := e
        subst e
        obtain ⟨nm, v, kp⟩ := kw
        exact ⟨.nil, .cons c cs, rfl, .inl ⟨rfl, rfl⟩, s_kcons (ckE c k h.1).1 hk, by show cs.len + 1 = kws.length + 1; rw [hl], rfl⟩
    | cons x xs =>
      unfold chkA at h
      simp only [Bool.and_eq_true] at h
      obtain ⟨c1, c2, e, hp, hk, hl, hs⟩ := ckA cs k h.2
      have hs2 := noSt_cons h.1.1 hs
      refine ⟨.cons c c1, c2, by rw [e]; rfl, .inr ⟨x, xs, rfl, s_cons (ckE c k h.1.2).1 ?_ (star_of hs2)⟩, hk, hl, hs2⟩
      rcases hp with ⟨rfl, rfl⟩ | ⟨_, _, rfl, q⟩
      · exact s_nil
      · exact q
theorem ckD : ∀ (es : CL), DOk prog o es
  | .nil, _, _, _, kx, xs, ks, pos, k, h => by
    cases kx <;> cases xs <;> cases ks <;> first
      | exact ⟨[], [], rfl, .nil⟩
      | cases h
  | .cons c cs, _, _, _, kx, xs, ks, pos, k, h => by
    unfold chkD at h
    split at h
    · simp only [Bool.and_eq_true] at h
      obtain ⟨⟨h1, h2⟩, h3⟩ := h
      obtain ⟨qs, trs, rfl, d⟩ := ckD cs (pos := pos) k h3
      rw [strB_eq h1]
      exact ⟨_ :: qs, _, rfl, .cons (ckE c k h2).1 d⟩
    · cases h
theorem ckSl : ∀ (c : CO), SlOk prog o c
  | .n, _, _, _, e, k, h => by
    cases e with
    | none => exact o_none
    | some _ => cases h
  | .s c, _, _, _, e, k, h => by
    cases e with
    | none => cases h
    | some x => exact o_some (ckE c k h).1
theorem ckO : ∀ (c : CO), OOk prog o c
  | .n, _, ifs, h => by
    cases ifs with
    | nil => exact .inl ⟨rfl, rfl⟩
    | cons _ _ => cases h
  | .s c, _, ifs, h => by
    unfold chkO at h
    split at h
    · rw [Bool.and_eq_true] at h
      exact .inr ⟨_, c, rfl, rfl, fun k => (ckE c k h.2).2.1 h.1⟩
    · cases h
theorem ckI : ∀ (s : CI), IOk prog o s
  | .e c, _, _, _, e, tg, k, h => i_e k.hK (ckE c k h).1
  | .rng a, _, _, _, e, tg, k, h => by
    unfold chkI at h
    split at h
    · simp only [Bool.and_eq_true] at h
      obtain ⟨⟨h1, h2⟩, h3⟩ := h
      obtain ⟨rfl, hg, hm⟩ := k_blt k h2
      exact i_rng hg hm (ckE a k h3).1 (noSt_cons h1 rfl)
    · cases h
  | .rng2 a b, _, _, _, e, tg, k, h => by
    unfold chkI at h
    split at h
    · simp only [Bool.and_eq_true] at h
      obtain ⟨⟨⟨⟨h1, h2⟩, h3⟩, h4⟩, h5⟩ := h
      obtain ⟨rfl, hg, hm⟩ := k_blt k h3
      exact i_rng2 hg hm (ckE a k h4).1 (ckE b k h5).1 (noSt_cons h1 (noSt_cons h2 rfl))
    · cases h
  | .enum es, _, _, _, e, tg, k, h => by
    unfold chkI at h
    split at h
    · rw [Bool.and_eq_true] at h
      obtain ⟨rfl, hg, hm⟩ := k_blt k h.1
      obtain ⟨a1, a2⟩ := ckL es k h.2
      exact i_enum k.hK hg hm a1 a2
    · cases h
  | .enumz es, _, _, _, e, tg, k, h => by
    unfold chkI at h
    split at h
    · simp only [Bool.and_eq_true] at h
      obtain ⟨⟨h1, h2⟩, h3⟩ := h
      obtain ⟨rfl, hg, hm⟩ := k_blt k h1
      obtain ⟨rfl, hg2, hm2⟩ := k_blt k h2
      obtain ⟨a1, a2⟩ := ckL es k h3
      exact i_enumz k.hK hg2 hm2 hg hm a1 a2
    · cases h
  | .zip st es, _, _, _, e, tg, k, h => by
    cases st with
    | false =>
      unfold chkI at h
      dsimp only at h
      split at h
      · rw [Bool.and_eq_true] at h
        obtain ⟨rfl, hg, hm⟩ := k_blt k h.1
        obtain ⟨a1, a2⟩ := ckL es k h.2
        exact i_zip k.hK hg hm a1 a2
      · cases h
    | true =>
      unfold chkI at h
      dsimp only at h
      split at h
      · simp only [Bool.and_eq_true] at h
        obtain ⟨⟨h1, h2⟩, h3⟩ := h
        obtain ⟨rfl, hg, hm⟩ := k_blt k h1
        obtain ⟨a1, a2⟩ := ckL es k h3
        rw [strB_eq h2]
        exact i_zips k.hK hg hm a1 a2
      · cases h
theorem ckT : ∀ (t : CT), TOk prog o t
  | .v i, _, _, _, own, e, k, h => by
    unfold chkT at h
    split at h
    · exact k_name k h
    · cases h
  | .tup ts, _, _, _, own, e, k, h => by
    unfold chkT at h
    split at h
    · obtain ⟨a1, a2, a3⟩ := ckTs ts k h
      exact g_tup k.hK k.cm a3 a2 a1
    · cases h
  | .star ts i, _, _, _, own, e, k, h => by
    unfold chkT at h
    split at h
    · split at h
      · rename_i es kk pos y yp sp hl
        rw [Bool.and_eq_true] at h
        obtain ⟨ys, rfl⟩ := List.getLast?_eq_some_iff.mp hl
        rw [List.dropLast_concat] at h
        obtain ⟨a1, a2, a3⟩ := ckTs ts k h.1
        exact g_star (kp_ok own) wno k.hK k.cm a3 a2 a1 (k_name k h.2)
      · cases h
    · cases h
  | .attr _ _, _, _, _, own, e, k, h => by unfold chkT at h; cases h
  | .idx a b, _, _, _, own, e, k, h => by
    unfold chkT at h
    split at h
    · cases h
    · split at h
      · simp only [Bool.and_eq_true] at h
        obtain ⟨⟨h1, h2⟩, h3⟩ := h
        have hu := k.hu
        exact g_idx (by omega) (ckE a k h2).1 (ckE b k h3).1 (ix_asg h1)
      · cases h
theorem ckTs : ∀ (ts : CTs), TsOk prog o ts
  | .nil, _, _, _, own, es, k, h => by
    cases es with
    | nil => exact ⟨g_nil (kp_ok own), rfl, rfl⟩
    | cons _ _ => unfold chkTs at h; cases h
  | .cons t ts, _, _, _, own, es, k, h => by
    cases es with
    | nil => unfold chkTs at h; cases h
    | cons e es =>
      unfold chkTs at h
      simp only [Bool.and_eq_true] at h
      obtain ⟨a1, a2, a3⟩ := ckTs ts k h.2
      exact ⟨g_cons (kp_ok own) wno (ckT t k h.1.2) a1 (asg_each h.1.1), by show ts.len + 1 = es.length + 1; rw [a2], noSt_cons h.1.1 a3⟩
end
end
end Pf
end
section
set_option Elab.async false
set_option linter.all false
set_option maxRecDepth 100000
set_option maxHeartbeats 4000000
namespace Pf
open PySem PySem.Spec PySem.Calls PyProof.Rows L2
section
variable {S : Sta} {X : Cx} {prog : Prog} {o : Orc} {hx : Option Exn} {Γ : Ct}
theorem XOk.bk (k : XOk S prog o Γ X) (h : Γ.sc.kind = .function) : X.env.blockKind = .function := by
  unfold PySem.Env.blockKind
  rw [k.sc, h]; rfl
theorem swp_of {elt : PySem.Expr} {gs : List Comprehension} {scope : PySem.Scope} {vp py : Pos} {y : Str} {l : Nat} (k : XOk S prog o Γ X) (h : swpB Γ y py.line vp.line scope = true) : swapsWith (.ListComp elt gs scope vp) (some (.Name y py)) l X.env = pure true := by
  unfold swpB at h
  simp only [Bool.and_eq_true, decide_eq_true_eq] at h
  obtain ⟨h1, h2, h3, h4⟩ := h
  show (pure (X.env.blockKind == .function && X.env.kindOf y == some .local && py.line == vp.line && !(scope.names.any fun (n, k) => n == y && (k == .local || k == .cell))) : Sem Bool) = pure true
  have e2 : X.env.kindOf y = some .local := k.lon h2
  rw [k.bk h1, e2, h3, h4]; rfl
theorem swN_of {y : Str} {py : Pos} {v : PySem.Expr} {env : PySem.Env} : swappedStores [.Name y py] v env = pure none := by cases v <;> rfl
theorem swS_of {a b : PySem.Expr} {py : Pos} {v : PySem.Expr} {env : PySem.Env} : swappedStores [.Subscript a b py] v env = pure none := by cases v <;> rfl
theorem swT_of {ts : List PySem.Expr} {kk : Nat} {py : Pos} {v : PySem.Expr} {env : PySem.Env} (h : noTup v = true) : swappedStores [.Tuple ts kk py] v env = pure none := by
  cases v <;> first
    | rfl
    | cases h
theorem parB_of : ∀ {xs : List Str} {is : List Nat}, XOk S prog o Γ X → parB Γ xs is = true → (xs.zip is).map (·.1) = xs ∧ (xs.zip is).map (·.2) = is ∧ ∀ p ∈ xs.zip is, X.N[p.2]? = some p.1 ∧ List.lookup p.1 X.env.scope.names = some NameKind.local
  | [], [], k, h => ⟨rfl, rfl, fun _ h => by cases h⟩
  | [], _ :: _, k, h => by cases h
  | _ :: _, [], k, h => by cases h
  | x :: xs, i :: is, k, h => by
    have h : (slotB Γ x i && lonB Γ x && parB Γ xs is) = true := h
    simp only [Bool.and_eq_true] at h
    obtain ⟨a1, a2, a3⟩ := parB_of k h.2
    refine ⟨congrArg (x :: ·) a1, congrArg (i :: ·) a2, fun p hp => ?_⟩
    rcases List.mem_cons.mp hp with rfl | hp
    · exact ⟨k.hN h.1.1, k.lon h.1.2⟩
    · exact a3 p hp
theorem swB_of {ts vs : List PySem.Expr} {xs : List Str} {kt k2 : Nat} {pt pt2 : Pos} (k : XOk S prog o Γ X) (h : swB Γ ts vs = some xs) : swappedStores [.Tuple ts kt pt] (.Tuple vs k2 pt2) X.env = pure (some xs) := by
  unfold swB at h
  have e : ∀ x, X.env.kindOf x = kindB Γ x := fun x => k.kd
  split at h
  · cases h
  · rename_i h1
    split at h
    · cases h
    · rename_i h2
      dsimp only at h
      split at h
      · cases h
      · rename_i h3
        split at h
        · cases h
        · rename_i h4
          split at h
          · cases h
          · rename_i h5
            cases h
            have hk : Γ.sc.kind = .function := by
              simp only [Bool.or_eq_true, bne_iff_ne, not_or, Classical.not_not] at h1
              exact h1.2
            unfold swappedStores
            rw [k.bk hk]
            simp only [e]
            rw [hk] at h1
            exact (if_neg h1).trans ((if_neg h2).trans ((if_neg h3).trans ((if_neg h4).trans (if_neg h5))))
theorem repM_any {H : Hp} {ρ : List Addr} : ∀ {M : Sto} {as : List Addr} (i : Nat), RepM S H ρ M as → RepM S H ρ (fgtM.fgt1 M i) as
  | [], _, _, h => h
  | _ :: M, _, 0, ⟨a, r, o, e, ha, _, t⟩ => ⟨a, r, o, e, ha, trivial, t⟩
  | _ :: M, _, i + 1, ⟨a, r, o, e, ha, hr, t⟩ => ⟨a, r, o, e, ha, hr, repM_any i t⟩
theorem abs_fgt {H : Hp} {ρ : List Addr} : ∀ {M : Sto} (is : List Nat), Abs S H ρ M → Abs S H ρ (fgtM is M)
  | _, [], A => A
  | _, i :: is, A => abs_fgt is ⟨repM_any i A.m, A.nd, A.hd⟩
theorem b_fgt {sts : List Stmt} {is : List Nat} {b : CB} (h : PSs X sts (tS S WNo fun env => evB prog o hx env b)) : PSs X sts (tS S WNo fun env => evB prog o hx env (.cons (.fgt is) b)) :=
  PSs.imp h fun D σ H ⟨ρ, M, env, A, E, P⟩ => ⟨ρ, fgtM is M, env, abs_fgt is A, E, P⟩
theorem noCons {sts : List Stmt} {s : CS} {b : CB} (h : chkB Γ sts (.cons s b) = true) : s = .stuck ∨ (∃ is, s = .fgt is ∧ chkB Γ sts b = true) ∨ ∃ st r, sts = st :: r ∧ chkS Γ st s = true ∧ chkB Γ r b = true := by
  unfold chkB at h
  split at h
  · exact .inl rfl
  · exact .inr (.inl ⟨_, rfl, h⟩)
  · split at h
    · rw [Bool.and_eq_true] at h
      exact .inr (.inr ⟨_, _, rfl, h.1, h.2⟩)
    · cases h
theorem k_setLc {y : Str} {py vp pos : Pos} {x : PySem.Expr} {gs : List Comprehension} {scope : PySem.Scope} {i : Nat} {wp : List Nat} {elt : CE} {t : CT} {s : CI} {co : CO} {d : CE} (k : XOk S prog o Γ X) (h1 : swpB Γ y py.line vp.line scope = true) (h2 : slotB Γ y i = true)
    (h : chkLC Γ (.ListComp x gs scope vp) wp elt t s co = true) (hd : d = .comp wp elt (.cons t s co .nil) ∨ d = .mk (.comp wp elt (.cons t s co .nil))) : L2.PS X (.Assign [.Name y py] (.ListComp x gs scope vp) pos) (tS S WNo fun env => evS prog o hx env (.asg (.v i) d)) := by
  unfold chkLC at h
  split at h
  · rename_i he
    cases he
    obtain ⟨_, hi, ok, B, hs⟩ := k_comp (pos := vp) k h (ckI s) (ckT t) (ckO co) (ckE elt)
    have hl : lonB Γ y = true := by
      unfold swpB at h1
      simp only [Bool.and_eq_true] at h1
      exact h1.2.1
    exact c_setLc wno k.cm k.nd (k.hN h2) (k.lon hl) (swp_of k h1) (hi _) ok B hs (by rw [own_snd]; exact hd)
  · cases h
theorem k_asg {tg v : PySem.Expr} {t : CT} {c : CE} {pos : Pos} (k : XOk S prog o Γ X) (h1 : noCmp v = true) (h2 : chkT Γ none tg t = true) (h3 : chkE Γ v c = true) (hs : swappedStores [tg] v X.env = pure none) (ha : List.map (fun x => x.snd) (assignEach [tg] X.env) = [assign tg X.env]) :
    L2.PS X (.Assign [tg] v pos) (tS S WNo fun env => evS prog o hx env (.asg t c)) :=
  c_asg (ckE c k h3).1 (ckT t (own := none) k h2) (cmp_of h1) hs ha
end
section
variable {prog : Prog} {o : Orc} {hx : Option Exn}
abbrev SOk (prog : Prog) (o : Orc) (hx : Option Exn) (s : CS) : Prop := ∀ {S : Sta} {X : Cx} {Γ : Ct} {st : Stmt}, XOk S prog o Γ X → chkS Γ st s = true → L2.PS X st (tS S WNo fun env => evS prog o hx env s)
abbrev BOk (prog : Prog) (o : Orc) (hx : Option Exn) (b : CB) : Prop := ∀ {S : Sta} {X : Cx} {Γ : Ct} {sts : List Stmt}, XOk S prog o Γ X → chkB Γ sts b = true → PSs X sts (tS S WNo fun env => evB prog o hx env b)
mutual
theorem ckS : ∀ (s : CS), SOk prog o hx s
  | .stuck, _, _, _, st, k, h => c_stuck
  | .pass, _, _, _, st, k, h => by
    unfold chkS at h
    split at h
    · exact c_pass
    · cases h
  | .ex c, _, _, _, st, k, h => by
    unfold chkS at h
    split at h
    · rw [Bool.and_eq_true] at h
      exact c_ex (ckE c k h.2).1 (cmp_of h.1)
    · cases h
  | .ret c, _, _, _, st, k, h => by
    unfold chkS at h
    split at h
    · exact c_ret (ckE c k h).1
    · split at h
      · exact c_retN
      · cases h
    · cases h
  | .ite c a b, _, _, _, st, k, h => by
    unfold chkS at h
    split at h
    · simp only [Bool.and_eq_true] at h
      obtain ⟨⟨⟨h1, h2⟩, h3⟩, h4⟩ := h
      exact c_if wno ((ckE c k h2).2.1 h1) (ckB a k h3) (ckB b k h4)
    · cases h
  | .for_ t s b, _, _, _, st, k, h => by
    unfold chkS at h
    split at h
    · simp only [Bool.and_eq_true] at h
      obtain ⟨⟨⟨h1, h2⟩, h3⟩, h4⟩ := h
      exact c_for wno k.pas k.cm (ckI s k h2) (ckT t (own := none) k h3) (ckB b k h4) (fun v => set_of h1 v)
    · cases h
  | .aug p t c, _, _, _, st, k, h => by
    unfold chkS at h
    split at h
    · simp only [Bool.and_eq_true] at h
      obtain ⟨⟨⟨⟨⟨h1, h2⟩, h3⟩, h4⟩, h5⟩, h6⟩ := h
      rw [show _ = opA p from of_decide_eq_true h1]
      refine c_aug ?_ k.nd (k.hN h3) (k.loc h4) (ckE c k h6).1 ?_
      · cases p <;> first
          | exact .inl rfl
          | exact .inr rfl
          | cases h2
      · rw [Bool.or_eq_true] at h5
        exact h5.elim (fun f => .inl (k.fn _ f)) fun f => .inr (k.lon f)
    · cases h
  | .par is es, _, _, _, st, k, h => by
    unfold chkS at h
    split at h
    · rw [Bool.and_eq_true] at h
      obtain ⟨h1, h2⟩ := h
      split at h1
      · rename_i ts kt pt vs k2 pt2 pos _ xs hw
        rw [Bool.and_eq_true] at h1
        obtain ⟨a1, a2, a3⟩ := parB_of k h1.1
        have hl : (xs.zip is).length ≤ 3 := by
          have := Nat.le_of_ble_eq_true h1.2
          rw [List.length_zip]
          exact Nat.le_trans (Nat.min_le_right _ _) this
        have := c_par (prog := prog) (o := o) (hx := hx) (L := xs.zip is) (cs := es) k.cm k.nd a3 (ckL es k h2).1 hl (ts := ts) (es := vs) (kt := kt) (k2 := k2) (pt := pt) (pt2 := pt2) (pos := pos) (by rw [a1]; exact swB_of k hw) rfl
        rw [a2] at this
        exact this
      · cases h1
    · cases h
  | .asg t c, _, _, _, st, k, h => by
    unfold chkS at h
    split at h
    · split at h
      · simp only [Bool.and_eq_true] at h
        obtain ⟨⟨⟨h1, h2⟩, h3⟩, h4⟩ := h
        rw [strB_eq h1]
        exact c_setA k.hK k.hc (ckE _ k h3).1 (ckE c k h4).1 (at_of k h2) att_of
      · split at h
        · split at h
          · rename_i h1
            rw [Bool.and_eq_true] at h
            obtain ⟨h2, h3⟩ := h
            split at h3
            · exact k_setLc k h1 h2 h3 (.inl rfl)
            · exact k_setLc k h1 h2 h3 (.inr rfl)
            · cases h3
          · cases h
        · simp only [Bool.and_eq_true] at h
          obtain ⟨⟨h1, h2⟩, h3⟩ := h
          exact k_asg k h1 h2 h3 swN_of rfl
      · simp only [Bool.and_eq_true] at h
        obtain ⟨⟨⟨h1, h2⟩, h3⟩, h4⟩ := h
        exact k_asg k h1 h3 h4 (swT_of h2) rfl
      · simp only [Bool.and_eq_true] at h
        obtain ⟨⟨h1, h2⟩, h3⟩ := h
        exact k_asg k h1 h2 h3 swS_of rfl
      · cases h
    · cases h
  | .whl _ _, _, _, _, st, k, h => by unfold chkS at h; cases h
  | .raise _ _, _, _, _, st, k, h => by unfold chkS at h; cases h
  | .reraise, _, _, _, st, k, h => by unfold chkS at h; cases h
  | .try_ _ _ _, _, _, _, st, k, h => by unfold chkS at h; cases h
  | .brk, _, _, _, st, k, h => by unfold chkS at h; cases h
  | .fgt _, _, _, _, st, k, h => by unfold chkS at h; cases h
  | .cont, _, _, _, st, k, h => by unfold chkS at h; cases h
theorem ckB : ∀ (b : CB), BOk prog o hx b
  | .nil, _, _, _, sts, k, h => by
    cases sts with
    | nil => exact b_nil
    | cons _ _ => unfold chkB at h; cases h
  | .cons s b, _, _, _, sts, k, h => by
    rcases noCons h with e | ⟨is, e, h1⟩ | ⟨st, r, e, h1, h2⟩
    · subst e
      exact b_stuck
    · have q := ckB b k h1
      subst e
      exact b_fgt q
    · rw [e]
      exact b_cons wno (ckS s k h1) (ckB b k h2)
end
end
end Pf
end
section
set_option Elab.async false
set_option linter.all false
set_option maxRecDepth 100000
set_option maxHeartbeats 1000000
namespace Pf
open PySem PySem.Spec PySem.Calls PyProof.Rows L2
def eqLs : List (List Nat) → List (List Nat) → Bool
  | [], [] => true
  | a :: as, b :: bs => seq a b && eqLs as bs
  | _, _ => false
theorem eqLs_eq : ∀ {as bs : List (List Nat)}, eqLs as bs = true → as = bs
  | [], [], _ => rfl
  | [], _ :: _, h => by cases h
  | _ :: _, [], h => by cases h
  | a :: as, b :: bs, h => by
    have h : (seq a b && eqLs as bs) = true := h
    rw [Bool.and_eq_true] at h
    rw [seq_iff.mp h.1, eqLs_eq h.2]
def ndB : List (List Nat) → Bool
  | [] => true
  | a :: as => !(as.any (seq a)) && ndB as
theorem ndB_nd : ∀ {as : List (List Nat)}, ndB as = true → as.Nodup
  | [], _ => List.nodup_nil
  | a :: as, h => by
    have h : (!(as.any (seq a)) && ndB as) = true := h
    rw [Bool.and_eq_true, Bool.not_eq_true', ← Bool.not_eq_true, any_seq] at h
    exact List.nodup_cons.mpr ⟨h.1, ndB_nd h.2⟩
def natsB : List Nat → List Nat → Bool
  | [], [] => true
  | a :: as, b :: bs => Nat.beq a b && natsB as bs
  | _, _ => false
theorem natsB_eq : ∀ {as bs : List Nat}, natsB as bs = true → as = bs
  | [], [], _ => rfl
  | [], _ :: _, h => by cases h
  | _ :: _, [], h => by cases h
  | a :: as, b :: bs, h => by
    have h : (Nat.beq a b && natsB as bs) = true := h
    rw [Bool.and_eq_true] at h
    rw [Nat.eq_of_beq_eq_true h.1, natsB_eq h.2]
def chkF (T : Tabs) (NL : List (List Nat)) (d : Fn) (scope : PySem.Scope) (body : List Stmt) : Bool :=
  decide (scope.kind = .function) && (!scope.isCoroutine && (!scope.isGenerator && (ndB NL && (eqLs (NL.take d.pn.length) d.pn && (natsB d.ps (List.range d.pn.length) && (Nat.beq NL.length d.n &&
    (Nat.ble d.pn.length NL.length && (d.pn.all (fun l => match lkB scope.names (sv l) with
      | some .local => true
      | some .cell => true
      | _ => false) && (scope.names.all (fun y => !decide (y.2 = .free)) && chkB ⟨T, NL, scope, fun _ => true⟩ body d.body)))))))))
theorem chkF_sc {T : Tabs} {NL : List (List Nat)} {d : Fn} {scope : PySem.Scope} {body : List Stmt} (h : chkF T NL d scope body = true) : FnScope (NL.map sv) (d.pn.map sv) scope ∧ NL.Nodup ∧ d.ps = List.range d.pn.length ∧ NL.length = d.n ∧ d.pn.length ≤ NL.length ∧
    chkB ⟨T, NL, scope, fun _ => true⟩ body d.body = true := by
  unfold chkF at h
  simp only [Bool.and_eq_true, decide_eq_true_eq, Bool.not_eq_true', List.all_eq_true] at h
  obtain ⟨h1, h2, h3, h4, h5, h6, h7, h8, h9, h10, h11⟩ := h
  have nd := ndB_nd h4
  refine ⟨⟨h1, h2, h3, map_sv_nodup nd, ?_, fun x hx => ?_, fun y hy => ?_⟩, nd, natsB_eq h6, Nat.eq_of_beq_eq_true h7, Nat.le_of_ble_eq_true h8, h11⟩
  · rw [List.length_map, ← List.map_take, eqLs_eq h5]
  · obtain ⟨l, hl, rfl⟩ := List.mem_map.mp hx
    have q := h9 l hl
    rw [lkB_eq] at q
    split at q
    · exact .inl (by assumption)
    · exact .inr (by assumption)
    · cases q
  · have := h10 y hy
    simpa using this
theorem putSl_range : ∀ (ps : List PV) (pre : Env) (m : Nat), putSl (List.range' pre.length ps.length) ps (pre ++ List.replicate (ps.length + m) none) = pre ++ (ps.map some ++ List.replicate m none)
  | [], pre, m => by simp [putSl]
  | x :: ps, pre, m => by
    have e1 : setAt (pre ++ List.replicate (ps.length + 1 + m) none) pre.length (some x) = (pre ++ [some x]) ++ List.replicate (ps.length + m) none := by
      have : ∀ (pre : Env), setAt (pre ++ List.replicate (ps.length + 1 + m) none) pre.length (some x) = (pre ++ [some x]) ++ List.replicate (ps.length + m) none := by
        intro pre
        induction pre with
        | nil =>
          rw [show ps.length + 1 + m = (ps.length + m) + 1 by omega]
          rfl
        | cons a pre ih => exact congrArg (a :: ·) ih
      exact this pre
    show putSl (List.range' (pre.length + 1) ps.length) ps (setAt (pre ++ List.replicate (ps.length + 1 + m) none) pre.length (some x)) = _
    rw [e1]
    have := putSl_range ps (pre ++ [some x]) m
    rw [List.length_append] at this
    rw [show pre.length + 1 = pre.length + [some x].length from rfl, this]
    simp
section
variable {S : Sta} {H : Hp} {ρ : List Addr}
theorem start_rep {d : Fn} {NL : List (List Nat)} {ps : List PV} {vs : List V} (r : RepL S H ρ ps vs) (h1 : d.ps = List.range d.pn.length) (h2 : NL.length = d.n) (h3 : d.pn.length ≤ NL.length) (h4 : vs.length = d.pn.length) :
    RepE S H ρ (putSl d.ps ps (List.replicate d.n none)) (L2.start (NL.map sv) vs) := by
  have lp : ps.length = d.pn.length := by rw [r.len, h4]
  have e : putSl d.ps ps (List.replicate d.n none) = ps.map some ++ List.replicate (d.n - d.pn.length) none := by
    have := putSl_range ps [] (d.n - d.pn.length)
    rw [h1, ← lp]
    rw [lp] at this ⊢
    rw [show d.pn.length + (d.n - d.pn.length) = d.n by omega] at this
    rw [List.range_eq_range']
    exact this
  rw [e]
  unfold L2.start
  refine ⟨?_, fun i v hv => ?_⟩
  · simp only [List.length_append, List.length_map, List.length_replicate]
    have := r.len
    omega
  · have lv := r.len
    rcases Nat.lt_or_ge i ps.length with h | h
    · rw [List.getElem?_append_left (by rw [List.length_map]; exact h), List.getElem?_map] at hv
      cases q : ps[i]? with
      | none => rw [q] at hv; cases hv
      | some p =>
        rw [q] at hv
        cases hv
        obtain ⟨w, hw, rw'⟩ := r.get q
        exact ⟨w, by rw [List.getElem?_append_left (by rw [List.length_map, ← lv]; exact h), List.getElem?_map, hw]; rfl, rw'⟩
    · rw [List.getElem?_append_right (by rw [List.length_map]; exact h)] at hv
      have := List.mem_of_getElem? hv
      rw [List.mem_replicate] at this
      cases this.2
end
structure Dfs (S : Sta) (prog : Prog) (T : Tabs) (nls : List (List (List Nat))) : Prop where
  f : ∀ f d, prog.fns[f]? = some d → ∃ fd x qual params body scope dvs kws NL, FunD S.K x qual params body scope dvs kws (S.fA f) fd ∧ (∀ h, FnDat (S.wh h) S.K d fd) ∧ chkF T NL d scope body = true
theorem gc_any {S : Sta} {H H0 : Hp} {ρ ρ0 : List Addr} {M M' : Sto} {v : PV} (A0 : Abs S H0 ρ0 M) (X : Ext ρ0 H0 ρ H) (A : Abs S H ρ M') : ∃ ρ', Ext ρ0 H0 ρ' H ∧ Abs S H ρ' (gcV M.length v M') := by
  obtain ⟨ρ2, x2, A2, _⟩ := gc_ok (v := .non) (x := .non) A0 X A rfl
  unfold gcV at A2 ⊢
  cases h1 : Nat.blt M.length M'.length with
  | false => exact ⟨ρ, X, A⟩
  | true =>
    cases h2 : below M.length v && belowM M.length M.length M' with
    | false => exact ⟨ρ, X, A⟩
    | true =>
      rw [Bool.and_eq_true] at h2
      rw [h1, h2.2] at A2
      exact ⟨ρ2, x2, A2⟩
theorem gcF_ok {S : Sta} {H H0 : Hp} {ρ ρ0 : List Addr} {M M' : Sto} {v : PV} {x : V} {b : Bool} (A0 : Abs S H0 ρ0 M) (X : Ext ρ0 H0 ρ H) (A : Abs S H ρ M') (r : Rep S H ρ v x) : ∃ ρ', Ext ρ0 H0 ρ' H ∧ Abs S H ρ' (gcF b M.length v M') ∧ Rep S H ρ' v x := by
  cases b with
  | true => exact gc_ok A0 X A r
  | false => exact ⟨ρ, X, A, r⟩
theorem gcF_any {S : Sta} {H H0 : Hp} {ρ ρ0 : List Addr} {M M' : Sto} {v : PV} {b : Bool} (A0 : Abs S H0 ρ0 M) (X : Ext ρ0 H0 ρ H) (A : Abs S H ρ M') : ∃ ρ', Ext ρ0 H0 ρ' H ∧ Abs S H ρ' (gcF b M.length v M') := by
  cases b with
  | true => exact gc_any A0 X A
  | false => exact ⟨ρ, X, A⟩
theorem runC_post {S : Sta} {prog : Prog} {n f : Nat} {d : Fn} {H : Hp} {ρ : List Addr} {M : Sto} {env : Env} {Q : VK} (hf : prog.fns[f]? = some d) (A : Abs S H ρ M) (P : Post S ρ H (runC prog (n + 1) f env M) (fun v _ ρ' H' => ∀ x, Rep S H' ρ' v x → Q x H') (fun _ _ _ _ => False)) :
    Post S ρ H (evB prog (runC prog n) none env d.body M) (okS S { nx := fun x H' => Q V.non H', rt := Q }) (fun _ _ _ _ => False) := by
  have e : runC prog (n + 1) f env M = match evB prog (runC prog n) none env d.body M with
      | .ok (.rt v) M' => .ok v (gcF d.gc M.length v M')
      | .ok (.nx _) M' => .ok .non (gcF d.gc M.length .non M')
      | .ok _ _ => .no "break"
      | .ex e M' => .ex e (gcF d.gc M.length (.exo e.c e.fs) M')
      | .no w => .no w := by
    show (match prog.fns[f]? with
      | none => Rs.no "no def"
      | some d => _) = _
    rw [hf] <;> rfl
  rw [e] at P
  cases q : evB prog (runC prog n) none env d.body M with
  | ok fl M' =>
    rw [q] at P
    cases fl with
    | rt v =>
      intro ρ' H' x' A' x rx
      obtain ⟨ρ2, x2, A2, r2⟩ := gcF_ok A x' A' rx
      exact P ρ2 H' x2 A2 x r2
    | nx env' =>
      intro ρ' H' x' A' σ' _
      obtain ⟨ρ2, x2, A2, r2⟩ := gcF_ok (v := .non) (x := .non) A x' A' rfl
      exact P ρ2 H' x2 A2 _ r2
    | bk _ => exact P.elim
    | ct _ => exact P.elim
  | ex e M' =>
    rw [q] at P
    intro ρ' H' x' A'
    obtain ⟨ρ2, x2, A2⟩ := gcF_any (v := .exo e.c e.fs) A x' A'
    exact P ρ2 H' x2 A2
  | no w =>
    rw [q] at P
    exact P.elim
end Pf
end
section
set_option Elab.async false
set_option linter.all false
set_option maxRecDepth 100000
set_option maxHeartbeats 1000000
namespace Pf
open PySem PySem.Spec PySem.Calls PyProof.Rows L2
def fdOf (K : W.Frag) (a : Addr) : Option FuncData := match K.lookup a with
  | some ⟨_, _, .func fd, _⟩ => some fd
  | _ => none
theorem fdOf_of {K : W.Frag} {x qual : Str} {params : Arguments} {body : List Stmt} {scope : PySem.Scope} {dvs : List V} {kws : List (Str × V)} {f : Addr} {fd : FuncData} (F : FunD K x qual params body scope dvs kws f fd) : fdOf K f = some fd := by
  obtain ⟨oc, od, dV, kV, doc, pm, an, cdv, ct, osl, e, lk, _⟩ := F.ex
  unfold fdOf
  rw [lk]
theorem fnG_all {S : Sta} {prog : Prog} {T : Tabs} {nls : List (List (List Nat))} {P : Program} {w : World} {mg : Str → Option Value} {base : Heap} (D : Dfs S prog T nls) (hc : ClsOk S prog) (gt : GT S prog mg T) :
    ∀ (n : Nat) (h : Addr → Prop) (f : Nat) (d : Fn), prog.fns[f]? = some d → ∃ fd, FnG P w S.K mg base (L2.CX P w) (4 * n) (S.fA f) fd (d.pn.map sv) (spF (S.wh h) xwNo (runC prog n) f d) ∧ FnDat (S.wh h) S.K d fd ∧ fdOf S.K (S.fA f) = some fd
  | 0, h, f, d, hf => by
    obtain ⟨fd, x, qual, params, body, scope, dvs, kws, NL, F, dat, chk⟩ := D.f f d hf
    refine ⟨fd, ⟨fun vs H Q E hsp => by rw [List.length_map]; exact hsp.1, fun A outer s H args us vs Q E hG hr e0 hb r hsp => ?_⟩, dat h, fdOf_of F⟩
    obtain ⟨_, ρ, M, ps, _, _, P⟩ := hsp
    exact (show False from P).elim
  | n + 1, h, f, d, hf => by
    obtain ⟨fd, x, qual, params, body, scope, dvs, kws, NL, F, dat, chk⟩ := D.f f d hf
    obtain ⟨sc, nd, h1, h2, h3, h4⟩ := chkF_sc chk
    refine ⟨fd, FunD.okG (k := 4 * n + 3) F sc (fun vs H Q E hsp => by rw [List.length_map]; exact hsp.1) fun cdv A outer s H vs Q E hG hr hsp => ?_, dat h, fdOf_of F⟩
    obtain ⟨hl, ρ, M, ps, A0, r, P0⟩ := hsp
    refine ⟨tS (S.wh h) WNo fun env => evB prog (runC prog n) none env d.body, PSs.nox (ckB d.body (S := S.wh h) (Γ := ⟨T, NL, scope, fun _ => true⟩) ?_ h4), ρ, M, _, A0, start_rep r h1 h2 h3 hl, runC_post hf A0 P0⟩
    exact ⟨rfl, hc.wh, rfl, rfl, map_sv_nodup nd, rfl, fun _ _ => rfl, gt.wh, hG, rfl, 4 * n, hr, fun h' f' d' e => by
      obtain ⟨fd, q1, q2, _⟩ := fnG_all D hc gt n h' f' d' e
      exact ⟨fd, q1, q2⟩⟩
end Pf
end
section
set_option Elab.async false
set_option linter.all false
set_option maxRecDepth 100000
set_option maxHeartbeats 1000000
namespace Pf
open PySem PySem.Spec PySem.Calls PyProof.Rows L2
abbrev scO (vs : List Value) : Obj := { cls := .type "list", data := .seq vs.toArray }
def scH (a : Addr) (vs : List Value) (ns : List Int) : Hp := fun b => if b = a then some (.frz (scO vs) (.lst (ns.map V.int))) else none
theorem scH_at {a : Addr} {vs : List Value} {ns : List Int} : scH a vs ns a = some (.frz (scO vs) (.lst (ns.map V.int))) := if_pos rfl
theorem scH_off {a b : Addr} {vs : List Value} {ns : List Int} (h : b ≠ a) : scH a vs ns b = none := if_neg h
theorem law_callG {P : Program} {w : World} {K : W.Frag} {mg mb : Str → Option Value} {k : Nat} {fa a : Addr} {fd : FuncData} {x : Str} {sp : Sp} {s1 : Shared} {vs : List Value} {ns : List Int} (KX : K.In s1.heap) (hns : s1.heap.Ns mainGlobals mg) (hb : s1.heap.Ns builtinsNs mb)
    (hbb : ∀ x : Str, x ≠ "__name__" → mb x = bootBuiltins x) (hlim : s1.heap.NoLimit) (hg : s1.gens = #[]) (ha : s1.heap.get? a = some (scO vs)) (hi : IntsAre vs ns) (hl : ns.length ≤ sizeLine) (hr : Room k callerA) (nl : ∀ b o, K.lookup b = some o → o.cls ≠ .type "list")
    (F : ∀ base : Heap, K.In base → base.Ns mainGlobals mg → FnG P w K mg base (L2.CX P w) k fa fd [x] sp) (hbind : BindsTo s1 fd ⟨[.ref a], []⟩ [(x, .ref a)]) (hsp : sp [.ref a] (scH a vs ns) (fun v _ => v = .bl true) fun _ _ _ => False) :
    codeAny (model P w) callerA (.call (.ref fa) ⟨[.ref a], []⟩) (fun r s' => r = .ok (.ret (.bool true)) ∧ OldK s1.heap s'.heap ∧ s'.os = s1.os ∧ AllBare s'.gens) s1 := by
  have hv := vals_ints hi
  have hlen : (ns.map V.int).length ≤ sizeLine := by rw [List.length_map]; exact hl
  generalize hB : hidT s1.heap (scH a vs ns) = B
  have inB : ∀ b o, s1.heap.get? b = some o → b ≠ a → B.get? b = some o := fun b o e n => by rw [← hB]; exact hidT_get e (scH_off n)
  have ofB : ∀ b o, B.get? b = some o → s1.heap.get? b = some o ∧ scH a vs ns b = none := fun b o e => of_hidT (by rw [hB]; exact e)
  have szB : B.objs.size = s1.heap.objs.size := by rw [← hB]; exact hidT_size _ _
  have nd : ∀ b o es ep, s1.heap.get? b = some o → o.data = .dict es ep → b ≠ a := fun b o es ep e d z => by
    rw [z, ha] at e
    cases e
    cases d
  have nsB : ∀ {b : Addr} {m : Str → Option Value}, s1.heap.Ns b m → B.Ns b m := by
    rintro b m ⟨o, es, ep, e, d, r⟩
    exact ⟨o, es, ep, inB b o e (nd b o es ep e d), d, r⟩
  have KB : K.In B := fun b o e => inB b o (KX b o e) fun z => by
    have q := KX b o e
    rw [z, ha] at q
    exact nl b o e (by rw [← Option.some.inj q])
  have ok0 : HOk P w (scH a vs ns) s1.heap := fun b u e => by
    by_cases q : b = a
    · rw [q, scH_at] at e
      cases e
      rw [q]
      exact ⟨ha, hlen, vs, 0, hv, ha⟩
    · rw [scH_off q] at e; cases e
  have mod : Mod K mg B := ⟨KB, nsB hns, ⟨mb, nsB hb, hbb⟩, by obtain ⟨mc, q1, q2⟩ := hlim; exact ⟨mc, nsB q1, q2⟩⟩
  have env0 : Env0 P w K mg B callerA [] s1 (scH a vs ns) := by
    refine ⟨rfl, mod, ofB, Nat.le_of_eq szB, trivial, fun b hb => ?_, ok0, .of_eq hg⟩
    cases hb
  have run := (F B KB (nsB hns)).run callerA [] s1 (scH a vs ns) ⟨[.ref a], []⟩ [.ref a] [.ref a] (fun v _ => v = .bl true) (fun _ _ _ => False) rfl hr env0 hbind (.cons rfl .nil) hsp
  refine codeAny_mono run fun r s' h => ?_
  cases r with
  | error e => exact (cx_no h).elim
  | ok fl =>
    cases fl with
    | ret u =>
      obtain ⟨v, H', os, bare, un, ok1, rv, q⟩ := h
      subst q
      have eu : u = Value.bool true := rv
      subst eu
      refine ⟨rfl, OldK.of_keep fun b o e => ?_, os, bare⟩
      by_cases q : b = a
      · have z := un.frzs b _ _ (by rw [q]; exact scH_at)
        obtain ⟨e1, _⟩ := ok1 b _ z
        rw [q, ha] at e
        cases e
        exact e1
      · exact un.keep b o e (scH_off q) (fun z => by cases z) (fun z => by cases z)
    | _ => exact False.elim h
end Pf
end
section
set_option Elab.async false
set_option linter.all false
set_option maxRecDepth 100000
set_option maxHeartbeats 1000000
namespace Pf
open PySem PySem.Spec PySem.Calls PyProof.Rows L2
def pvV : PV → V
  | .bl b => .bl b
  | .int i => .int i
  | .str s => .str (sv s)
  | _ => .non
def scB : PV → Bool
  | .non => true
  | .bl _ => true
  | .int _ => true
  | .str _ => true
  | _ => false
theorem pvV_rep {p : PV} (h : scB p = true) {S : Sta} {H : Hp} {ρ : List Addr} : Rep S H ρ p (pvV p) := by
  cases p <;> first
    | rfl
    | cases h
def opvB : List (Option PV) → List (Option PV) → Bool
  | [], [] => true
  | none :: as, none :: bs => opvB as bs
  | some a :: as, some b :: bs => pvB a b && opvB as bs
  | _, _ => false
theorem opvB_eq : ∀ {as bs : List (Option PV)}, opvB as bs = true → as = bs
  | [], [], _ => rfl
  | [], _ :: _, h => by cases h
  | none :: _, [], h => by cases h
  | some _ :: _, [], h => by cases h
  | none :: as, none :: bs, h => by rw [opvB_eq (show opvB as bs = true from h)]
  | none :: _, some _ :: _, h => by cases h
  | some _ :: _, none :: _, h => by cases h
  | some a :: as, some b :: bs, h => by
    have h : (pvB a b && opvB as bs) = true := h
    rw [Bool.and_eq_true] at h
    rw [pvB_eq h.1, opvB_eq h.2]
def argsB : List PySem.Arg → List (List Nat) → Bool
  | [], [] => true
  | a :: as, l :: ls => strB a.arg l && argsB as ls
  | _, _ => false
theorem argsB_eq : ∀ {as : List PySem.Arg} {ls : List (List Nat)}, argsB as ls = true → as.map (·.arg) = ls.map sv
  | [], [], _ => rfl
  | [], _ :: _, h => by cases h
  | _ :: _, [], h => by cases h
  | a :: as, l :: ls, h => by
    have h : (strB a.arg l && argsB as ls) = true := h
    rw [Bool.and_eq_true] at h
    show a.arg :: _ = _
    rw [strB_eq h.1, argsB_eq h.2]; rfl
def dvOf (d : Fn) (pd : List PV) (kd : List (List Nat × PV)) : List (Option PV) := List.replicate (d.np - pd.length) none ++ (pd.map some ++ (d.pn.drop d.np).map fun n => fget n kd)
def chkP (d : Fn) (params : Arguments) (pd : List PV) (kd : List (List Nat × PV)) : Bool :=
  params.posonlyargs.isEmpty && (params.vararg.isNone && (params.kwarg.isNone && (argsB params.args (d.pn.take d.np) && (argsB params.kwonlyargs (d.pn.drop d.np) && (ndB d.pn && (Nat.ble d.np d.pn.length && (Nat.ble pd.length d.np && (pd.all scB && (kd.all (fun q => scB q.2) && opvB d.dv (dvOf d pd kd))))))))))
theorem fget_mem {α : Type} {n : List Nat} {p : α} : ∀ {kd : List (List Nat × α)}, fget n kd = some p → (n, p) ∈ kd
  | [], h => by cases h
  | (a, b) :: r, h => by
    have h : (match seq a n with
      | true => some b
      | false => fget n r) = some p := h
    split at h
    · rename_i e
      cases h
      rw [seq_iff.mp e]
      exact List.mem_cons_self
    · exact List.mem_cons_of_mem _ (fget_mem h)
theorem kw_vals {K : W.Frag} {kV : Value} {kd : List (List Nat × PV)} (hk : KwdV K kV (kd.map fun q => (sv q.1, pvV q.2))) : ∀ ns : List (List Nat), ∃ us : List (Option Value), us.length = ns.length ∧
    (∀ (S : Sta), (∀ q ∈ kd, scB q.2 = true) → Paired (OptR (RelP S)) (ns.map fun n => fget n kd) us) ∧ ∀ (i : Nat) (n : List Nat) (v : Value), ns[i]? = some n → us[i]? = some (some v) → ∃ a, kV = .ref a ∧ W.nsIn K a (sv n) = some (some v)
  | [] => ⟨[], rfl, fun _ _ => .nil, fun i n v h => by simp at h⟩
  | n :: ns => by
    obtain ⟨us, h1, h2, h3⟩ := kw_vals hk ns
    cases e : fget n kd with
    | none =>
      refine ⟨none :: us, by rw [List.length_cons, List.length_cons, h1], fun S hs => .cons (show OptR (RelP S) (fget n kd) none by rw [e]; trivial) (h2 S hs), fun i m v hm hv => ?_⟩
      cases i with
      | zero => cases hv
      | succ i => exact h3 i m v hm hv
    | some p =>
      have hm := fget_mem e
      rcases hk with hk | ⟨D, rfl, hk⟩
      · rw [List.map_eq_nil_iff] at hk
        rw [hk] at hm
        cases hm
      · obtain ⟨u, hu, hr⟩ := hk (sv n, pvV p) (List.mem_map.mpr ⟨(n, p), hm, rfl⟩)
        refine ⟨some u :: us, by rw [List.length_cons, List.length_cons, h1], fun S hs => .cons (show OptR (RelP S) (fget n kd) (some u) by rw [e]; exact ⟨pvV p, hr, fun H ρ => pvV_rep (hs _ hm)⟩) (h2 S hs), fun i m v hm' hv => ?_⟩
        cases i with
        | zero =>
          cases hm'
          cases hv
          exact ⟨D, rfl, hu⟩
        | succ i => exact h3 i m v hm' hv
theorem pos_vals {S : Sta} : ∀ {pd : List PV} {its : List Value}, (∀ p ∈ pd, scB p = true) → Vals (pd.map pvV) its → Paired (OptR (RelP S)) (pd.map some) (its.map some)
  | [], _, _, r => by cases r; exact .nil
  | p :: pd, _, hs, r => by
    cases r with
    | cons a b => exact .cons ⟨pvV p, a, fun H ρ => pvV_rep (hs p List.mem_cons_self)⟩ (pos_vals (fun q hq => hs q (List.mem_cons_of_mem _ hq)) b)
theorem rep_none {S : Sta} : ∀ n : Nat, Paired (OptR (RelP S)) (List.replicate n none) (List.replicate n none)
  | 0 => .nil
  | n + 1 => .cons trivial (rep_none n)
theorem fnDat_of {K : W.Frag} {d : Fn} {x qual : Str} {params : Arguments} {body : List Stmt} {scope : PySem.Scope} {pd : List PV} {kd : List (List Nat × PV)} {f : Addr} {fd : FuncData} (F : FunD K x qual params body scope (pd.map pvV) (kd.map fun q => (sv q.1, pvV q.2)) f fd)
    (h : chkP d params pd kd = true) : ∀ S : Sta, FnDat S K d fd := by
  obtain ⟨oc, od, dV, kV, doc, pm, an, cdv, ct, osl, rfl, lk, hcd, hD, hKw⟩ := F.ex
  unfold chkP at h
  simp only [Bool.and_eq_true, List.all_eq_true] at h
  obtain ⟨h1, h2, h3, h4, h5, h6, h7, h8, h9, h10, h11⟩ := h
  have h7 := Nat.le_of_ble_eq_true h7
  have h8 := Nat.le_of_ble_eq_true h8
  obtain ⟨ws, w1, w2, w3⟩ := kw_vals hKw (d.pn.drop d.np)
  obtain ⟨its, i1, i2⟩ : ∃ its : List Value, Vals (pd.map pvV) its ∧ ∃ (o2 : Option (Array Value)), (∀ (M : Model) (h : Heap), K.In h → W.Looks M h (seqItems? dV) o2) ∧ (o2.getD #[]).toList = its := by
    rcases hD with ⟨e, rfl⟩ | ⟨_, T, o, its, n, rfl, lT, oT, rT⟩
    · rw [e]
      exact ⟨[], .nil, none, fun M h _ => W.Looks.of_pure rfl, rfl⟩
    · exact ⟨its, rT, some its.toArray, fun M h X A Q E s kp q => wpAny_seqItems (kp _ _ (X _ _ lT)) oT q, by simp⟩
  have li : its.length = pd.length := by have := Paired.length i1; rw [List.length_map] at this; exact this.symm
  obtain ⟨o2, i2, i3⟩ := i2
  intro S
  refine ⟨List.replicate (d.np - its.length) none ++ (its.map some ++ ws), ?_, ?_⟩
  · have ln : (List.replicate (d.np - its.length) (none : Option Value)).length = d.np - its.length := List.length_replicate
    refine ⟨List.isEmpty_iff.mp h1, Option.isNone_iff_eq_none.mp h2, Option.isNone_iff_eq_none.mp h3, argsB_eq h4, argsB_eq h5, ndB_nd h6, h7, ?_, ⟨o2, its, i2, i3, by omega, fun i hi => ?_, fun i hi1 hi2 => ?_⟩, fun i p v hi hp hv => ?_⟩
    · simp only [List.length_append, List.length_replicate, List.length_map, w1, List.length_drop]
      omega
    · rw [List.getElem?_append_left (by rw [ln]; exact hi), List.getElem?_replicate, if_pos hi]
    · have hb : i - (d.np - its.length) < its.length := by omega
      refine ⟨its[i - (d.np - its.length)], ?_, List.getElem?_eq_getElem hb⟩
      rw [List.getElem?_append_right (by rw [ln]; exact hi1), ln, List.getElem?_append_left (by rw [List.length_map]; exact hb), List.getElem?_map, List.getElem?_eq_getElem hb]; rfl
    · rw [List.getElem?_append_right (by rw [ln]; omega), ln, List.getElem?_append_right (by rw [List.length_map]; omega), List.length_map, show i - (d.np - its.length) - its.length = i - d.np by omega] at hv
      exact w3 (i - d.np) p v (by rw [List.getElem?_drop, show d.np + (i - d.np) = i by omega]; exact hp) hv
  · rw [opvB_eq h11]
    unfold dvOf
    rw [← li]
    exact Paired.app (rep_none _) (Paired.app (pos_vals h9 i1) (w2 S h10))
end Pf
end
section
set_option Elab.async false
set_option linter.all false
set_option maxRecDepth 100000
set_option maxHeartbeats 1000000
namespace Pf
open PySem PySem.Spec PySem.Calls PyProof.Rows L2
structure Txt where
  prog : Prog
  T : Tabs
  D : List He.DefD
  pd : List (List PV)
  kd : List (List (List Nat × PV))
  nls : List (List (List Nat))
  own : List Nat
def cnm (x : Txt) (c : Nat) : Str := sv ((x.prog.cls.map (·.nm)).getD c [])
def cAd (x : Txt) (K : W.Frag) (c : Nat) : Addr := He.ga K (cnm x c)
def fAdr (x : Txt) (K : W.Frag) (f : Nat) : Addr := He.fAd K ((x.D.map (·.at_)).getD f (sv [], none))
def staOf (x : Txt) (K : W.Frag) (h : Addr → Prop) : Sta := ⟨K, cAd x K, fAdr x K, fun c => x.own.any (Nat.beq c), h⟩
mutual
def repB (K : W.Frag) : PV → Value → Bool
  | .non, u => match u with
    | .none => true
    | _ => false
  | .bl b, u => match u with
    | .bool c => b == c
    | _ => false
  | .int i, u => match u with
    | .int j _ => decide (i = j)
    | _ => false
  | .str s, u => match u with
    | .str y _ => strB y s
    | _ => false
  | .tup xs, u => match u with
    | .ref a => match K.lookup a with
      | some ⟨.type c, _, .seq its _, _⟩ => decide (c = "tuple") && (decide (its.size ≤ sizeLine) && repBs K xs its.toList)
      | _ => false
    | _ => false
  | _, _ => false
def repBs (K : W.Frag) : List PV → List Value → Bool
  | [], us => us.isEmpty
  | x :: xs, us => match us with
    | u :: us => repB K x u && repBs K xs us
    | [] => false
end
section
variable {K : W.Frag}
mutual
theorem repB_ok : ∀ {p : PV} {u : Value}, repB K p u = true → ∃ v, RelV v u ∧ ∀ S : Sta, S.K = K → ∀ H ρ, Rep S H ρ p v
  | .non, u, h => by
    unfold repB at h
    split at h
    · exact ⟨.non, rfl, fun _ _ _ _ => rfl⟩
    · cases h
  | .bl b, u, h => by
    unfold repB at h
    split at h
    · have e := eq_of_beq h
      subst e
      exact ⟨.bl b, rfl, fun _ _ _ _ => rfl⟩
    · cases h
  | .int i, u, h => by
    unfold repB at h
    split at h
    · have e := of_decide_eq_true h
      subst e
      exact ⟨.int i, ⟨_, rfl⟩, fun _ _ _ _ => rfl⟩
    · cases h
  | .str s, u, h => by
    unfold repB at h
    split at h
    · rw [strB_eq h]
      exact ⟨.str (sv s), ⟨_, rfl⟩, fun _ _ _ _ => rfl⟩
    · cases h
  | .tup xs, u, h => by
    unfold repB at h
    split at h
    · split at h
      · rename_i a _ c od its n osl e
        simp only [Bool.and_eq_true, decide_eq_true_eq] at h
        obtain ⟨h1, h2, h3⟩ := h
        obtain ⟨vs, r1, r2⟩ := repBs_ok h3
        exact ⟨.ref a, rfl, fun S hS H ρ => ⟨a, vs, rfl, .inr ⟨_, its, n, by rw [hS]; exact e, congrArg Value.type h1, rfl, h2, r1⟩, r2 S hS H ρ⟩⟩
      · cases h
    · cases h
  | .lst _, u, h => by cases h
  | .dic _, u, h => by cases h
  | .loc _, u, h => by cases h
  | .fn _, u, h => by cases h
  | .cls _, u, h => by cases h
  | .clo _ _, u, h => by cases h
  | .exo _ _, u, h => by cases h
theorem repBs_ok : ∀ {ps : List PV} {us : List Value}, repBs K ps us = true → ∃ vs, Vals vs us ∧ ∀ S : Sta, S.K = K → ∀ H ρ, RepL S H ρ ps vs
  | [], us, h => by
    cases us with
    | nil => exact ⟨[], .nil, fun _ _ _ _ => rfl⟩
    | cons _ _ => cases h
  | p :: ps, us, h => by
    cases us with
    | nil => cases h
    | cons u us =>
      have h : (repB K p u && repBs K ps us) = true := h
      rw [Bool.and_eq_true] at h
      obtain ⟨v, r1, r2⟩ := repB_ok h.1
      obtain ⟨vs, r3, r4⟩ := repBs_ok h.2
      exact ⟨v :: vs, .cons r1 r3, fun S hS H ρ => ⟨v, vs, rfl, r2 S hS H ρ, r4 S hS H ρ⟩⟩
end
end
def vlOk (K : W.Frag) (q : List Nat × PV) : Bool := match W.nsIn K mainGlobals (sv q.1) with
  | some (some u) => repB K q.2 u
  | _ => false
def nmTs : List String := ["int", "bool", "str", "tuple", "list", "dict"]
def nmBs : List String := ["NoneType", "bool", "int", "str", "tuple", "list", "dict"]
def optB (a b : Option Bool) : Bool := decide (a = b)
def clsB (x : Txt) (K : W.Frag) (c : Nat) : Bool :=
  W.plainGet K (cAd x K c) Str.empty && (W.hasDictIn K (cAd x K c) && (W.plainOver K (cAd x K c) && (He.eqO (W.findIn K (.ref (cAd x K c)) "__setattr__") (some (some (.builtin "object.__setattr__"))) &&
    (He.eqO (W.findIn K (.ref (cAd x K c)) (Str.ofString "__class__")) (some (some (.builtin "object.__class__"))) && (optB (W.mroIn K (cAd x K c) (.type "object")) (some true) &&
      (nmTs.all (fun T => optB (W.kitOne K (.ref (cAd x K c)) (.type T)) (some false)) && (W.keepIn K (.ref (cAd x K c)) && (x.T.ats.all (fun f => He.eqO (W.findIn K (.ref (cAd x K c)) (sv f)) (some none)) &&
        (match x.prog.cls[c]? with
          | none => false
          | some k => k.ms.all (fun q => He.eqO (W.findIn K (.ref (cAd x K c)) (sv q.1)) (some (some (.ref (fAdr x K q.2)))) && (W.isFn K (.ref (fAdr x K q.2)) && W.keepIn K (.ref (fAdr x K q.2)))) &&
            (W.makesIn K (cAd x K c) && (List.range x.prog.cls.length).all fun d => optB (W.kitOne K (.ref (cAd x K c)) (.ref (cAd x K d))) (some (k.mro.any (Nat.beq d)))))))))))))
def okB (x : Txt) (K : W.Frag) : Bool :=
  x.D.all (fun d => d.ok K) && (x.T.fs.all (fun q => He.eqO (W.nsIn K mainGlobals (sv q.1)) (some (some (.ref (fAdr x K q.2)))) && W.keepIn K (.ref (fAdr x K q.2))) &&
    (x.T.cs.all (fun q => He.eqO (W.nsIn K mainGlobals (sv q.1)) (some (some (.ref (cAd x K q.2)))) && (x.own.any (Nat.beq q.2) && Nat.blt q.2 x.prog.cls.length)) && (x.T.vs.all (vlOk K) && (x.T.bs.all (fun l => He.eqO (W.nsIn K mainGlobals (sv l)) (some none)) &&
      (x.own.all (clsB x K) && (K.all (fun p => !decide (p.2.cls = .type "list")) &&
        (He.eqO (W.specialIn K (.builtin "object.__class__") (Str.ofString "__get__")) (some (some (.builtin "getset_descriptor.__get__"))) && (optB (W.takesIn K (.builtin "object.__class__")) (some true) &&
          nmBs.all fun T => (List.range x.prog.cls.length).all fun d => optB (W.kitOne K (.type T) (.ref (cAd x K d))) (some false)))))))))
theorem fgetN_mem {n : List Nat} {p : Nat} : ∀ {kd : List (List Nat × Nat)}, fgetN n kd = some p → (n, p) ∈ kd
  | [], h => by cases h
  | (a, b) :: r, h => by
    have h : (match seq a n with
      | true => some b
      | false => fgetN n r) = some p := h
    split at h
    · rename_i e
      cases h
      rw [seq_iff.mp e]
      exact List.mem_cons_self
    · exact List.mem_cons_of_mem _ (fgetN_mem h)
theorem mem_of_lk {b : Addr} {o : Obj} : ∀ {K : W.Frag}, K.lookup b = some o → (b, o) ∈ K
  | [], h => by cases h
  | (a, p) :: K, h => by
    rw [List.lookup_cons] at h
    split at h
    · rename_i e
      cases h
      rw [eq_of_beq e]
      exact List.mem_cons_self
    · exact List.mem_cons_of_mem _ (mem_of_lk h)
section
variable {x : Txt} {K : W.Frag}
theorem own_mem {c : Nat} (h : (x.own.any (Nat.beq c)) = true) : c ∈ x.own := by
  rw [List.any_eq_true] at h
  obtain ⟨d, h1, h2⟩ := h
  rw [Nat.eq_of_beq_eq_true h2]
  exact h1
theorem optB_eq {a b : Option Bool} (h : optB a b = true) : a = b := of_decide_eq_true h
theorem clsOk_of (h : okB x K = true) (hd : Addr → Prop) : ClsOk (staOf x K hd) x.prog := by
  unfold okB at h
  simp only [Bool.and_eq_true, List.all_eq_true] at h
  obtain ⟨_, _, _, _, _, h6, _, h8, h9, h10⟩ := h
  have cl : ∀ c, (staOf x K hd).own c = true → clsB x K c = true := fun c hc => h6 c (own_mem hc)
  have un : ∀ c, clsB x K c = true → W.plainGet K (cAd x K c) Str.empty = true ∧ W.hasDictIn K (cAd x K c) = true ∧ W.plainOver K (cAd x K c) = true ∧ He.eqO (W.findIn K (.ref (cAd x K c)) "__setattr__") (some (some (.builtin "object.__setattr__"))) = true ∧
      He.eqO (W.findIn K (.ref (cAd x K c)) (Str.ofString "__class__")) (some (some (.builtin "object.__class__"))) = true ∧ optB (W.mroIn K (cAd x K c) (.type "object")) (some true) = true ∧
      (∀ T ∈ nmTs, optB (W.kitOne K (.ref (cAd x K c)) (.type T)) (some false) = true) ∧ W.keepIn K (.ref (cAd x K c)) = true ∧ (∀ f ∈ x.T.ats, He.eqO (W.findIn K (.ref (cAd x K c)) (sv f)) (some none) = true) ∧
      ∃ k, x.prog.cls[c]? = some k ∧ (∀ q ∈ k.ms, He.eqO (W.findIn K (.ref (cAd x K c)) (sv q.1)) (some (some (.ref (fAdr x K q.2)))) = true ∧ W.isFn K (.ref (fAdr x K q.2)) = true ∧ W.keepIn K (.ref (fAdr x K q.2)) = true) ∧ W.makesIn K (cAd x K c) = true ∧
        ∀ d, d < x.prog.cls.length → optB (W.kitOne K (.ref (cAd x K c)) (.ref (cAd x K d))) (some (k.mro.any (Nat.beq d))) = true := fun c hc => by
    unfold clsB at hc
    simp only [Bool.and_eq_true, List.all_eq_true] at hc
    obtain ⟨c1, c2, c3, c4, c5, c6, c7, c8, c9, c10⟩ := hc
    refine ⟨c1, c2, c3, c4, c5, c6, c7, c8, c9, ?_⟩
    split at c10
    · cases c10
    · rename_i k hk
      simp only [Bool.and_eq_true, List.all_eq_true, List.mem_range] at c10
      exact ⟨k, hk, c10.1, c10.2.1, c10.2.2⟩
  refine ⟨fun c hc => ?_, fun c hc => ?_, He.eqO_ok h8, optB_eq h9, fun c hc => ?_, fun c hc T hT => ?_, fun T hT d hd => ?_, fun c hc k hk m g hg => ?_, fun c hc k hk g hg => ?_, fun c hc d hd k hk => ?_⟩
  · obtain ⟨c1, c2, c3, c4, _⟩ := un c (cl c hc)
    exact ⟨c1, c2, c3, He.eqO_ok c4⟩
  · obtain ⟨_, _, _, _, c5, _⟩ := un c (cl c hc)
    exact He.eqO_ok c5
  · obtain ⟨_, _, _, _, _, c6, _⟩ := un c (cl c hc)
    exact optB_eq c6
  · obtain ⟨_, _, _, _, _, _, c7, _⟩ := un c (cl c hc)
    exact optB_eq (c7 T hT)
  · exact optB_eq (h10 T hT d (List.mem_range.mpr hd))
  · obtain ⟨_, _, _, _, _, _, _, _, _, k', hk', c10, _⟩ := un c (cl c hc)
    rw [hk] at hk'
    cases hk'
    have hm : (m, g) ∈ k.ms := fgetN_mem hg
    obtain ⟨q1, q2, q3⟩ := c10 _ hm
    exact ⟨He.eqO_ok q1, q2, q3⟩
  · obtain ⟨_, _, _, _, _, _, _, c8, _, k', hk', c10, c11, _⟩ := un c (cl c hc)
    rw [hk] at hk'
    cases hk'
    have hm : (nmInit, g) ∈ k.ms := fgetN_mem hg
    obtain ⟨q1, q2, q3⟩ := c10 _ hm
    exact ⟨c11, He.eqO_ok q1, q2, c8⟩
  · obtain ⟨_, _, _, _, _, _, _, _, _, k', hk', _, _, c12⟩ := un c (cl c hc)
    rw [hk] at hk'
    cases hk'
    exact optB_eq (c12 d hd)
theorem gt_of {h : Heap} {mg : Str → Option Value} (X : K.In h) (G : h.Ns mainGlobals mg) (ok : okB x K = true) (hd : Addr → Prop) : GT (staOf x K hd) x.prog mg x.T := by
  have cls := ok
  unfold okB at ok
  simp only [Bool.and_eq_true, List.all_eq_true] at ok
  obtain ⟨_, h2, h3, h4, h5, h6, _⟩ := ok
  have kp : ∀ c, (x.own.any (Nat.beq c)) = true → W.keepIn K (.ref (cAd x K c)) = true ∧ ∀ f ∈ x.T.ats, He.eqO (W.findIn K (.ref (cAd x K c)) (sv f)) (some none) = true := fun c hc => by
    have := h6 c (own_mem hc)
    unfold clsB at this
    simp only [Bool.and_eq_true, List.all_eq_true] at this
    obtain ⟨_, _, _, _, _, _, _, c8, c9, _⟩ := this
    exact ⟨c8, c9⟩
  refine ⟨fun q hq => ⟨W.mg_of X G (He.eqO_ok (h2 q hq).1), (h2 q hq).2⟩, fun q hq => ?_, fun q hq => ?_, fun l hl => W.mg_none_of X G (He.eqO_ok (h5 l hl)), fun l hl d hd' => ?_⟩
  · obtain ⟨a1, a2, a3⟩ := h3 q hq
    exact ⟨W.mg_of X G (He.eqO_ok a1), (kp _ a2).1, a2, Nat.le_of_ble_eq_true a3⟩
  · have := h4 q hq
    unfold vlOk at this
    split at this
    · rename_i u e
      obtain ⟨v, r1, r2⟩ := repB_ok this
      exact ⟨v, u, W.mg_of X G e, r1, fun h' H ρ => r2 _ rfl H ρ⟩
    · cases this
  · exact He.eqO_ok ((kp _ hd').2 l hl)
theorem nolist_of (ok : okB x K = true) : ∀ b o, K.lookup b = some o → o.cls ≠ .type "list" := fun b o e z => by
  unfold okB at ok
  simp only [Bool.and_eq_true, List.all_eq_true] at ok
  obtain ⟨_, _, _, _, _, _, h7, _⟩ := ok
  have := h7 (b, o) (mem_of_lk e)
  simp [z] at this
end
end Pf
end
section
set_option Elab.async false
set_option linter.all false
set_option maxRecDepth 100000
set_option maxHeartbeats 1000000
namespace Pf
open PySem PySem.Spec PySem.Calls PyProof.Rows L2
def obsP (x : Txt) (K : W.Frag) : He.AlD := (okB x K, x.D.map fun d => He.fnW K d.at_)
def valP (x : Txt) : He.AlD := (true, x.D.map He.DefD.val)
def SaysP (x : Txt) (K : W.Frag) : Prop := obsP x K = valP x
def bareK {α : Type} : W.Frag → (W.Frag → α) → α
  | [], k => k []
  | p :: r, k => match p with
    | (a, o) => match o with
      | ⟨c, d, dt, sl⟩ => bareK r fun r' => k ((a, ⟨c, d, dt, sl⟩) :: r')
theorem bareK_eq {α : Type} : ∀ (K : W.Frag) (k : W.Frag → α), bareK K k = k K
  | [], k => rfl
  | (a, ⟨c, d, dt, sl⟩) :: r, k => bareK_eq r _
def obsPG (n : List Addr) (x : Txt) (g : Addr → Option Obj) : He.AlD := bareK (He.frG g n) fun K => obsP x K
def hookP (n : List Addr) (x : Txt) : W.Hook where
  α := He.AlD
  val := fun _ => valP x
  obs := fun s => obsPG n x s.heap.get?
  says := fun _ h => ∃ K : W.Frag, K.In h ∧ SaysP x K
  keeps := fun _ _ _ ⟨K, hK, c⟩ k => ⟨K, W.Frag.In.keeps hK k, c⟩
  of := fun _ _ e => ⟨_, He.frG_in, (bareK_eq _ (obsP x)).symm.trans e⟩
theorem obsPG_eq {n : List Addr} {x : Txt} {g : Addr → Option Obj} {s : Shared} (h : ∀ a, g a = s.heap.get? a) : obsPG n x g = (hookP n x).obs s := by
  have e : g = s.heap.get? := funext h
  subst e
  rfl
def dvB : He.Dv → PV → Bool
  | .non, .non => true
  | .bl a, .bl b => a == b
  | .int i, .int j => decide (i = j)
  | .str x, .str l => strB x l
  | _, _ => false
theorem dvB_eq {K : W.Frag} {a : He.Dv} {p : PV} (h : dvB a p = true) : a.v K = pvV p := by
  cases a <;> cases p <;> first
    | rfl
    | (cases h; done)
    | skip
  · exact congrArg V.bl (eq_of_beq h)
  · exact congrArg V.int (of_decide_eq_true h)
  · exact congrArg V.str (strB_eq h)
def dvBs : List He.Dv → List PV → Bool
  | [], [] => true
  | a :: as, p :: ps => dvB a p && dvBs as ps
  | _, _ => false
theorem dvBs_eq {K : W.Frag} : ∀ {as : List He.Dv} {ps : List PV}, dvBs as ps = true → as.map (He.Dv.v K) = ps.map pvV
  | [], [], _ => rfl
  | [], _ :: _, h => by cases h
  | _ :: _, [], h => by cases h
  | a :: as, p :: ps, h => by
    have h : (dvB a p && dvBs as ps) = true := h
    rw [Bool.and_eq_true] at h
    show a.v K :: _ = _
    rw [dvB_eq h.1, dvBs_eq h.2]; rfl
def kdBs : List (Str × He.Dv) → List (List Nat × PV) → Bool
  | [], [] => true
  | a :: as, p :: ps => strB a.1 p.1 && dvB a.2 p.2 && kdBs as ps
  | _, _ => false
theorem kdBs_eq {K : W.Frag} : ∀ {as : List (Str × He.Dv)} {ps : List (List Nat × PV)}, kdBs as ps = true → (as.map fun q => (q.1, q.2.v K)) = ps.map fun q => (sv q.1, pvV q.2)
  | [], [], _ => rfl
  | [], _ :: _, h => by cases h
  | _ :: _, [], h => by cases h
  | a :: as, p :: ps, h => by
    have h : (strB a.1 p.1 && dvB a.2 p.2 && kdBs as ps) = true := h
    simp only [Bool.and_eq_true] at h
    show (a.1, a.2.v K) :: _ = _
    rw [strB_eq h.1.1, dvB_eq h.1.2, kdBs_eq h.2]; rfl
def statF (x : Txt) (f : Nat) : Bool := match x.prog.fns[f]?, x.D[f]?, x.pd[f]?, x.kd[f]?, x.nls[f]? with
  | some d, some dd, some pd, some kd, some nl => chkF x.T nl d dd.scope dd.body && (chkP d dd.params pd kd && (dvBs dd.dfl pd && kdBs dd.kwd kd))
  | _, _, _, _, _ => false
def statB (x : Txt) : Bool := (List.range x.prog.fns.length).all (statF x)
theorem dfs_of {x : Txt} {K : W.Frag} (c : SaysP x K) (st : statB x = true) (hd : Addr → Prop) : Dfs (staOf x K hd) x.prog x.T x.nls := by
  have c1 : okB x K = true := congrArg (fun z : He.AlD => z.1) c
  have c2 : x.D.map (fun d => He.fnW K d.at_) = x.D.map He.DefD.val := congrArg (fun z : He.AlD => z.2) c
  refine ⟨fun f d hf => ?_⟩
  have hlt := (List.getElem?_eq_some_iff.mp hf).1
  have s := List.all_eq_true.mp st f (List.mem_range.mpr hlt)
  unfold statF at s
  rw [hf] at s
  cases h2 : x.D[f]? with
  | none => rw [h2] at s; cases s
  | some dd =>
    cases h3 : x.pd[f]? with
    | none => rw [h2, h3] at s; cases s
    | some pd =>
      cases h4 : x.kd[f]? with
      | none => rw [h2, h3, h4] at s; cases s
      | some kd =>
        cases h5 : x.nls[f]? with
        | none => rw [h2, h3, h4, h5] at s; cases s
        | some nl =>
          rw [h2, h3, h4, h5] at s
          simp only [Bool.and_eq_true] at s
          obtain ⟨s1, s2, s3, s4⟩ := s
          have e2 : (x.D.map fun d => He.fnW K d.at_)[f]? = (x.D.map He.DefD.val)[f]? := by rw [c2]
          rw [List.getElem?_map, List.getElem?_map, h2] at e2
          have ok : dd.ok K = true := by
            unfold okB at c1
            simp only [Bool.and_eq_true, List.all_eq_true] at c1
            exact c1.1 dd (List.mem_of_getElem? h2)
          obtain ⟨fd, F⟩ := He.DefD.funD (Option.some.inj e2) ok
          have ea : (staOf x K hd).fA f = He.fAd K dd.at_ := by
            show He.fAd K ((x.D.map (·.at_)).getD f (sv [], none)) = _
            rw [List.getD_eq_getElem?_getD, List.getElem?_map, h2]; rfl
          have F : FunD K dd.name dd.qual dd.params dd.body dd.scope (pd.map pvV) (kd.map fun q => (sv q.1, pvV q.2)) (He.fAd K dd.at_) fd := by
            rw [← dvBs_eq (K := K) s3, ← kdBs_eq (K := K) s4]
            exact F
          exact ⟨fd, dd.name, dd.qual, dd.params, dd.body, dd.scope, _, _, nl, by rw [ea]; exact F, fun h => fnDat_of F s2 _, s1⟩
theorem intsR {S : Sta} {H : Hp} {ρ : List Addr} (ns : List Int) : RepL S H ρ (ns.map PV.int) (ns.map V.int) := repL_ints ns
theorem walkP {l : W.OpenLaw} {x : Txt} {m n li : Nat} {as : List Addr} {dl : Fn} {p : List Nat} {nm : List Nat} {q : Program} {loose : List Str} {XP : (Str → Option Value) → Heap → Prop} {d : DefRec} (hn : l.most = some m) (hm : m ≤ sizeLine) (hdf : d.params.defaults = []) (st : statB x = true)
    (hli : x.prog.fns[li]? = some dl) (hp : dl.pn = [p]) (hnp : dl.np = 1) (hnm : d.name = sv nm) (hfs : (nm, li) ∈ x.T.fs) (hr : Room (4 * n) callerA)
    (law : ∀ ns : List Int, ns.length ≤ m → ∃ M', runC x.prog n li (putSl dl.ps [.loc 0] (List.replicate dl.n none)) [.frz (.lst (ns.map PV.int))] = .ok (.bl true) M') :
    W.WalkO q loose XP (hookP as x).says l.row.toRowW d [] (fun f vs => PySem.call f vs) := by
  refine Att.attach_call hn hdf fun w s0 s1 mg mb fa o pm cd doc a vs ns G Y ho hd hcd hmg hobj hints hlen hg => ?_
  obtain ⟨K, KX, c⟩ := Y
  have c1 : okB x K = true := congrArg (fun z : He.AlD => z.1) c
  let S := staOf x K (fun _ => False)
  have D : Dfs S x.prog x.T x.nls := dfs_of c st _
  have hc : ClsOk S x.prog := clsOk_of c1 _
  have gt0 : GT S x.prog mg x.T := gt_of KX G.T.g c1 _
  have efa : fa = S.fA li := by
    have := (gt0.f _ hfs).1
    rw [hnm] at hmg
    rw [hmg] at this
    cases this
    rfl
  subst efa
  obtain ⟨fd, _, ⟨dV, Dk, hdv⟩, hfd⟩ := fnG_all (P := l.prog) (w := w) (base := s1.heap) D hc gt0 n (fun _ => False) li dl hli
  have lV : dV.length = 1 := by rw [Dk.ln, hp]; rfl
  obtain ⟨dv, rfl⟩ : ∃ dv, dV = [dv] := by
    match dV, lV with
    | [dv], _ => exact ⟨dv, rfl⟩
  have hb : BindsTo s1 fd ⟨[.ref a], []⟩ [(sv p, .ref a)] := by
    have := bind_ok (s := s1) (us := [.ref a]) (zv := []) (ks := []) (bs := [.ref a]) Dk KX (by rw [hnp]; exact Nat.le_refl _) (by rfl) rfl (by rw [hp]; rfl)
    rw [hp] at this
    exact this
  refine law_callG (k := 4 * n) (sp := spF S xwNo (runC x.prog n) li dl) KX G.T.g G.T.b G.T.builtins G.T.nolimit hg hobj hints (Nat.le_trans hlen hm) hr (nolist_of c1) (fun base KB NB => ?_) hb ?_
  · obtain ⟨fd2, q1, _, q3⟩ := fnG_all (P := l.prog) (w := w) (base := base) D hc (gt_of KB NB c1 _) n (fun _ => False) li dl hli
    have e : fd2 = fd := Option.some.inj (q3.symm.trans hfd)
    subst e
    rw [hp] at q1
    exact q1
  · obtain ⟨M', e⟩ := law ns hlen
    refine ⟨by rw [hp]; rfl, [a], [.frz (.lst (ns.map PV.int))], [.loc 0], ⟨⟨a, [], _, rfl, scH_at, ⟨_, _, rfl, ⟨_, rfl, intsR ns⟩⟩, rfl⟩, (by simp : [a].Nodup), fun b z => z.elim⟩, ⟨_, _, rfl, ⟨a, rfl, rfl⟩, rfl⟩, ?_⟩
    rw [e]
    exact fun ρ' H' _ _ x hx => hx
end Pf
end
section
set_option maxRecDepth 100000
namespace P72
open Pf
def f0 : Fn := { nm := [95,119,97,108,108], ps := [0], pn := [[107]], np := 1, dv := [none], n := 1, body :=
    (.cons .stuck .nil) }
def f1 : Fn := { nm := [95,95,105,110,105,116,95,95], ps := [0, 1, 2], pn := [[115,101,108,102], [119,111,114,100], [97,116]], np := 3, dv := [none, none, none], n := 3, body := (.cons .stuck .nil) }
def f2 : Fn := { nm := [95,95,105,110,105,116,95,95], ps := [0, 1, 2], pn := [[115,101,108,102], [110,97,109,101], [104,111,108,100,101,114]], np := 3, dv := [none, none, none], n := 3, body := (.cons .stuck .nil) }
def f3 : Fn := { nm := [95,95,105,110,105,116,95,95], ps := [0, 1, 2], pn := [[115,101,108,102], [104,111,108,100,101,114], [101,100,105,116,105,111,110]], np := 3, dv := [none, none, none], n := 3, body := (.cons .stuck .nil) }
def f4 : Fn := { nm := [95,95,105,110,105,116,95,95], ps := [0, 1], pn := [[115,101,108,102], [119,111,114,100]], np := 2, dv := [none, none], n := 2, body := (.cons .stuck .nil) }
def f5 : Fn := { nm := [95,95,105,110,105,116,95,95], ps := [0, 1], pn := [[115,101,108,102], [109,97,114,107]], np := 2, dv := [none, none], n := 2, body := (.cons .stuck .nil) }
def f6 : Fn := { nm := [95,95,105,110,105,116,95,95], ps := [0, 1], pn := [[115,101,108,102], [104,111,108,100,101,114]], np := 2, dv := [none, none], n := 2, body := (.cons .stuck .nil) }
def f7 : Fn := { nm := [95,95,105,110,105,116,95,95], ps := [0, 1], pn := [[115,101,108,102], [109,97,114,107]], np := 2, dv := [none, none], n := 2, body := (.cons .stuck .nil) }
def f8 : Fn := { nm := [95,95,105,110,105,116,95,95], ps := [0, 1], pn := [[115,101,108,102], [110,97,109,101]], np := 2, dv := [none, none], n := 2, body := (.cons .stuck .nil) }
def f9 : Fn := { nm := [95,95,105,110,105,116,95,95], ps := [0, 1], pn := [[115,101,108,102], [104,111,117,115,101]], np := 2, dv := [none, none], n := 2, body := (.cons .stuck .nil) }
def f10 : Fn := { nm := [105,115,95,110,117,109,98,101,114], ps := [0], pn := [[116,104,105,110,103]], np := 1, dv := [none], n := 1, body :=
    (.cons (.ret (.and (.bi (.isinst .int) (.cons (.v 0) .nil)) (.not (.bi (.isinst .bool) (.cons (.v 0) .nil))))) .nil) }
def f11 : Fn := { nm := [105,115,95,112,108,97,99,101,95,110,117,109,98,101,114], ps := [0], pn := [[116,104,105,110,103]], np := 1, dv := [none], n := 1, body :=
    (.cons .stuck .nil) }
def f12 : Fn := { nm := [105,115,95,119,111,114,100], ps := [0], pn := [[116,104,105,110,103]], np := 1, dv := [none], n := 2, body :=
    (.cons (.ite (.or (.not (.bi (.isinst .str) (.cons (.v 0) .nil))) (.not (.chn .le .le (.cst (.int 1)) (.bi .len (.cons (.v 0) .nil)) (.cst (.int 8)))))
      (.cons .stuck .nil) .nil)
    (.cons (.ret (.bi .all (.cons (.comp [1] (.cmp .isin (.v 1) (.cst (.str [97,98,99,100,101,102,103,104,105,106,107,108,109,110,111,112,113,114,115,116,117,118,119,120,121,122]))) (.cons (.v 1) (.e (.v 0)) .n .nil)) .nil))) .nil)) }
def f13 : Fn := { nm := [105,115,95,116,101,120,116], ps := [0], pn := [[116,104,105,110,103]], np := 1, dv := [none], n := 2, body :=
    (.cons .stuck
    (.cons .stuck .nil)) }
def f14 : Fn := { nm := [105,115,95,108,111,110,103], ps := [0, 1], pn := [[116,104,105,110,103], [109,97,110,121]], np := 2, dv := [none, none], n := 2, body :=
    (.cons (.ret (.and (.bi (.isinst .tuple) (.cons (.v 0) .nil)) (.cmp .eq (.bi .len (.cons (.v 0) .nil)) (.v 1)))) .nil) }
def f15 : Fn := { nm := [104,97,115,95,104,101,97,100], ps := [0, 1, 2], pn := [[116,104,105,110,103], [119,111,114,100], [109,97,110,121]], np := 3, dv := [none, none, none], n := 3, body :=
    (.cons (.ret (.and (.call 14 (.cons (.v 0) (.cons (.v 2) .nil)) []) (.and (.bi (.isinst .str) (.cons (.idx (.v 0) (.cst (.int 0))) .nil)) (.cmp .eq (.idx (.v 0) (.cst (.int 0))) (.v 1))))) .nil) }
def f16 : Fn := { nm := [104,101,97,100,95,111,102], ps := [0], pn := [[116,104,105,110,103]], np := 1, dv := [none], n := 1, body :=
    (.cons .stuck
    (.cons .stuck .nil)) }
def f17 : Fn := { nm := [105,115,95,112,108,97,105,110], ps := [0], pn := [[116,104,105,110,103]], np := 1, dv := [none], n := 1, body :=
    (.cons (.ret (.or (.bi (.isinst .bool) (.cons (.v 0) .nil)) (.or (.call 10 (.cons (.v 0) .nil) []) .stuck))) .nil) }
def f18 : Fn := { nm := [105,115,95,114,111,119], ps := [0], pn := [[116,104,105,110,103]], np := 1, dv := [none], n := 1, body :=
    (.cons (.ret (.and (.call 15 (.cons (.v 0) (.cons (.cst (.str [114,111,119])) (.cons (.cst (.int 2)) .nil))) []) .stuck)) .nil) }
def f19 : Fn := { nm := [105,115,95,116,114,101,101], ps := [0], pn := [[116,104,105,110,103]], np := 1, dv := [none], n := 1, body :=
    (.cons (.ret (.and (.call 15 (.cons (.v 0) (.cons (.cst (.str [116,114,101,101])) (.cons (.cst (.int 2)) .nil))) []) (.bi (.isinst .tuple) (.cons (.idx (.v 0) (.cst (.int 1))) .nil)))) .nil) }
def f20 : Fn := { nm := [97,114,101,95,102,105,101,108,100,115], ps := [0], pn := [[116,104,105,110,103]], np := 1, dv := [none], n := 3, body :=
    (.cons (.ite (.not (.bi .all (.cons (.comp [1] (.and (.call 14 (.cons (.v 1) (.cons (.cst (.int 2)) .nil)) []) (.and (.call 12 (.cons (.idx (.v 1) (.cst (.int 0))) .nil) []) (.call 21 (.cons (.idx (.v 1) (.cst (.int 1))) .nil) []))) (.cons (.v 1) (.e (.v 0)) .n .nil)) .nil)))
      (.cons .stuck .nil) .nil)
    (.cons (.ret (.bi .all (.cons (.comp [1, 2] .stuck (.cons (.tup (.cons (.v 1) (.cons (.v 2) .nil))) (.zip false (.cons (.v 0) (.cons (.sl (.v 0) (.s (.cst (.int 1))) .n) .nil))) .n .nil)) .nil))) .nil)) }
def f21 : Fn := { nm := [105,115,95,118,97,108,117,101], ps := [0], pn := [[116,104,105,110,103]], np := 1, dv := [none], n := 2, body :=
    (.cons (.ite (.call 19 (.cons (.v 0) .nil) [])
      (.cons .stuck .nil) .nil)
    (.cons (.ite (.call 18 (.cons (.v 0) .nil) [])
      (.cons .stuck .nil) .nil)
    (.cons (.ret (.call 17 (.cons (.v 0) .nil) [])) .nil))) }
def f22 : Fn := { nm := [105,115,95,100,111,99,117,109,101,110,116], ps := [0], pn := [[116,104,105,110,103]], np := 1, dv := [none], n := 1, body :=
    (.cons (.ret (.and (.call 19 (.cons (.v 0) .nil) []) (.call 20 (.cons (.idx (.v 0) (.cst (.int 1))) .nil) []))) .nil) }
def f23 : Fn := { nm := [107,101,121,95,111,102], ps := [0], pn := [[112,108,97,105,110]], np := 1, dv := [none], n := 1, body :=
    (.cons (.ite (.bi (.isinst .bool) (.cons (.v 0) .nil))
      (.cons .stuck .nil) .nil)
    (.cons (.ret (.ite (.bi (.isinst .int) (.cons (.v 0) .nil)) (.tup (.cons (.cst (.int 1)) (.cons (.v 0) .nil))) .stuck)) .nil)) }
def f24 : Fn := { nm := [105,115,95,108,105,107,101], ps := [0, 1], pn := [[111,110,101], [111,116,104,101,114]], np := 2, dv := [none, none], n := 5, body :=
    (.cons (.ite (.and (.call 19 (.cons (.v 0) .nil) []) (.call 19 (.cons (.v 1) .nil) []))
      (.cons (.ite (.cmp .ne (.bi .len (.cons (.idx (.v 0) (.cst (.int 1))) .nil)) (.bi .len (.cons (.idx (.v 1) (.cst (.int 1))) .nil)))
        (.cons .stuck .nil) .nil)
      (.cons (.asg (.v 2) (.bis .list (.zip true (.cons (.idx (.v 0) (.cst (.int 1))) (.cons (.idx (.v 1) (.cst (.int 1))) .nil)))))
      (.cons (.ret (.bi .all (.cons (.comp [3, 4] (.and (.cmp .eq (.idx (.v 3) (.cst (.int 0))) (.idx (.v 4) (.cst (.int 0)))) (.call 24 (.cons (.idx (.v 3) (.cst (.int 1))) (.cons (.idx (.v 4) (.cst (.int 1))) .nil)) [])) (.cons (.tup (.cons (.v 3) (.cons (.v 4) .nil))) (.e (.v 2)) .n .nil)) .nil))) .nil))) .nil)
    (.cons (.ite (.and (.call 18 (.cons (.v 0) .nil) []) .stuck)
      (.cons .stuck
      (.cons .stuck .nil)) .nil)
    (.cons (.ite (.or (.bi (.isinst .tuple) (.cons (.v 0) .nil)) (.bi (.isinst .tuple) (.cons (.v 1) .nil)))
      (.cons .stuck .nil) .nil)
    (.cons (.ret (.cmp .eq (.call 23 (.cons (.v 0) .nil) []) (.call 23 (.cons (.v 1) .nil) []))) .nil)))) }
def f25 : Fn := { nm := [102,105,101,108,100,115,95,111,102], ps := [0], pn := [[116,114,101,101]], np := 1, dv := [none], n := 1, body :=
    (.cons .stuck .nil) }
def f26 : Fn := { nm := [102,105,116,115], ps := [0, 1, 2], pn := [[116,104,105,110,103], [119,111,114,100], [112,108,97,105,110]], np := 3, dv := [none, none, none], n := 4, body :=
    (.cons .stuck
    (.cons .stuck
    (.cons .stuck .nil))) }
def f27 : Fn := { nm := [99,111,109,101,95,98,121], ps := [0, 1], pn := [[115,116,101,112], [118,97,108,117,101]], np := 2, dv := [none, none], n := 8, body :=
    (.cons .stuck
    (.cons .stuck
    (.cons .stuck
    (.cons .stuck
    (.cons .stuck
    (.cons .stuck
    (.cons .stuck .nil))))))) }
def f28 : Fn := { nm := [102,111,117,110,100,95,105,110], ps := [0, 1], pn := [[118,97,108,117,101], [112,97,116,104]], np := 2, dv := [none, none], n := 8, body :=
    (.cons .stuck
    (.cons .stuck
    (.cons .stuck .nil))) }
def f29 : Fn := { nm := [105,115,95,109,111,118,101], ps := [0], pn := [[116,104,105,110,103]], np := 1, dv := [none], n := 4, body :=
    (.cons .stuck
    (.cons .stuck
    (.cons .stuck
    (.cons .stuck .nil)))) }
def f30 : Fn := { nm := [105,115,95,109,111,118,101,115], ps := [0], pn := [[116,104,105,110,103]], np := 1, dv := [none], n := 2, body :=
    (.cons .stuck .nil) }
def f31 : Fn := { nm := [105,110,95,116,114,101,101], ps := [0, 1], pn := [[116,114,101,101], [102,105,101,108,100]], np := 2, dv := [none, none], n := 2, body :=
    (.cons .stuck .nil) }
def f32 : Fn := { nm := [119,105,116,104,95,105,110,95,116,114,101,101], ps := [0, 1, 2], pn := [[116,114,101,101], [102,105,101,108,100], [118,97,108,117,101]], np := 3, dv := [none, none, none], n := 5, body :=
    (.cons .stuck
    (.cons .stuck
    (.cons .stuck .nil))) }
def f33 : Fn := { nm := [109,111,118,101,100,95,111,117,116], ps := [0, 1, 2], pn := [[100,111,99,117,109,101,110,116], [102,105,101,108,100], [111,116,104,101,114]], np := 3, dv := [none, none, none], n := 5, body :=
    (.cons .stuck
    (.cons .stuck
    (.cons .stuck
    (.cons .stuck
    (.cons .stuck
    (.cons .stuck .nil)))))) }
def f34 : Fn := { nm := [109,111,118,101,100], ps := [0, 1], pn := [[100,111,99,117,109,101,110,116], [109,111,118,101]], np := 2, dv := [none, none], n := 7, body :=
    (.cons .stuck
    (.cons .stuck
    (.cons .stuck
    (.cons .stuck
    (.cons .stuck
    (.cons .stuck
    (.cons .stuck
    (.cons .stuck
    (.cons .stuck
    (.cons .stuck .nil)))))))))) }
def f35 : Fn := { nm := [108,101,100], ps := [0, 1, 2, 3, 4], pn := [[100,111,99,117,109,101,110,116], [115,104,97,112,101,115], [115,105,110,99,101], [117,112,116,111], [104,111,108,100,101,114]], np := 2, dv := [none, none, none, some .non, some (.str [])], n := 8, body :=
    (.cons (.asg (.v 5) (.bi .len (.cons (.v 1) .nil)))
    (.cons (.ite (.not (.chn .le .le (.cst (.int 0)) (.v 2) (.v 5)))
      (.cons .stuck .nil) .nil)
    (.cons (.ite (.and (.cmp .notN (.v 3) (.cst .non)) .stuck)
      (.cons .stuck .nil) .nil)
    (.cons (.for_ (.v 6) (.e (.sl (.v 1) (.s (.v 2)) (.s (.ite (.cmp .isN (.v 3) (.cst .non)) (.v 5) .stuck))))
      (.cons .stuck .nil))
    (.cons (.ret (.v 0)) .nil))))) }
def f36 : Fn := { nm := [118,105,101,119,95,111,102], ps := [0], pn := [[115,116,97,110,100,115]], np := 1, dv := [none], n := 7, body :=
    (.cons (.asg (.tup (.cons (.v 1) (.cons (.v 2) (.cons (.v 3) .nil)))) (.v 0))
    (.cons (.ret (.bi .tuple (.cons (.comp [4, 5, 6] (.tup (.cons (.v 4) (.cons (.call 35 (.cons (.v 5) (.cons (.v 3) (.cons (.v 6) (.cons (.v 4) .nil)))) [[115,105,110,99,101], [104,111,108,100,101,114]]) .nil))) (.cons (.tup (.cons (.v 4) (.cons (.v 5) (.cons (.v 6) .nil)))) (.e (.v 1)) .n .nil)) .nil))) .nil)) }
def f37 : Fn := { nm := [105,115,95,98,101,115,105,100,101], ps := [0, 1, 2], pn := [[119,111,114,100], [118,97,108,117,101], [112,108,97,105,110]], np := 3, dv := [none, none, none], n := 5, body :=
    (.cons .stuck
    (.cons (.par [3, 4] (.cons .stuck (.cons .stuck .nil)))
    (.cons .stuck
    (.cons .stuck .nil)))) }
def f38 : Fn := { nm := [109,101,101,116,115], ps := [0, 1], pn := [[100,111,99,117,109,101,110,116], [116,101,115,116]], np := 2, dv := [none, none], n := 8, body :=
    (.cons .stuck
    (.cons .stuck
    (.cons .stuck
    (.cons .stuck
    (.cons .stuck
    (.cons .stuck
    (.cons .stuck
    (.cons .stuck .nil)))))))) }
def f39 : Fn := { nm := [107,101,121,115,95,102,111,117,110,100], ps := [0, 1], pn := [[100,111,99,117,109,101,110,116], [112,97,116,104]], np := 2, dv := [none, none], n := 4, body :=
    (.cons .stuck .nil) }
def f40 : Fn := { nm := [107,101,121,115,95,111,102], ps := [0, 1], pn := [[100,111,99,117,109,101,110,116], [105,110,100,101,120]], np := 2, dv := [none, none], n := 6, body :=
    (.cons .stuck
    (.cons .stuck
    (.cons .stuck .nil))) }
def f41 : Fn := { nm := [114,111,119,115,95,116,104,114,111,117,103,104], ps := [0, 1], pn := [[118,105,101,119], [105,110,100,101,120]], np := 2, dv := [none, none], n := 5, body :=
    (.cons .stuck .nil) }
def f42 : Fn := { nm := [115,101,99,111,110,100,95,111,102], ps := [0], pn := [[114,111,119,115]], np := 1, dv := [none], n := 3, body :=
    (.cons (.for_ (.tup (.cons (.v 1) (.cons (.v 2) .nil))) (.zip false (.cons .stuck (.cons .stuck .nil)))
      (.cons .stuck .nil))
    (.cons .stuck .nil)) }
def f43 : Fn := { nm := [97,115,107,95,115,111,117,110,100], ps := [0], pn := [[115,116,97,110,100,115]], np := 1, dv := [none], n := 4, body :=
    (.cons (.asg (.v 1) (.call 36 (.cons (.v 0) .nil) []))
    (.cons (.for_ (.v 2) (.e (.idx (.v 0) (.cst (.int 1))))
      (.cons .stuck
      (.cons .stuck .nil))) .nil)) }
def f44 : Fn := { nm := [112,117,116,95,98,121,95,110,97,109,101], ps := [0, 1], pn := [[115,111,109,101], [102,114,101,115,104]], np := 2, dv := [none, none], n := 3, body :=
    (.cons (.ret (.bi .tuple (.cons (.sortk (.op .add (.comp [2] .stuck (.cons (.v 2) (.e (.v 0)) (.s .stuck) .nil)) (.lst (.cons (.v 1) .nil))) (.cst (.fn 45))) .nil))) .nil) }
def f45 : Fn := { nm := [102,105,114,115,116,95,116,104,105,110,103], ps := [0], pn := [[111,110,101]], np := 1, dv := [none], n := 1, body :=
    (.cons (.ret (.idx (.v 0) (.cst (.int 0)))) .nil) }
def f46 : Fn := { nm := [119,105,116,104,111,117,116,95,110,97,109,101], ps := [0, 1], pn := [[115,111,109,101], [110,97,109,101]], np := 2, dv := [none, none], n := 4, body :=
    (.cons .stuck
    (.cons .stuck .nil)) }
def f47 : Fn := { nm := [112,117,116,95,98,101,104,105,110,100], ps := [0, 1], pn := [[115,116,97,110,100,115], [114,101,115,116]], np := 2, dv := [none, none], n := 5, body :=
    (.cons (.asg (.tup (.cons (.v 2) (.cons (.v 3) (.cons (.v 4) .nil)))) (.v 0))
    (.cons (.ite (.cmp .gt (.idx (.v 1) (.cst (.int 2))) (.bi .len (.cons (.v 4) .nil)))
      (.cons .stuck .nil) .nil)
    (.cons (.ret (.tup (.cons (.call 44 (.cons (.v 2) (.cons (.bi .tuple (.cons (.v 1) .nil)) .nil)) []) (.cons (.v 3) (.cons (.v 4) .nil))))) .nil))) }
def f48 : Fn := { nm := [103,111,110,101,95,98,101,104,105,110,100], ps := [0, 1], pn := [[115,116,97,110,100,115], [104,111,108,100,101,114]], np := 2, dv := [none, none], n := 3, body :=
    (.cons .stuck
    (.cons .stuck
    (.cons .stuck .nil))) }
def f49 : Fn := { nm := [98,97,114,101,95,98,101,104,105,110,100], ps := [0, 1], pn := [[115,116,97,110,100,115], [110,97,109,101]], np := 2, dv := [none, none], n := 3, body :=
    (.cons .stuck
    (.cons .stuck
    (.cons .stuck .nil))) }
def f50 : Fn := { nm := [98,101,104,105,110,100,95,101,110,116,114,121], ps := [0, 1], pn := [[115,116,97,110,100,115], [101,110,116,114,121]], np := 2, dv := [none, none], n := 7, body :=
    (.cons (.asg (.star (.cons (.v 2) .nil) 3) (.v 1))
    (.cons (.ite (.cmp .eq (.v 2) (.cst (.str [112,117,116])))
      (.cons (.ret (.call 47 (.cons (.v 0) (.cons (.v 3) .nil)) [])) .nil) .nil)
    (.cons .stuck
    (.cons .stuck
    (.cons .stuck
    (.cons .stuck
    (.cons .stuck .nil))))))) }
def f51 : Fn := { nm := [108,101,116,95,105,110], ps := [0, 1], pn := [[115,116,97,110,100,115], [101,110,116,114,121]], np := 2, dv := [none, none], n := 3, body :=
    (.cons (.asg (.v 2) (.call 50 (.cons (.v 0) (.cons (.v 1) .nil)) []))
    (.cons (.ex (.call 43 (.cons (.v 2) .nil) []))
    (.cons (.ret (.v 2)) .nil))) }
def f52 : Fn := { nm := [95,95,105,110,105,116,95,95], ps := [0], pn := [[115,101,108,102]], np := 1, dv := [none], n := 1, body :=
    (.cons (.asg (.attr (.v 0) [117,112,95,110,111,119]) (.cst (.bl true)))
    (.cons (.asg (.attr (.v 0) [116,101,114,109]) (.cst (.int 0)))
    (.cons (.asg (.attr (.v 0) [118,111,116,101]) (.cst .non))
    (.cons (.asg (.attr (.v 0) [112,97,105,114,115]) (.tup .nil))
    (.cons (.asg (.attr (.v 0) [115,116,97,110,100,105,110,103,95,110,111,119]) (.cst (.tup [(.tup []), (.tup []), (.tup [])])))
    (.cons (.asg (.attr (.v 0) [100,111,110,101,95,115,111,95,102,97,114]) (.cst (.int 0)))
    (.cons (.asg (.attr (.v 0) [108,101,97,100,105,110,103]) (.cst (.bl false)))
    (.cons (.asg (.attr (.v 0) [104,101,108,100]) (.mk (.dic .nil .nil))) .nil)))))))), gc := false }
def f53 : Fn := { nm := [99,111,109,101,95,105,110,116,111], ps := [0, 1], pn := [[115,101,108,102], [116,101,114,109]], np := 2, dv := [none, none], n := 2, body :=
    (.cons (.asg (.attr (.v 0) [116,101,114,109]) (.v 1))
    (.cons (.asg (.attr (.v 0) [118,111,116,101]) (.cst .non))
    (.cons (.asg (.attr (.v 0) [108,101,97,100,105,110,103]) (.cst (.bl false)))
    (.cons (.asg (.attr (.v 0) [104,101,108,100]) (.mk (.dic .nil .nil))) .nil)))) }
def f54 : Fn := { nm := [108,97,115,116,95,112,97,105,114], ps := [0], pn := [[115,101,108,102]], np := 1, dv := [none], n := 1, body :=
    (.cons (.ret (.tup (.cons (.ite (.cmp .ne (.attr (.v 0) [112,97,105,114,115]) (.tup .nil)) .stuck (.cst (.int 0))) (.cons (.bi .len (.cons (.attr (.v 0) [112,97,105,114,115]) .nil)) .nil)))) .nil) }
def f55 : Fn := { nm := [97,108,108,95,111,102,95,105,116], ps := [0], pn := [[115,101,108,102]], np := 1, dv := [none], n := 2, body :=
    (.cons (.asg (.v 1) (.bi .tuple (.cons (.sm .sitems (.attr (.v 0) [104,101,108,100]) .nil) .nil)))
    (.cons (.ret (.tup (.cons (.attr (.v 0) [117,112,95,110,111,119]) (.cons (.attr (.v 0) [116,101,114,109]) (.cons (.attr (.v 0) [118,111,116,101]) (.cons (.attr (.v 0) [112,97,105,114,115]) (.cons (.attr (.v 0) [100,111,110,101,95,115,111,95,102,97,114]) (.cons (.attr (.v 0) [108,101,97,100,105,110,103]) (.cons (.v 1) .nil))))))))) .nil)) }
def f56 : Fn := { nm := [114,111,119,95,111,102,95,112,97,112,101,114], ps := [0], pn := [[115,101,108,102]], np := 1, dv := [none], n := 1, body :=
    (.cons (.ret (.tup (.cons (.attr (.v 0) [116,101,114,109]) (.cons (.attr (.v 0) [118,111,116,101]) (.cons (.attr (.v 0) [112,97,105,114,115]) (.cons (.attr (.v 0) [100,111,110,101,95,115,111,95,102,97,114]) .nil)))))) .nil) }
def f57 : Fn := { nm := [105,115,95,115,97,109,101], ps := [0, 1], pn := [[111,110,101], [111,116,104,101,114]], np := 2, dv := [none, none], n := 2, body :=
    (.cons (.ret (.cmp .eq (.bi .repr (.cons (.v 0) .nil)) (.bi .repr (.cons (.v 1) .nil)))) .nil) }
def f58 : Fn := { nm := [115,97,109,101,95,115,111,95,102,97,114], ps := [0, 1], pn := [[111,110,101], [111,116,104,101,114]], np := 2, dv := [none, none], n := 5, body :=
    (.cons (.asg (.v 2) (.cst (.int 0)))
    (.cons (.for_ (.tup (.cons (.v 3) (.cons (.v 4) .nil))) (.zip false (.cons (.v 0) (.cons (.v 1) .nil)))
      (.cons (.ite (.not (.call 57 (.cons (.v 3) (.cons (.v 4) .nil)) []))
        (.cons .stuck .nil) .nil)
      (.cons (.aug .add (.v 2) (.cst (.int 1))) .nil)))
    (.cons (.ret (.v 2)) .nil))) }
def f59 : Fn := { nm := [95,95,105,110,105,116,95,95], ps := [0, 1], pn := [[115,101,108,102], [109,97,110,121]], np := 2, dv := [none, some (.int 3)], n := 3, body :=
    (.cons (.asg (.attr (.v 0) [109,101,109,98,101,114,115]) (.comp [2] (.new 11 .nil []) (.cons (.v 2) (.rng (.v 1)) .n .nil)))
    (.cons (.asg (.attr (.v 0) [112,97,114,116,101,100,95,112,97,105,114,115]) (.mk (.lst .nil))) .nil)), gc := false }
def f60 : Fn := { nm := [95,95,108,101,110,95,95], ps := [0], pn := [[115,101,108,102]], np := 1, dv := [none], n := 1, body :=
    (.cons .stuck .nil) }
def f61 : Fn := { nm := [95,95,115,116,114,95,95], ps := [0], pn := [[115,101,108,102]], np := 1, dv := [none], n := 5, body :=
    (.cons .stuck
    (.cons .stuck
    (.cons .stuck .nil))) }
def f62 : Fn := { nm := [95,95,101,113,95,95], ps := [0, 1], pn := [[115,101,108,102], [111,116,104,101,114]], np := 2, dv := [none, none], n := 2, body :=
    (.cons (.ret (.and (.bi (.isinst (.own 12)) (.cons (.v 1) .nil)) (.cmp .eq (.bi .repr (.cons (.meth (.v 0) [97,108,108,95,111,102,95,116,104,101,109] .nil []) .nil)) (.bi .repr (.cons (.meth (.v 1) [97,108,108,95,111,102,95,116,104,101,109] .nil []) .nil))))) .nil) }
def f63 : Fn := { nm := [100,111,110,101,95,112,97,105,114,115], ps := [0], pn := [[115,101,108,102]], np := 1, dv := [none], n := 3, body :=
    (.cons (.asg (.v 1) .stuck)
    (.cons .stuck
    (.cons .stuck .nil))) }
def f64 : Fn := { nm := [97,108,108,95,111,102,95,116,104,101,109], ps := [0], pn := [[115,101,108,102]], np := 1, dv := [none], n := 2, body :=
    (.cons (.ret (.tup (.cons (.comp [1] (.meth (.v 1) [97,108,108,95,111,102,95,105,116] .nil []) (.cons (.v 1) (.e (.attr (.v 0) [109,101,109,98,101,114,115])) .n .nil)) (.cons (.bi .sorted (.cons (.attr (.v 0) [112,97,114,116,101,100,95,112,97,105,114,115]) .nil)) .nil)))) .nil) }
def f65 : Fn := { nm := [109,101,109,98,101,114,95,111,102], ps := [0, 1], pn := [[115,101,108,102], [104,111,117,115,101]], np := 2, dv := [none, none], n := 2, body :=
    (.cons (.ite (.not (.chn .le .lt (.cst (.int 0)) (.v 1) (.bi .len (.cons (.attr (.v 0) [109,101,109,98,101,114,115]) .nil))))
      (.cons .stuck .nil) .nil)
    (.cons (.ret (.idx (.attr (.v 0) [109,101,109,98,101,114,115]) (.v 1))) .nil)) }
def f66 : Fn := { nm := [116,119,111,95,111,102], ps := [0, 1, 2], pn := [[115,101,108,102], [104,111,117,115,101], [111,116,104,101,114]], np := 3, dv := [none, none, none], n := 3, body :=
    (.cons (.ret (.tup (.cons (.meth (.v 0) [109,101,109,98,101,114,95,111,102] (.cons (.v 1) .nil) []) (.cons (.meth (.v 0) [109,101,109,98,101,114,95,111,102] (.cons (.v 2) .nil) []) .nil)))) .nil) }
def f67 : Fn := { nm := [105,115,95,117,112], ps := [0, 1], pn := [[115,101,108,102], [104,111,117,115,101]], np := 2, dv := [none, none], n := 2, body :=
    (.cons (.ret (.attr (.meth (.v 0) [109,101,109,98,101,114,95,111,102] (.cons (.v 1) .nil) []) [117,112,95,110,111,119])) .nil) }
def f68 : Fn := { nm := [100,111,101,115,95,108,101,97,100], ps := [0, 1], pn := [[115,101,108,102], [104,111,117,115,101]], np := 2, dv := [none, none], n := 2, body :=
    (.cons (.ret (.attr (.meth (.v 0) [109,101,109,98,101,114,95,111,102] (.cons (.v 1) .nil) []) [108,101,97,100,105,110,103])) .nil) }
def f69 : Fn := { nm := [116,101,114,109,95,111,102], ps := [0, 1], pn := [[115,101,108,102], [104,111,117,115,101]], np := 2, dv := [none, none], n := 2, body :=
    (.cons (.ret (.attr (.meth (.v 0) [109,101,109,98,101,114,95,111,102] (.cons (.v 1) .nil) []) [116,101,114,109])) .nil) }
def f70 : Fn := { nm := [118,111,116,101,95,111,102], ps := [0, 1], pn := [[115,101,108,102], [104,111,117,115,101]], np := 2, dv := [none, none], n := 2, body :=
    (.cons (.ret (.attr (.meth (.v 0) [109,101,109,98,101,114,95,111,102] (.cons (.v 1) .nil) []) [118,111,116,101])) .nil) }
def f71 : Fn := { nm := [108,111,103,95,111,102], ps := [0, 1], pn := [[115,101,108,102], [104,111,117,115,101]], np := 2, dv := [none, none], n := 2, body :=
    (.cons (.ret (.attr (.meth (.v 0) [109,101,109,98,101,114,95,111,102] (.cons (.v 1) .nil) []) [112,97,105,114,115])) .nil) }
def f72 : Fn := { nm := [100,111,110,101,95,111,102], ps := [0, 1], pn := [[115,101,108,102], [104,111,117,115,101]], np := 2, dv := [none, none], n := 2, body :=
    (.cons (.ret (.attr (.meth (.v 0) [109,101,109,98,101,114,95,111,102] (.cons (.v 1) .nil) []) [100,111,110,101,95,115,111,95,102,97,114])) .nil) }
def f73 : Fn := { nm := [105,115,95,108,105,110,107,101,100], ps := [0, 1, 2], pn := [[115,101,108,102], [104,111,117,115,101], [111,116,104,101,114]], np := 3, dv := [none, none, none], n := 3, body :=
    (.cons (.ex (.meth (.v 0) [116,119,111,95,111,102] (.cons (.v 1) (.cons (.v 2) .nil)) []))
    (.cons (.ret (.cmp .notin (.tup (.cons (.bi .min2 (.cons (.v 1) (.cons (.v 2) .nil))) (.cons (.bi .max2 (.cons (.v 1) (.cons (.v 2) .nil))) .nil))) (.attr (.v 0) [112,97,114,116,101,100,95,112,97,105,114,115]))) .nil)) }
def f74 : Fn := { nm := [108,101,97,100,101,114,115], ps := [0], pn := [[115,101,108,102]], np := 1, dv := [none], n := 1, body :=
    (.cons .stuck .nil) }
def f75 : Fn := { nm := [110,101,105,103,104,98,111,117,114,115], ps := [0, 1], pn := [[115,101,108,102], [104,111,117,115,101]], np := 2, dv := [none, none], n := 4, body :=
    (.cons (.asg (.v 2) (.comp [3] (.v 3) (.cons (.v 3) (.rng (.bi .len (.cons (.attr (.v 0) [109,101,109,98,101,114,115]) .nil))) (.s (.and (.cmp .ne (.v 3) (.v 1)) (.meth (.v 0) [105,115,95,108,105,110,107,101,100] (.cons (.v 1) (.cons (.v 3) .nil)) []))) .nil)))
    (.cons (.ret (.comp [3] (.v 3) (.cons (.v 3) (.e (.v 2)) (.s (.attr (.idx (.attr (.v 0) [109,101,109,98,101,114,115]) (.v 3)) [117,112,95,110,111,119])) .nil))) .nil)) }
def f76 : Fn := { nm := [97,114,101,95,109,111,115,116], ps := [0, 1], pn := [[115,101,108,102], [109,97,110,121]], np := 2, dv := [none, none], n := 2, body :=
    (.cons (.ret (.cmp .gt (.op .mul (.cst (.int 2)) (.v 1)) (.bi .len (.cons (.attr (.v 0) [109,101,109,98,101,114,115]) .nil)))) .nil) }
def f77 : Fn := { nm := [97,115,107,95,117,112], ps := [0, 1], pn := [[115,101,108,102], [109,101,109,98,101,114]], np := 2, dv := [none, none], n := 2, body :=
    (.cons (.ite (.not (.attr (.v 1) [117,112,95,110,111,119]))
      (.cons .stuck .nil) .nil) .nil) }
def f78 : Fn := { nm := [97,115,107,95,108,101,97,100,115], ps := [0, 1], pn := [[115,101,108,102], [109,101,109,98,101,114]], np := 2, dv := [none, none], n := 2, body :=
    (.cons (.ex (.meth (.v 0) [97,115,107,95,117,112] (.cons (.v 1) .nil) []))
    (.cons (.ite (.not (.attr (.v 1) [108,101,97,100,105,110,103]))
      (.cons .stuck .nil) .nil) .nil)) }
def f79 : Fn := { nm := [97,115,107,95,117,110,108,105,107,101], ps := [0, 1, 2], pn := [[115,101,108,102], [104,111,117,115,101], [111,116,104,101,114]], np := 3, dv := [none, none, none], n := 3, body :=
    (.cons (.ite (.cmp .eq (.v 1) (.v 2))
      (.cons .stuck .nil) .nil) .nil) }
def f80 : Fn := { nm := [115,116,97,110,100], ps := [0, 1], pn := [[115,101,108,102], [104,111,117,115,101]], np := 2, dv := [none, none], n := 7, body :=
    (.cons (.asg (.v 2) (.meth (.v 0) [109,101,109,98,101,114,95,111,102] (.cons (.v 1) .nil) []))
    (.cons (.ex (.meth (.v 0) [97,115,107,95,117,112] (.cons (.v 2) .nil) []))
    (.cons (.asg (.v 3) (.comp [4] (.idx (.attr (.v 0) [109,101,109,98,101,114,115]) (.v 4)) (.cons (.v 4) (.e (.meth (.v 0) [110,101,105,103,104,98,111,117,114,115] (.cons (.v 1) .nil) [])) .n .nil)))
    (.cons (.asg (.v 5) (.bi .maxD (.cons (.comp [4] (.attr (.v 4) [116,101,114,109]) (.cons (.v 4) (.e (.v 3)) .n .nil)) (.cons (.cst (.int 0)) .nil))))
    (.cons (.ite (.cmp .gt (.v 5) (.op .add (.attr (.v 2) [116,101,114,109]) (.cst (.int 1))))
      (.cons .stuck
      (.cons .stuck .nil)) .nil)
    (.cons (.ex (.meth (.v 2) [99,111,109,101,95,105,110,116,111] (.cons (.op .add (.attr (.v 2) [116,101,114,109]) (.cst (.int 1))) .nil) []))
    (.cons (.asg (.attr (.v 2) [118,111,116,101]) (.v 1))
    (.cons (.for_ (.v 4) (.e (.v 3))
      (.cons (.ite (.cmp .lt (.attr (.v 4) [116,101,114,109]) (.attr (.v 2) [116,101,114,109]))
        (.cons (.ex (.meth (.v 4) [99,111,109,101,95,105,110,116,111] (.cons (.attr (.v 2) [116,101,114,109]) .nil) [])) .nil) .nil)
      (.cons (.ite (.and (.cmp .isN (.attr (.v 4) [118,111,116,101]) (.cst .non)) (.cmp .le (.meth (.v 4) [108,97,115,116,95,112,97,105,114] .nil []) (.meth (.v 2) [108,97,115,116,95,112,97,105,114] .nil [])))
        (.cons (.asg (.attr (.v 4) [118,111,116,101]) (.v 1)) .nil) .nil) .nil)))
    (.cons (.asg (.v 6) (.comp [4] (.v 4) (.cons (.v 4) (.e (.meth (.v 0) [110,101,105,103,104,98,111,117,114,115] (.cons (.v 1) .nil) [])) (.s (.meth (.v 0) [100,105,100,95,118,111,116,101] (.cons (.v 4) (.cons (.attr (.v 2) [116,101,114,109]) (.cons (.v 1) .nil))) [])) .nil)))
    (.cons (.ite (.meth (.v 0) [97,114,101,95,109,111,115,116] (.cons (.op .add (.bi .len (.cons (.v 6) .nil)) (.cst (.int 1))) .nil) [])
      (.cons (.asg (.attr (.v 2) [108,101,97,100,105,110,103]) (.cst (.bl true)))
      (.cons (.asg (.attr (.v 2) [104,101,108,100]) (.mk (.dcomp [4] (.v 4) (.cst (.int 0)) (.cons (.v 4) (.rng (.bi .len (.cons (.attr (.v 0) [109,101,109,98,101,114,115]) .nil))) (.s (.cmp .ne (.v 4) (.v 1))) .nil)))) .nil)) .nil)
    (.cons (.ret (.tup (.cons (.attr (.v 2) [116,101,114,109]) (.cons (.bi .tuple (.cons (.bi .sorted (.cons (.op .add (.v 6) (.lst (.cons (.v 1) .nil))) .nil)) .nil)) .nil)))) .nil))))))))))) }
def f81 : Fn := { nm := [100,105,100,95,118,111,116,101], ps := [0, 1, 2, 3], pn := [[115,101,108,102], [111,116,104,101,114], [116,101,114,109], [104,111,117,115,101]], np := 4, dv := [none, none, none, none], n := 4, body :=
    (.cons (.ret (.and (.cmp .eq (.attr (.idx (.attr (.v 0) [109,101,109,98,101,114,115]) (.v 1)) [116,101,114,109]) (.v 2)) (.cmp .eq (.attr (.idx (.attr (.v 0) [109,101,109,98,101,114,115]) (.v 1)) [118,111,116,101]) (.v 3)))) .nil) }
def f82 : Fn := { nm := [119,114,105,116,101], ps := [0, 1, 2], pn := [[115,101,108,102], [104,111,117,115,101], [101,110,116,114,121]], np := 3, dv := [none, none, none], n := 4, body :=
    (.cons (.asg (.v 3) (.meth (.v 0) [109,101,109,98,101,114,95,111,102] (.cons (.v 1) .nil) []))
    (.cons (.ex (.meth (.v 0) [97,115,107,95,108,101,97,100,115] (.cons (.v 3) .nil) []))
    (.cons (.asg (.attr (.v 3) [115,116,97,110,100,105,110,103,95,110,111,119]) (.call 51 (.cons (.attr (.v 3) [115,116,97,110,100,105,110,103,95,110,111,119]) (.cons (.v 2) .nil)) []))
    (.cons (.asg (.attr (.v 3) [112,97,105,114,115]) (.op .add (.attr (.v 3) [112,97,105,114,115]) (.tup (.cons (.tup (.cons (.attr (.v 3) [116,101,114,109]) (.cons (.v 2) .nil))) .nil))))
    (.cons (.ret (.bi .len (.cons (.attr (.v 3) [112,97,105,114,115]) .nil))) .nil))))) }
def f83 : Fn := { nm := [115,101,110,100], ps := [0, 1, 2], pn := [[115,101,108,102], [104,111,117,115,101], [111,116,104,101,114]], np := 3, dv := [none, none, none], n := 10, body :=
    (.cons (.asg (.tup (.cons (.v 3) (.cons (.v 4) .nil))) (.meth (.v 0) [116,119,111,95,111,102] (.cons (.v 1) (.cons (.v 2) .nil)) []))
    (.cons (.ex (.meth (.v 0) [97,115,107,95,117,110,108,105,107,101] (.cons (.v 1) (.cons (.v 2) .nil)) []))
    (.cons (.ex (.meth (.v 0) [97,115,107,95,108,101,97,100,115] (.cons (.v 3) .nil) []))
    (.cons (.ite (.not (.attr (.v 4) [117,112,95,110,111,119]))
      (.cons .stuck .nil) .nil)
    (.cons (.ite (.not (.meth (.v 0) [105,115,95,108,105,110,107,101,100] (.cons (.v 1) (.cons (.v 2) .nil)) []))
      (.cons .stuck .nil) .nil)
    (.cons (.ite (.cmp .gt (.attr (.v 4) [116,101,114,109]) (.attr (.v 3) [116,101,114,109]))
      (.cons .stuck
      (.cons .stuck .nil)) .nil)
    (.cons (.ite (.cmp .lt (.attr (.v 4) [116,101,114,109]) (.attr (.v 3) [116,101,114,109]))
      (.cons .stuck .nil) .nil)
    (.cons (.asg (.v 5) (.call 58 (.cons (.attr (.v 4) [112,97,105,114,115]) (.cons (.attr (.v 3) [112,97,105,114,115]) .nil)) []))
    (.cons (.asg (.v 6) (.comp [7, 8, 9] .stuck (.cons (.tup (.cons (.v 7) (.cons (.tup (.cons (.v 8) (.cons (.v 9) .nil))) .nil))) (.enum (.cons (.sl (.attr (.v 4) [112,97,105,114,115]) (.s (.v 5)) .n) .nil)) .n .nil)))
    (.cons (.asg (.attr (.v 4) [112,97,105,114,115]) (.attr (.v 3) [112,97,105,114,115]))
    (.cons (.asg (.attr (.v 4) [115,116,97,110,100,105,110,103,95,110,111,119]) (.attr (.v 3) [115,116,97,110,100,105,110,103,95,110,111,119]))
    (.cons (.asg (.idx (.attr (.v 3) [104,101,108,100]) (.v 2)) (.bi .len (.cons (.attr (.v 3) [112,97,105,114,115]) .nil)))
    (.cons (.ex (.meth (.v 0) [99,111,117,110,116,95,100,111,110,101] (.cons (.v 3) .nil) []))
    (.cons (.asg (.attr (.v 4) [100,111,110,101,95,115,111,95,102,97,114]) (.bi .max2 (.cons (.attr (.v 4) [100,111,110,101,95,115,111,95,102,97,114]) (.cons (.attr (.v 3) [100,111,110,101,95,115,111,95,102,97,114]) .nil))))
    (.cons (.ret (.tup (.cons (.bi .tuple (.cons (.v 6) .nil)) (.cons (.attr (.v 3) [100,111,110,101,95,115,111,95,102,97,114]) .nil)))) .nil))))))))))))))) }
def f84 : Fn := { nm := [99,111,117,110,116,95,100,111,110,101], ps := [0, 1], pn := [[115,101,108,102], [109,101,109,98,101,114]], np := 2, dv := [none, none], n := 7, body :=
    (.cons (.for_ (.tup (.cons (.v 2) (.cons (.tup (.cons (.v 4) (.cons (.v 5) .nil))) .nil))) (.enum (.cons (.attr (.v 1) [112,97,105,114,115]) (.cons (.cst (.int 1)) .nil)))
      (.cons (.asg (.v 3) (.bi .len (.cons (.lk (.attr (.v 1) [104,101,108,100]) (.comp [6] (.v 6) (.cons (.v 6) (.e (.attr (.v 1) [104,101,108,100])) (.s (.cmp .ge (.idx (.attr (.v 1) [104,101,108,100]) (.v 6)) (.v 2))) .nil))) .nil)))
      (.cons (.ite (.and (.cmp .eq (.v 4) (.attr (.v 1) [116,101,114,109])) (.and (.cmp .gt (.v 2) (.attr (.v 1) [100,111,110,101,95,115,111,95,102,97,114])) (.meth (.v 0) [97,114,101,95,109,111,115,116] (.cons (.op .add (.v 3) (.cst (.int 1))) .nil) [])))
        (.cons (.asg (.attr (.v 1) [100,111,110,101,95,115,111,95,102,97,114]) (.v 2)) .nil) .nil) .nil))) .nil) }
def f85 : Fn := { nm := [102,97,108,108], ps := [0, 1], pn := [[115,101,108,102], [104,111,117,115,101]], np := 2, dv := [none, none], n := 3, body :=
    (.cons (.asg (.v 2) (.meth (.v 0) [109,101,109,98,101,114,95,111,102] (.cons (.v 1) .nil) []))
    (.cons (.ex (.meth (.v 0) [97,115,107,95,117,112] (.cons (.v 2) .nil) []))
    (.cons (.asg (.attr (.v 2) [117,112,95,110,111,119]) (.cst (.bl false)))
    (.cons (.asg (.attr (.v 2) [108,101,97,100,105,110,103]) (.cst (.bl false)))
    (.cons (.asg (.attr (.v 2) [104,101,108,100]) (.mk (.dic .nil .nil))) .nil))))) }
def f86 : Fn := { nm := [114,105,115,101], ps := [0, 1], pn := [[115,101,108,102], [104,111,117,115,101]], np := 2, dv := [none, none], n := 3, body :=
    (.cons (.asg (.v 2) (.meth (.v 0) [109,101,109,98,101,114,95,111,102] (.cons (.v 1) .nil) []))
    (.cons (.ite (.attr (.v 2) [117,112,95,110,111,119])
      (.cons .stuck .nil) .nil)
    (.cons (.asg (.attr (.v 2) [117,112,95,110,111,119]) (.cst (.bl true))) .nil))) }
def f87 : Fn := { nm := [112,97,114,116], ps := [0, 1, 2], pn := [[115,101,108,102], [104,111,117,115,101], [111,116,104,101,114]], np := 3, dv := [none, none, none], n := 4, body :=
    (.cons (.asg (.v 3) (.meth (.v 0) [105,115,95,108,105,110,107,101,100] (.cons (.v 1) (.cons (.v 2) .nil)) []))
    (.cons (.ex (.meth (.v 0) [97,115,107,95,117,110,108,105,107,101] (.cons (.v 1) (.cons (.v 2) .nil)) []))
    (.cons (.ite (.v 3)
      (.cons (.ex (.sm .append (.attr (.v 0) [112,97,114,116,101,100,95,112,97,105,114,115]) (.cons (.tup (.cons (.bi .min2 (.cons (.v 1) (.cons (.v 2) .nil))) (.cons (.bi .max2 (.cons (.v 1) (.cons (.v 2) .nil))) .nil))) .nil))) .nil) .nil)
    (.cons (.ret (.v 3)) .nil)))) }
def f88 : Fn := { nm := [109,101,101,116], ps := [0, 1, 2], pn := [[115,101,108,102], [104,111,117,115,101], [111,116,104,101,114]], np := 3, dv := [none, none, none], n := 4, body :=
    (.cons (.asg (.v 3) (.meth (.v 0) [105,115,95,108,105,110,107,101,100] (.cons (.v 1) (.cons (.v 2) .nil)) []))
    (.cons (.ex (.meth (.v 0) [97,115,107,95,117,110,108,105,107,101] (.cons (.v 1) (.cons (.v 2) .nil)) []))
    (.cons (.ite (.not (.v 3))
      (.cons (.ex (.sm .remove (.attr (.v 0) [112,97,114,116,101,100,95,112,97,105,114,115]) (.cons (.tup (.cons (.bi .min2 (.cons (.v 1) (.cons (.v 2) .nil))) (.cons (.bi .max2 (.cons (.v 1) (.cons (.v 2) .nil))) .nil))) .nil))) .nil) .nil)
    (.cons (.ret (.not (.v 3))) .nil)))) }
def f89 : Fn := { nm := [104,105,115,116,111,114,121,95,111,102], ps := [0, 1], pn := [[115,101,108,102], [109,101,109,98,101,114]], np := 2, dv := [none, none], n := 5, body :=
    (.cons (.asg (.v 2) (.bi .tuple (.cons (.comp [3, 4] (.v 4) (.cons (.tup (.cons (.v 3) (.cons (.v 4) .nil))) (.e (.sl (.attr (.v 1) [112,97,105,114,115]) .n (.s (.attr (.v 1) [100,111,110,101,95,115,111,95,102,97,114])))) .n .nil)) .nil)))
    (.cons (.ret (.tup (.cons (.attr (.v 1) [100,111,110,101,95,115,111,95,102,97,114]) (.cons (.tup (.cons (.cst (.int 0)) (.cons (.cst (.tup [(.tup []), (.tup []), (.tup [])])) (.cons (.v 2) .nil)))) .nil)))) .nil)) }
def f90 : Fn := { nm := [114,101,97,100], ps := [0, 1, 2], pn := [[115,101,108,102], [104,111,117,115,101], [109,97,114,107]], np := 2, dv := [none, none, some (.int 0)], n := 4, body :=
    (.cons (.asg (.v 3) (.meth (.v 0) [109,101,109,98,101,114,95,111,102] (.cons (.v 1) .nil) []))
    (.cons (.ex (.meth (.v 0) [97,115,107,95,117,112] (.cons (.v 3) .nil) []))
    (.cons (.ite (.cmp .lt (.attr (.v 3) [100,111,110,101,95,115,111,95,102,97,114]) (.v 2))
      (.cons .stuck .nil) .nil)
    (.cons (.ret (.meth (.v 0) [104,105,115,116,111,114,121,95,111,102] (.cons (.v 3) .nil) [])) .nil)))) }
def f91 : Fn := { nm := [108,97,116,101,115,116], ps := [0, 1], pn := [[115,101,108,102], [104,111,117,115,101]], np := 2, dv := [none, none], n := 7, body :=
    (.cons (.asg (.v 2) (.meth (.v 0) [109,101,109,98,101,114,95,111,102] (.cons (.v 1) .nil) []))
    (.cons (.ex (.meth (.v 0) [97,115,107,95,108,101,97,100,115] (.cons (.v 2) .nil) []))
    (.cons (.asg (.v 3) (.comp [4] (.idx (.attr (.v 0) [109,101,109,98,101,114,115]) (.v 4)) (.cons (.v 4) (.e (.meth (.v 0) [110,101,105,103,104,98,111,117,114,115] (.cons (.v 1) .nil) [])) .n .nil)))
    (.cons (.ite (.bi .any (.cons (.comp [4] (.cmp .gt (.attr (.v 4) [116,101,114,109]) (.attr (.v 2) [116,101,114,109])) (.cons (.v 4) (.e (.v 3)) .n .nil)) .nil))
      (.cons .stuck .nil) .nil)
    (.cons (.ite (.not (.meth (.v 0) [97,114,101,95,109,111,115,116] (.cons (.op .add (.bi .len (.cons (.v 3) .nil)) (.cst (.int 1))) .nil) []))
      (.cons .stuck .nil) .nil)
    (.cons (.ite (.not (.bi .any (.cons (.comp [5, 6] (.cmp .eq (.v 5) (.attr (.v 2) [116,101,114,109])) (.cons (.tup (.cons (.v 5) (.cons (.v 6) .nil))) (.e (.sl (.attr (.v 2) [112,97,105,114,115]) .n (.s (.attr (.v 2) [100,111,110,101,95,115,111,95,102,97,114])))) .n .nil)) .nil)))
      (.cons .stuck .nil) .nil)
    (.cons (.for_ (.v 4) (.e (.v 3))
      (.cons (.ite (.cmp .lt (.attr (.v 4) [116,101,114,109]) (.attr (.v 2) [116,101,114,109]))
        (.cons .stuck .nil) .nil) .nil))
    (.cons (.ret (.meth (.v 0) [104,105,115,116,111,114,121,95,111,102] (.cons (.v 2) .nil) [])) .nil)))))))) }
def f92 : Fn := { nm := [112,97,112,101,114], ps := [0], pn := [[115,101,108,102]], np := 1, dv := [none], n := 2, body :=
    (.cons (.ret (.bi .tuple (.cons (.comp [1] (.meth (.v 1) [114,111,119,95,111,102,95,112,97,112,101,114] .nil []) (.cons (.v 1) (.e (.attr (.v 0) [109,101,109,98,101,114,115])) .n .nil)) .nil))) .nil) }
def f93 : Fn := { nm := [105,115,95,115,116,101,112], ps := [0], pn := [[116,104,105,110,103]], np := 1, dv := [none], n := 2, body :=
    (.cons .stuck
    (.cons .stuck
    (.cons .stuck
    (.cons .stuck
    (.cons .stuck .nil))))) }
def f94 : Fn := { nm := [105,115,95,112,97,116,104], ps := [0], pn := [[116,104,105,110,103]], np := 1, dv := [none], n := 2, body :=
    (.cons .stuck .nil) }
def f95 : Fn := { nm := [105,115,95,116,101,115,116], ps := [0], pn := [[116,104,105,110,103]], np := 1, dv := [none], n := 3, body :=
    (.cons .stuck
    (.cons .stuck
    (.cons .stuck
    (.cons .stuck
    (.cons .stuck
    (.cons .stuck
    (.cons .stuck .nil))))))) }
def f96 : Fn := { nm := [105,115,95,102,114,111,109,95,110,111,117,103,104,116], ps := [0], pn := [[116,104,105,110,103]], np := 1, dv := [none], n := 1, body :=
    (.cons (.ret (.and (.call 10 (.cons (.v 0) .nil) []) (.cmp .ge (.v 0) (.cst (.int 0))))) .nil) }
def f97 : Fn := { nm := [105,115,95,105,110,100,101,120], ps := [0], pn := [[116,104,105,110,103]], np := 1, dv := [none], n := 5, body :=
    (.cons .stuck
    (.cons .stuck
    (.cons .stuck
    (.cons .stuck .nil)))) }
def f98 : Fn := { nm := [105,115,95,101,110,116,114,121], ps := [0], pn := [[116,104,105,110,103]], np := 1, dv := [none], n := 3, body :=
    (.cons (.ite (.or (.not (.bi (.isinst .tuple) (.cons (.v 0) .nil))) (.or (.cmp .eq (.v 0) (.tup .nil)) (.not (.bi (.isinst .str) (.cons (.idx (.v 0) (.cst (.int 0))) .nil)))))
      (.cons .stuck .nil) .nil)
    (.cons (.asg (.star (.cons (.v 1) .nil) 2) (.v 0))
    (.cons (.ite (.cmp .eq (.v 1) (.cst (.str [112,117,116])))
      (.cons (.ret (.and (.cmp .eq (.bi .len (.cons (.v 2) .nil)) (.cst (.int 3))) (.and (.call 12 (.cons (.idx (.v 2) (.cst (.int 0))) .nil) []) (.and (.call 22 (.cons (.idx (.v 2) (.cst (.int 1))) .nil) []) (.call 96 (.cons (.idx (.v 2) (.cst (.int 2))) .nil) []))))) .nil) .nil)
    (.cons .stuck
    (.cons .stuck
    (.cons .stuck .nil)))))) }
def f99 : Fn := { nm := [105,115,95,97,115,107,101,114,95,114,111,119], ps := [0], pn := [[116,104,105,110,103]], np := 1, dv := [none], n := 3, body :=
    (.cons (.ite (.or (.not (.bi (.isinst .tuple) (.cons (.v 0) .nil))) (.or (.cmp .eq (.bi .len (.cons (.v 0) .nil)) (.cst (.int 0))) (.not (.bi (.isinst .str) (.cons (.idx (.v 0) (.cst (.int 0))) .nil)))))
      (.cons .stuck .nil) .nil)
    (.cons (.asg (.star (.cons (.v 1) .nil) 2) (.v 0))
    (.cons (.ite (.cmp .eq (.v 1) (.cst (.str [114,101,97,100])))
      (.cons (.ret (.and (.cmp .eq (.bi .len (.cons (.v 2) .nil)) (.cst (.int 2))) (.and (.call 12 (.cons (.idx (.v 2) (.cst (.int 0))) .nil) []) (.or (.cmp .isN (.idx (.v 2) (.cst (.int 1))) (.cst .non)) (.call 22 (.cons (.idx (.v 2) (.cst (.int 1))) .nil) []))))) .nil) .nil)
    (.cons (.ret (.and (.cmp .eq (.v 1) (.cst (.str [119,114,105,116,101]))) (.and (.cmp .eq (.bi .len (.cons (.v 2) .nil)) (.cst (.int 1))) (.call 98 (.cons (.idx (.v 2) (.cst (.int 0))) .nil) [])))) .nil)))) }
def f100 : Fn := { nm := [97,114,101,95,97,115,107,101,114,95,114,111,119,115], ps := [0], pn := [[116,104,105,110,103]], np := 1, dv := [none], n := 2, body :=
    (.cons (.ret (.and (.bi (.isinst .tuple) (.cons (.v 0) .nil)) (.bi .all (.cons (.comp [1] (.call 99 (.cons (.v 1) .nil) []) (.cons (.v 1) (.e (.v 0)) .n .nil)) .nil)))) .nil) }
def f101 : Fn := { nm := [100,111,99,117,109,101,110,116,95,97,116], ps := [0, 1, 2], pn := [[104,105,115,116,111,114,121], [109,97,114,107], [104,111,108,100,101,114]], np := 3, dv := [none, none, none], n := 12, body :=
    (.cons (.asg (.tup (.cons (.v 3) (.cons (.v 4) (.cons (.v 5) .nil)))) (.v 0))
    (.cons (.asg (.v 6) (.cst .non))
    (.cons (.for_ (.tup (.cons (.v 7) (.cons (.v 8) (.cons (.v 9) .nil)))) (.e (.idx (.v 4) (.cst (.int 0))))
      (.cons .stuck .nil))
    (.cons (.for_ (.star (.cons (.v 10) .nil) 11) (.e (.sl (.v 5) .n (.s (.op .sub (.v 1) (.v 3)))))
      (.cons (.ite (.and (.cmp .isin (.v 10) (.tup (.cons (.cst (.str [112,117,116])) (.cons (.cst (.str [103,111,110,101])) .nil)))) (.cmp .eq (.idx (.v 11) (.cst (.int 0))) (.v 2)))
        (.cons (.asg (.v 6) (.ite (.cmp .eq (.v 10) (.cst (.str [112,117,116]))) (.idx (.v 11) (.cst (.int 1))) .stuck)) .nil) .nil) .nil))
    (.cons (.ret (.v 6)) .nil))))) }
def f102 : Fn := { nm := [100,111,101,115,95,102,105,116], ps := [0, 1, 2], pn := [[104,105,115,116,111,114,121], [114,111,119], [109,97,114,107]], np := 3, dv := [none, none, none], n := 7, body :=
    (.cons (.asg (.tup (.cons (.v 3) (.cons (.v 4) (.cons (.v 5) .nil)))) (.v 0))
    (.cons (.ite (.cmp .eq (.idx (.v 1) (.cst (.int 0))) (.cst (.str [119,114,105,116,101])))
      (.cons (.ret (.and (.cmp .gt (.v 2) (.v 3)) (.call 57 (.cons (.idx (.v 5) (.op .sub (.op .sub (.v 2) (.v 3)) (.cst (.int 1)))) (.cons (.idx (.v 1) (.cst (.int 1))) .nil)) []))) .nil) .nil)
    (.cons (.asg (.v 6) (.call 101 (.cons (.v 0) (.cons (.v 2) (.cons (.idx (.v 1) (.cst (.int 1))) .nil))) []))
    (.cons (.ite (.or (.cmp .isN (.idx (.v 1) (.cst (.int 2))) (.cst .non)) (.cmp .isN (.v 6) (.cst .non)))
      (.cons (.ret (.and (.cmp .isN (.idx (.v 1) (.cst (.int 2))) (.cst .non)) (.cmp .isN (.v 6) (.cst .non)))) .nil) .nil)
    (.cons (.ret (.call 24 (.cons (.v 6) (.cons (.idx (.v 1) (.cst (.int 2))) .nil)) [])) .nil))))) }
def f103 : Fn := { nm := [108,101,97,115,116,95,102,114,111,109], ps := [0, 1, 2], pn := [[104,105,115,116,111,114,121], [114,111,119], [97,104,101,97,100]], np := 3, dv := [none, none, none], n := 3, body :=
    (.cons (.ite (.cmp .isN (.v 2) (.cst .non))
      (.cons (.ret (.idx (.v 0) (.cst (.int 0)))) .nil) .nil)
    (.cons (.ret (.ite (.cmp .eq (.idx (.v 1) (.cst (.int 0))) (.cst (.str [119,114,105,116,101]))) (.op .add (.v 2) (.cst (.int 1))) (.v 2))) .nil)) }
def f104 : Fn := { nm := [108,101,97,115,116,95,102,105,116], ps := [0, 1, 2], pn := [[104,105,115,116,111,114,121], [114,111,119], [97,104,101,97,100]], np := 3, dv := [none, none, none], n := 5, body :=
    (.cons (.asg (.v 3) (.op .add (.idx (.v 0) (.cst (.int 0))) (.bi .len (.cons (.idx (.v 0) (.cst (.int 2))) .nil))))
    (.cons (.for_ (.v 4) (.rng2 (.call 103 (.cons (.v 0) (.cons (.v 1) (.cons (.v 2) .nil))) []) (.op .add (.v 3) (.cst (.int 1))))
      (.cons (.ite (.call 102 (.cons (.v 0) (.cons (.v 1) (.cons (.v 4) .nil))) [])
        (.cons (.ret (.v 4)) .nil) .nil) .nil))
    (.cons .stuck .nil))) }
def f105 : Fn := { nm := [106,117,100,103,101,100], ps := [0, 1], pn := [[104,105,115,116,111,114,121], [114,111,119,115]], np := 2, dv := [none, none], n := 6, body :=
    (.cons (.asg (.v 2) (.mk (.lst .nil)))
    (.cons (.for_ (.tup (.cons (.v 3) (.cons (.v 4) .nil))) (.enum (.cons (.v 1) .nil))
      (.cons (.asg (.v 5) (.call 104 (.cons (.v 0) (.cons (.v 4) (.cons (.ite (.cmp .ne (.v 2) (.lst .nil)) (.idx (.v 2) (.neg (.cst (.int 1)))) (.cst .non)) .nil))) []))
      (.cons (.ite (.cmp .isN (.v 5) (.cst .non))
        (.cons .stuck .nil) .nil)
      (.cons (.ex (.sm .append (.v 2) (.cons (.v 5) .nil))) .nil))))
    (.cons (.ret (.tup (.cons (.cst (.str [102,105,116,115])) (.cons (.bi .tuple (.cons (.v 2) .nil)) .nil)))) .nil))) }
def f106 : Fn := { nm := [105,115,95,102,114,111,109], ps := [0, 1], pn := [[116,104,105,110,103], [108,101,97,115,116]], np := 2, dv := [none, none], n := 2, body :=
    (.cons (.ret (.and (.call 10 (.cons (.v 0) .nil) []) (.cmp .ge (.v 0) (.v 1)))) .nil) }
def f107 : Fn := { nm := [105,115,95,112,97,105,114,95,111,102,95,108,111,103], ps := [0], pn := [[116,104,105,110,103]], np := 1, dv := [none], n := 1, body :=
    (.cons (.ret (.and (.bi (.isinst .tuple) (.cons (.v 0) .nil)) (.and (.cmp .eq (.bi .len (.cons (.v 0) .nil)) (.cst (.int 2))) (.and (.call 106 (.cons (.idx (.v 0) (.cst (.int 0))) (.cons (.cst (.int 1)) .nil)) []) (.call 98 (.cons (.idx (.v 0) (.cst (.int 1))) .nil) []))))) .nil) }
def f108 : Fn := { nm := [105,115,95,104,111,117,115,101,95,114,111,119], ps := [0], pn := [[116,104,105,110,103]], np := 1, dv := [none], n := 2, body :=
    (.cons (.ite (.or (.not (.bi (.isinst .tuple) (.cons (.v 0) .nil))) (.or (.cmp .ne (.bi .len (.cons (.v 0) .nil)) (.cst (.int 4))) (.or (.not (.call 106 (.cons (.idx (.v 0) (.cst (.int 0))) (.cons (.cst (.int 0)) .nil)) [])) (.not (.call 106 (.cons (.idx (.v 0) (.cst (.int 3))) (.cons (.cst (.int 0)) .nil)) [])))))
      (.cons .stuck .nil) .nil)
    (.cons (.ite (.and (.cmp .notN (.idx (.v 0) (.cst (.int 1))) (.cst .non)) (.not (.call 10 (.cons (.idx (.v 0) (.cst (.int 1))) .nil) [])))
      (.cons .stuck .nil) .nil)
    (.cons (.ret (.and (.bi (.isinst .tuple) (.cons (.idx (.v 0) (.cst (.int 2))) .nil)) (.bi .all (.cons (.comp [1] (.call 107 (.cons (.v 1) .nil) []) (.cons (.v 1) (.e (.idx (.v 0) (.cst (.int 2)))) .n .nil)) .nil)))) .nil))) }
def f109 : Fn := { nm := [97,115,107,95,104,111,117,115,101,95,114,111,119], ps := [0, 1], pn := [[114,111,119,115], [104,111,117,115,101]], np := 2, dv := [none, none], n := 10, body :=
    (.cons (.asg (.tup (.cons (.v 2) (.cons (.v 3) (.cons (.v 4) (.cons (.v 5) .nil))))) (.idx (.v 0) (.v 1)))
    (.cons (.ite (.and (.cmp .notN (.v 3) (.cst .non)) (.not (.chn .le .lt (.cst (.int 0)) (.v 3) (.bi .len (.cons (.v 0) .nil)))))
      (.cons .stuck .nil) .nil)
    (.cons (.asg (.v 6) (.cst (.int 0)))
    (.cons (.for_ (.tup (.cons (.v 7) (.cons (.tup (.cons (.v 8) (.cons (.v 9) .nil))) .nil))) (.enum (.cons (.v 4) (.cons (.cst (.int 1)) .nil)))
      (.cons (.ite (.or (.cmp .lt (.v 8) (.v 6)) (.cmp .gt (.v 8) (.v 2)))
        (.cons .stuck .nil) .nil)
      (.cons (.asg (.v 6) (.v 8)) .nil)))
    (.cons (.ite (.cmp .gt (.v 5) (.bi .len (.cons (.v 4) .nil)))
      (.cons .stuck .nil) .nil) .nil))))) }
def f110 : Fn := { nm := [108,97,115,116,95,108,105,107,101,95,116,101,114,109], ps := [0, 1], pn := [[111,110,101], [111,116,104,101,114]], np := 2, dv := [none, none], n := 6, body :=
    (.cons (.asg (.v 2) (.comp [3, 4, 5] (.op .add (.v 3) (.cst (.int 1))) (.cons (.tup (.cons (.v 3) (.cons (.tup (.cons (.v 4) (.cons (.v 5) .nil))) .nil))) (.enumz (.cons (.v 0) (.cons (.v 1) .nil))) (.s (.cmp .eq (.idx (.v 4) (.cst (.int 0))) (.idx (.v 5) (.cst (.int 0))))) .nil)))
    (.cons (.ret (.bi .maxD (.cons (.v 2) (.cons (.cst (.int 0)) .nil)))) .nil)) }
def f111 : Fn := { nm := [97,115,107,95,116,119,111,95,114,111,119,115], ps := [0, 1, 2], pn := [[114,111,119,115], [104,111,117,115,101], [111,116,104,101,114]], np := 3, dv := [none, none, none], n := 6, body :=
    (.cons (.par [3, 4] (.cons (.idx (.idx (.v 0) (.v 1)) (.cst (.int 2))) (.cons (.idx (.idx (.v 0) (.v 2)) (.cst (.int 2))) .nil)))
    (.cons (.asg (.v 5) (.call 58 (.cons (.v 3) (.cons (.v 4) .nil)) []))
    (.cons (.ite (.cmp .lt (.v 5) (.call 110 (.cons (.v 3) (.cons (.v 4) .nil)) []))
      (.cons .stuck .nil) .nil)
    (.cons (.ite (.cmp .lt (.v 5) (.bi .min2 (.cons (.idx (.idx (.v 0) (.v 1)) (.cst (.int 3))) (.cons (.idx (.idx (.v 0) (.v 2)) (.cst (.int 3))) .nil))))
      (.cons .stuck .nil) .nil) .nil)))) }
def f112 : Fn := { nm := [108,101,116,115,95,104,111,117,115,101,115], ps := [0], pn := [[116,104,105,110,103]], np := 1, dv := [none], n := 10, body :=
    (.cons (.ite (.or (.not (.bi (.isinst .tuple) (.cons (.v 0) .nil))) (.or (.not (.chn .le .le (.cst (.int 3)) (.bi .len (.cons (.v 0) .nil)) (.cst (.int 5)))) (.not (.bi .all (.cons (.comp [1] (.call 108 (.cons (.v 1) .nil) []) (.cons (.v 1) (.e (.v 0)) .n .nil)) .nil)))))
      (.cons .stuck .nil) .nil)
    (.cons (.for_ (.v 2) (.rng (.bi .len (.cons (.v 0) .nil)))
      (.cons (.ex (.call 109 (.cons (.v 0) (.cons (.v 2) .nil)) [])) .nil))
    (.cons (.for_ (.v 2) (.rng (.bi .len (.cons (.v 0) .nil)))
      (.cons (.for_ (.v 3) (.rng2 (.op .add (.v 2) (.cst (.int 1))) (.bi .len (.cons (.v 0) .nil)))
        (.cons (.ex (.call 111 (.cons (.v 0) (.cons (.v 2) (.cons (.v 3) .nil))) [])) .nil)) .nil))
    (.cons (.for_ (.tup (.cons (.v 2) (.cons (.tup (.cons (.v 5) (.cons (.v 6) (.cons (.v 7) (.cons (.v 8) .nil))))) .nil))) (.enum (.cons (.v 0) .nil))
      (.cons (.asg (.v 4) (.comp [9] (.v 9) (.cons (.v 9) (.e (.v 0)) (.s (.cmp .ge (.call 58 (.cons (.v 7) (.cons (.idx (.v 9) (.cst (.int 2))) .nil)) []) (.v 8))) .nil)))
      (.cons (.ite (.and (.cmp .gt (.v 8) (.cst (.int 0))) (.cmp .le (.op .mul (.cst (.int 2)) (.bi .len (.cons (.v 4) .nil))) (.bi .len (.cons (.v 0) .nil))))
        (.cons .stuck .nil) .nil) .nil)))
    (.cons (.ret (.bi .maxL (.cons (.comp [9] (.idx (.v 9) (.cst (.int 3))) (.cons (.v 9) (.e (.v 0)) .n .nil)) .nil))) .nil))))) }
def f113 : Fn := { nm := [97,114,101,95,110,117,109,98,101,114,115], ps := [0], pn := [[116,104,105,110,103]], np := 1, dv := [none], n := 2, body :=
    (.cons (.ret (.and (.bi (.isinst .tuple) (.cons (.v 0) .nil)) (.bi .all (.cons (.comp [1] (.call 10 (.cons (.v 1) .nil) []) (.cons (.v 1) (.e (.v 0)) .n .nil)) .nil)))) .nil) }
def f114 : Fn := { nm := [105,115,95,106,117,100,103,101,109,101,110,116], ps := [0], pn := [[116,104,105,110,103]], np := 1, dv := [none], n := 3, body :=
    (.cons (.ite (.or (.not (.bi (.isinst .tuple) (.cons (.v 0) .nil))) (.or (.cmp .eq (.bi .len (.cons (.v 0) .nil)) (.cst (.int 0))) (.not (.bi (.isinst .str) (.cons (.idx (.v 0) (.cst (.int 0))) .nil)))))
      (.cons .stuck .nil) .nil)
    (.cons (.asg (.star (.cons (.v 1) .nil) 2) (.v 0))
    (.cons (.ite (.cmp .eq (.v 1) (.cst (.str [102,105,116,115])))
      (.cons (.ret (.and (.cmp .eq (.bi .len (.cons (.v 2) .nil)) (.cst (.int 1))) (.call 113 (.cons (.idx (.v 2) (.cst (.int 0))) .nil) []))) .nil) .nil)
    (.cons .stuck .nil)))) }
def f115 : Fn := { nm := [97,115,107,95,109,97,114,107,115], ps := [0, 1, 2, 3], pn := [[104,105,115,116,111,114,121], [114,111,119,115], [109,97,114,107,115], [98,97,114,115]], np := 4, dv := [none, none, none, none], n := 9, body :=
    (.cons (.asg (.v 4) (.op .add (.idx (.v 0) (.cst (.int 0))) (.bi .len (.cons (.idx (.v 0) (.cst (.int 2))) .nil))))
    (.cons (.asg (.v 5) (.cst .non))
    (.cons (.for_ (.tup (.cons (.v 6) (.cons (.tup (.cons (.v 7) (.cons (.v 8) .nil))) .nil))) (.enumz (.cons (.v 1) (.cons (.v 2) .nil)))
      (.cons (.ite (.or (.not (.chn .le .le (.call 103 (.cons (.v 0) (.cons (.v 7) (.cons (.v 5) .nil))) []) (.v 8) (.v 4))) (.not (.call 102 (.cons (.v 0) (.cons (.v 7) (.cons (.v 8) .nil))) [])))
        (.cons .stuck .nil) .nil)
      (.cons (.ite (.and (.v 3) .stuck)
        (.cons .stuck .nil) .nil)
      (.cons (.asg (.v 5) (.v 8)) .nil)))) .nil))) }
def f116 : Fn := { nm := [108,101,116,115,95,106,117,100,103,101,100], ps := [0, 1, 2], pn := [[104,105,115,116,111,114,121], [114,111,119,115], [116,104,105,110,103]], np := 3, dv := [none, none, none], n := 6, body :=
    (.cons (.ite (.not (.call 114 (.cons (.v 2) .nil) []))
      (.cons .stuck .nil) .nil)
    (.cons (.asg (.star (.cons (.v 3) .nil) 4) (.v 2))
    (.cons (.asg (.v 5) (.idx (.v 4) (.neg (.cst (.int 1)))))
    (.cons (.ite (.cmp .eq (.v 3) (.cst (.str [102,105,116,115])))
      (.cons (.ite (.cmp .ne (.bi .len (.cons (.v 5) .nil)) (.bi .len (.cons (.v 1) .nil)))
        (.cons .stuck .nil) .nil)
      (.cons (.ex (.call 115 (.cons (.v 0) (.cons (.v 1) (.cons (.v 5) (.cons (.cst (.bl false)) .nil)))) []))
      (.cons (.ret (.cst (.bl true))) .nil))) .nil)
    (.cons .stuck
    (.cons .stuck
    (.cons .stuck
    (.cons .stuck .nil)))))))) }
def f117 : Fn := { nm := [95,108,97,119,95,102,101,101,100], ps := [0], pn := [[95,108,97,119,95,115,99,114,105,112,116]], np := 1, dv := [none], n := 1, body :=
    (.cons (.ret (.mkd [(.str [99,101,108,108,115]), (.str [110,101,120,116]), (.str [108,101,102,116]), (.str [100,114,97,119,115])] (.cons (.bi .list (.cons (.sl (.v 0) .n (.s (.cst (.int 63)))) .nil)) (.cons (.cst (.int 0)) (.cons (.cst (.int 0)) (.cons (.cst (.int 0)) .nil)))))) .nil) }
def f118 : Fn := { nm := [95,108,97,119,95,100,114,97,119], ps := [0, 1], pn := [[95,108,97,119,95,102,101,101,100,95,104,101,114,101], [95,108,97,119,95,115,105,122,101]], np := 2, dv := [none, none], n := 7, body :=
    (.cons (.asg (.v 2) (.op .add (.idx (.v 0) (.cst (.str [100,114,97,119,115]))) (.cst (.int 1))))
    (.cons (.asg (.idx (.v 0) (.cst (.str [100,114,97,119,115]))) (.v 2))
    (.cons (.ite (.cmp .gt (.idx (.v 0) (.cst (.str [108,101,102,116]))) (.cst (.int 0)))
      (.cons (.asg (.v 3) (.op .mod (.idx (.v 0) (.cst (.str [108,101,102,116]))) (.v 1)))
      (.cons (.asg (.idx (.v 0) (.cst (.str [108,101,102,116]))) (.op .fdiv (.idx (.v 0) (.cst (.str [108,101,102,116]))) (.v 1)))
      (.cons (.ret (.v 3)) .nil))) .nil)
    (.cons (.asg (.v 4) (.idx (.v 0) (.cst (.str [110,101,120,116]))))
    (.cons (.asg (.idx (.v 0) (.cst (.str [110,101,120,116]))) (.op .add (.v 4) (.cst (.int 1))))
    (.cons (.asg (.v 5) (.cst (.int 0)))
    (.cons (.ite (.cmp .ne (.idx (.v 0) (.cst (.str [99,101,108,108,115]))) (.lst .nil))
      (.cons (.asg (.v 5) (.idx (.idx (.v 0) (.cst (.str [99,101,108,108,115]))) (.op .mod (.v 4) (.bi .len (.cons (.idx (.v 0) (.cst (.str [99,101,108,108,115]))) .nil))))) .nil) .nil)
    (.cons (.ite (.and (.cmp .ge (.v 5) (.op .pow (.cst (.int 10)) (.cst (.int 18)))) (.cmp .lt (.v 4) (.bi .len (.cons (.idx (.v 0) (.cst (.str [99,101,108,108,115]))) .nil))))
      (.cons (.asg (.idx (.v 0) (.cst (.str [108,101,102,116]))) (.op .fdiv (.v 5) (.v 1)))
      (.cons (.ret (.op .mod (.v 5) (.v 1))) .nil)) .nil)
    (.cons (.asg (.v 6) (.op .mod (.op .pow (.op .add (.op .add (.op .mod (.v 5) (.cst (.int 2147483629))) (.op .mul (.cst (.int 7919)) (.v 2))) (.cst (.int 1))) (.cst (.int 5))) (.cst (.int 2147483647))))
    (.cons (.asg (.v 6) (.op .mod (.op .pow (.op .add (.v 6) (.op .mul (.cst (.int 104729)) (.v 2))) (.cst (.int 5))) (.cst (.int 2147483587))))
    (.cons (.ret (.op .mod (.op .fdiv (.v 6) (.cst (.int 64))) (.v 1))) .nil))))))))))) }
def f119 : Fn := { nm := [95,108,97,119,95,108,101,97,102], ps := [0], pn := [[95,108,97,119,95,102,101,101,100,95,104,101,114,101]], np := 1, dv := [none], n := 1, body :=
    (.cons (.ret (.tup (.cons (.cst (.str [112,117,116])) (.cons (.idx (.lst (.cons (.cst (.str [97,110,110])) (.cons (.cst (.str [98,111])) .nil))) (.call 118 (.cons (.v 0) (.cons (.cst (.int 2)) .nil)) [])) (.cons (.tup (.cons (.cst (.str [116,114,101,101])) (.cons (.tup (.cons (.tup (.cons (.cst (.str [97])) (.cons (.call 118 (.cons (.v 0) (.cons (.cst (.int 5)) .nil)) []) .nil))) .nil)) .nil))) (.cons (.cst (.int 0)) .nil)))))) .nil) }
def f120 : Fn := { nm := [108,97,119], ps := [0], pn := [[95,108,97,119,95,115,99,114,105,112,116]], np := 1, dv := [none], n := 11, body :=
    (.cons (.asg (.v 1) (.call 117 (.cons (.v 0) .nil) []))
    (.cons (.fgt [0])
    (.cons (.par [2, 3, 4] (.cons (.new 12 (.cons (.cst (.int 3)) .nil) [[109,97,110,121]]) (.cons (.new 12 (.cons (.cst (.int 3)) .nil) []) (.cons (.call 119 (.cons (.v 1) .nil) []) .nil))))
    (.cons (.fgt [1])
    (.cons (.asg (.v 5) (.mk (.lst (.cons (.meth (.v 2) [115,116,97,110,100] (.cons (.cst (.int 0)) .nil) [[104,111,117,115,101]]) (.cons (.meth (.v 2) [119,114,105,116,101] (.cons (.v 4) (.cons (.cst (.int 0)) .nil)) [[101,110,116,114,121], [104,111,117,115,101]]) (.cons (.meth (.v 2) [115,101,110,100] (.cons (.cst (.int 1)) (.cons (.cst (.int 0)) .nil)) [[111,116,104,101,114], [104,111,117,115,101]]) .nil))))))
    (.cons (.asg (.v 6) (.lst (.cons (.meth (.v 3) [115,116,97,110,100] (.cons (.cst (.int 0)) .nil) []) (.cons (.meth (.v 3) [119,114,105,116,101] (.cons (.cst (.int 0)) (.cons (.v 4) .nil)) []) (.cons (.meth (.v 3) [115,101,110,100] (.cons (.cst (.int 0)) (.cons (.cst (.int 1)) .nil)) []) .nil)))))
    (.cons (.asg (.v 5) (.mk (.op .add (.v 5) (.lst (.cons (.meth (.v 2) [105,115,95,117,112] (.cons (.cst (.int 1)) .nil) [[104,111,117,115,101]]) (.cons (.meth (.v 2) [100,111,101,115,95,108,101,97,100] (.cons (.cst (.int 0)) .nil) [[104,111,117,115,101]]) (.cons (.meth (.v 2) [105,115,95,108,105,110,107,101,100] (.cons (.cst (.int 2)) (.cons (.cst (.int 0)) .nil)) [[111,116,104,101,114], [104,111,117,115,101]]) .nil)))))))
    (.cons (.ex (.sm .append (.v 5) (.cons (.meth (.v 2) [116,101,114,109,95,111,102] (.cons (.cst (.int 0)) .nil) [[104,111,117,115,101]]) .nil)))
    (.cons (.asg (.v 6) (.op .add (.v 6) (.lst (.cons (.meth (.v 3) [105,115,95,117,112] (.cons (.cst (.int 1)) .nil) []) (.cons (.meth (.v 3) [100,111,101,115,95,108,101,97,100] (.cons (.cst (.int 0)) .nil) []) (.cons (.meth (.v 3) [105,115,95,108,105,110,107,101,100] (.cons (.cst (.int 0)) (.cons (.cst (.int 2)) .nil)) []) (.cons (.meth (.v 3) [116,101,114,109,95,111,102] (.cons (.cst (.int 0)) .nil) []) .nil)))))))
    (.cons (.asg (.v 5) (.mk (.op .add (.v 5) (.lst (.cons (.meth (.v 2) [118,111,116,101,95,111,102] (.cons (.cst (.int 2)) .nil) [[104,111,117,115,101]]) (.cons (.meth (.v 2) [108,111,103,95,111,102] (.cons (.cst (.int 1)) .nil) [[104,111,117,115,101]]) (.cons (.meth (.v 2) [100,111,110,101,95,111,102] (.cons (.cst (.int 0)) .nil) [[104,111,117,115,101]]) .nil)))))))
    (.cons (.asg (.v 6) (.op .add (.v 6) (.lst (.cons (.meth (.v 3) [118,111,116,101,95,111,102] (.cons (.cst (.int 2)) .nil) []) (.cons (.meth (.v 3) [108,111,103,95,111,102] (.cons (.cst (.int 1)) .nil) []) (.cons (.meth (.v 3) [100,111,110,101,95,111,102] (.cons (.cst (.int 0)) .nil) []) .nil))))))
    (.cons (.asg (.v 5) (.mk (.op .add (.v 5) (.lst (.cons (.meth (.v 2) [114,101,97,100] (.cons (.cst (.int 1)) (.cons (.cst (.int 0)) .nil)) [[109,97,114,107], [104,111,117,115,101]]) (.cons (.meth (.v 2) [114,101,97,100] (.cons (.cst (.int 1)) .nil) [[104,111,117,115,101]]) (.cons (.meth (.v 2) [108,97,116,101,115,116] (.cons (.cst (.int 0)) .nil) [[104,111,117,115,101]]) .nil)))))))
    (.cons (.asg (.v 6) (.op .add (.v 6) (.lst (.cons (.meth (.v 3) [114,101,97,100] (.cons (.cst (.int 0)) (.cons (.cst (.int 1)) .nil)) [[109,97,114,107]]) (.cons (.meth (.v 3) [114,101,97,100] (.cons (.cst (.int 1)) (.cons (.cst (.int 0)) .nil)) [[109,97,114,107]]) (.cons (.meth (.v 3) [108,97,116,101,115,116] (.cons (.cst (.int 0)) .nil) []) .nil))))))
    (.cons (.par [5, 6] (.cons (.mk (.op .add (.v 5) (.lst (.cons (.meth (.v 2) [114,101,97,100] (.cons (.cst (.int 2)) .nil) [[104,111,117,115,101]]) .nil)))) (.cons (.op .add (.v 6) (.lst (.cons (.meth (.v 3) [114,101,97,100] (.cons (.cst (.int 2)) (.cons (.cst (.int 0)) .nil)) [[109,97,114,107]]) .nil))) .nil)))
    (.cons (.asg (.v 5) (.mk (.op .add (.v 5) (.lst (.cons (.meth (.v 2) [112,97,114,116] (.cons (.cst (.int 2)) (.cons (.cst (.int 0)) .nil)) [[111,116,104,101,114], [104,111,117,115,101]]) (.cons (.meth (.v 2) [109,101,101,116] (.cons (.cst (.int 0)) (.cons (.cst (.int 2)) .nil)) [[111,116,104,101,114], [104,111,117,115,101]]) (.cons (.meth (.v 2) [102,97,108,108] (.cons (.cst (.int 2)) .nil) [[104,111,117,115,101]]) (.cons (.meth (.v 2) [114,105,115,101] (.cons (.cst (.int 2)) .nil) [[104,111,117,115,101]]) .nil))))))))
    (.cons (.asg (.v 6) (.op .add (.v 6) (.lst (.cons (.meth (.v 3) [112,97,114,116] (.cons (.cst (.int 0)) (.cons (.cst (.int 2)) .nil)) []) (.cons (.meth (.v 3) [109,101,101,116] (.cons (.cst (.int 2)) (.cons (.cst (.int 0)) .nil)) []) (.cons (.meth (.v 3) [102,97,108,108] (.cons (.cst (.int 2)) .nil) []) (.cons (.meth (.v 3) [114,105,115,101] (.cons (.cst (.int 2)) .nil) []) .nil)))))))
    (.cons (.par [7, 8] (.cons (.meth (.v 2) [112,97,112,101,114] .nil []) (.cons (.idx (.meth (.v 2) [114,101,97,100] (.cons (.cst (.int 0)) .nil) []) (.cst (.int 1))) .nil)))
    (.cons (.asg (.v 9) (.tup (.cons (.tup (.cons (.cst (.str [114,101,97,100])) (.cons (.cst (.str [97,110,110])) (.cons (.cst .non) .nil)))) (.cons (.tup (.cons (.cst (.str [119,114,105,116,101])) (.cons (.v 4) .nil))) (.cons (.tup (.cons (.cst (.str [114,101,97,100])) (.cons (.idx (.v 4) (.cst (.int 1))) (.cons (.idx (.v 4) (.cst (.int 2))) .nil)))) .nil)))))
    (.cons (.asg (.v 5) (.mk (.op .add (.v 5) (.lst (.cons (.call 112 (.cons (.v 7) .nil) [[116,104,105,110,103]]) (.cons (.call 100 (.cons (.v 9) .nil) [[116,104,105,110,103]]) (.cons (.call 105 (.cons (.v 9) (.cons (.v 8) .nil)) [[114,111,119,115], [104,105,115,116,111,114,121]]) .nil)))))))
    (.cons (.asg (.v 6) (.op .add (.v 6) (.lst (.cons (.call 112 (.cons (.v 7) .nil) []) (.cons (.call 100 (.cons (.v 9) .nil) []) (.cons (.call 105 (.cons (.v 8) (.cons (.v 9) .nil)) []) .nil))))))
    (.cons (.asg (.v 10) (.call 105 (.cons (.v 8) (.cons (.v 9) .nil)) []))
    (.cons (.asg (.v 5) (.mk (.op .add (.v 5) (.lst (.cons (.call 116 (.cons (.v 10) (.cons (.v 9) (.cons (.v 8) .nil))) [[116,104,105,110,103], [114,111,119,115], [104,105,115,116,111,114,121]]) (.cons (.cmp .eq (.new 12 .nil []) (.new 12 (.cons (.cst (.int 3)) .nil) [[109,97,110,121]])) .nil))))))
    (.cons (.asg (.v 6) (.op .add (.v 6) (.lst (.cons (.call 116 (.cons (.v 8) (.cons (.v 9) (.cons (.v 10) .nil))) []) (.cons (.cst (.bl true)) .nil)))))
    (.cons (.ret (.and (.cmp .eq (.bi .repr (.cons (.v 5) .nil)) (.bi .repr (.cons (.v 6) .nil))) (.cmp .eq (.v 2) (.v 3)))) .nil)))))))))))))))))))))))) }
def f121 : Fn := { nm := [], ps := [4], pn := [[112,97,105,114]], np := 1, dv := [none], n := 5, body := (.cons (.ret .stuck) .nil) }
def fns : List Fn := [f0, f1, f2, f3, f4, f5, f6, f7, f8, f9, f10, f11, f12, f13, f14, f15, f16, f17, f18, f19, f20, f21, f22, f23, f24, f25, f26, f27, f28, f29, f30, f31, f32, f33, f34, f35, f36, f37, f38, f39, f40, f41, f42, f43, f44, f45, f46, f47, f48, f49, f50, f51, f52, f53, f54, f55, f56, f57, f58, f59, f60, f61, f62, f63, f64, f65, f66, f67, f68, f69, f70, f71, f72, f73, f74, f75, f76, f77, f78, f79, f80, f81, f82, f83, f84, f85, f86, f87, f88, f89, f90, f91, f92, f93, f94, f95, f96, f97, f98, f99, f100, f101, f102, f103, f104, f105, f106, f107, f108, f109, f110, f111, f112, f113, f114, f115, f116, f117, f118, f119, f120]
def nls : List (List (List Nat)) := [[[107]],
  [[115,101,108,102], [119,111,114,100], [97,116]],
  [[115,101,108,102], [110,97,109,101], [104,111,108,100,101,114]],
  [[115,101,108,102], [104,111,108,100,101,114], [101,100,105,116,105,111,110]],
  [[115,101,108,102], [119,111,114,100]],
  [[115,101,108,102], [109,97,114,107]],
  [[115,101,108,102], [104,111,108,100,101,114]],
  [[115,101,108,102], [109,97,114,107]],
  [[115,101,108,102], [110,97,109,101]],
  [[115,101,108,102], [104,111,117,115,101]],
  [[116,104,105,110,103]],
  [[116,104,105,110,103]],
  [[116,104,105,110,103], [115,105,103,110]],
  [[116,104,105,110,103], [115,105,103,110]],
  [[116,104,105,110,103], [109,97,110,121]],
  [[116,104,105,110,103], [119,111,114,100], [109,97,110,121]],
  [[116,104,105,110,103]],
  [[116,104,105,110,103]],
  [[116,104,105,110,103]],
  [[116,104,105,110,103]],
  [[116,104,105,110,103], [111,110,101], [111,116,104,101,114]],
  [[116,104,105,110,103], [111,110,101]],
  [[116,104,105,110,103]],
  [[112,108,97,105,110]],
  [[111,110,101], [111,116,104,101,114], [112,97,105,114,115], [109,105,110,101], [116,104,101,105,114,115]],
  [[116,114,101,101]],
  [[116,104,105,110,103], [119,111,114,100], [112,108,97,105,110], [102,105,101,108,100,115]],
  [[115,116,101,112], [118,97,108,117,101], [119,111,114,100], [112,97,114,116,115], [102,105,101,108,100,115], [116,104,105,110,103,115], [110,117,109,98,101,114], [116,104,105,110,103]],
  [[118,97,108,117,101], [112,97,116,104], [102,111,117,110,100], [115,116,101,112], [112,108,97,99,101], [111,119,110], [109,97,114,107,101,114], [116,104,105,110,103]],
  [[116,104,105,110,103], [119,111,114,100], [112,97,114,116,115], [111,110,101]],
  [[116,104,105,110,103], [111,110,101]],
  [[116,114,101,101], [102,105,101,108,100]],
  [[116,114,101,101], [102,105,101,108,100], [118,97,108,117,101], [102,105,101,108,100,115], [112,97,105,114]],
  [[100,111,99,117,109,101,110,116], [102,105,101,108,100], [111,116,104,101,114], [105,110,110,101,114], [118,97,108,117,101]],
  [[100,111,99,117,109,101,110,116], [109,111,118,101], [119,111,114,100], [102,105,101,108,100], [112,97,114,116,115], [118,97,108,117,101], [111,116,104,101,114]],
  [[100,111,99,117,109,101,110,116], [115,104,97,112,101,115], [115,105,110,99,101], [117,112,116,111], [104,111,108,100,101,114], [110,101,119,101,115,116], [109,111,118,101,115], [109,111,118,101]],
  [[115,116,97,110,100,115], [100,111,99,117,109,101,110,116,115], [105,110,100,101,120,101,115], [115,104,97,112,101,115], [110,97,109,101], [100,111,99,117,109,101,110,116], [101,100,105,116,105,111,110]],
  [[119,111,114,100], [118,97,108,117,101], [112,108,97,105,110], [111,110,101], [111,116,104,101,114]],
  [[100,111,99,117,109,101,110,116], [116,101,115,116], [119,111,114,100], [112,97,114,116,115], [111,110,101], [118,97,108,117,101,115], [112,108,97,99,101], [118,97,108,117,101]],
  [[100,111,99,117,109,101,110,116], [112,97,116,104], [112,108,97,99,101], [118,97,108,117,101]],
  [[100,111,99,117,109,101,110,116], [105,110,100,101,120], [110,97,109,101], [112,97,116,104], [117,110,105,113,117,101], [116,101,115,116]],
  [[118,105,101,119], [105,110,100,101,120], [107,101,121], [104,111,108,100,101,114], [100,111,99,117,109,101,110,116]],
  [[114,111,119,115], [111,110,101], [111,116,104,101,114]],
  [[115,116,97,110,100,115], [118,105,101,119], [105,110,100,101,120], [104,111,108,100,101,114]],
  [[115,111,109,101], [102,114,101,115,104], [111,110,101]],
  [[111,110,101]],
  [[115,111,109,101], [110,97,109,101], [108,101,102,116], [111,110,101]],
  [[115,116,97,110,100,115], [114,101,115,116], [100,111,99,117,109,101,110,116,115], [105,110,100,101,120,101,115], [115,104,97,112,101,115]],
  [[115,116,97,110,100,115], [104,111,108,100,101,114], [108,101,102,116]],
  [[115,116,97,110,100,115], [110,97,109,101], [108,101,102,116]],
  [[115,116,97,110,100,115], [101,110,116,114,121], [119,111,114,100], [114,101,115,116], [100,111,99,117,109,101,110,116,115], [105,110,100,101,120,101,115], [115,104,97,112,101,115]],
  [[115,116,97,110,100,115], [101,110,116,114,121], [98,101,104,105,110,100]],
  [[115,101,108,102]],
  [[115,101,108,102], [116,101,114,109]],
  [[115,101,108,102]],
  [[115,101,108,102], [104,101,108,100]],
  [[115,101,108,102]],
  [[111,110,101], [111,116,104,101,114]],
  [[111,110,101], [111,116,104,101,114], [109,97,110,121], [102,105,114,115,116], [115,101,99,111,110,100]],
  [[115,101,108,102], [109,97,110,121], [116,117,114,110]],
  [[115,101,108,102]],
  [[115,101,108,102], [119,111,114,100,115], [109,101,109,98,101,114], [115,105,103,110], [111,110,101]],
  [[115,101,108,102], [111,116,104,101,114]],
  [[115,101,108,102], [102,111,117,110,100], [109,101,109,98,101,114]],
  [[115,101,108,102], [109,101,109,98,101,114]],
  [[115,101,108,102], [104,111,117,115,101]],
  [[115,101,108,102], [104,111,117,115,101], [111,116,104,101,114]],
  [[115,101,108,102], [104,111,117,115,101]],
  [[115,101,108,102], [104,111,117,115,101]],
  [[115,101,108,102], [104,111,117,115,101]],
  [[115,101,108,102], [104,111,117,115,101]],
  [[115,101,108,102], [104,111,117,115,101]],
  [[115,101,108,102], [104,111,117,115,101]],
  [[115,101,108,102], [104,111,117,115,101], [111,116,104,101,114]],
  [[115,101,108,102]],
  [[115,101,108,102], [104,111,117,115,101], [111,116,104,101,114,115], [111,116,104,101,114]],
  [[115,101,108,102], [109,97,110,121]],
  [[115,101,108,102], [109,101,109,98,101,114]],
  [[115,101,108,102], [109,101,109,98,101,114]],
  [[115,101,108,102], [104,111,117,115,101], [111,116,104,101,114]],
  [[115,101,108,102], [104,111,117,115,101], [109,101,109,98,101,114], [110,101,97,114], [111,116,104,101,114], [103,114,101,97,116,101,115,116], [118,111,116,101,115]],
  [[115,101,108,102], [111,116,104,101,114], [116,101,114,109], [104,111,117,115,101]],
  [[115,101,108,102], [104,111,117,115,101], [101,110,116,114,121], [109,101,109,98,101,114]],
  [[115,101,108,102], [104,111,117,115,101], [111,116,104,101,114], [109,101,109,98,101,114], [115,101,99,111,110,100], [97,108,105,107,101], [114,111,108,108,101,100], [97,116], [116,101,114,109], [101,110,116,114,121]],
  [[115,101,108,102], [109,101,109,98,101,114], [110,117,109,98,101,114], [104,111,108,100,101,114,115], [116,101,114,109], [101,110,116,114,121], [111,116,104,101,114]],
  [[115,101,108,102], [104,111,117,115,101], [109,101,109,98,101,114]],
  [[115,101,108,102], [104,111,117,115,101], [109,101,109,98,101,114]],
  [[115,101,108,102], [104,111,117,115,101], [111,116,104,101,114], [119,97,115,95,108,105,110,107,101,100]],
  [[115,101,108,102], [104,111,117,115,101], [111,116,104,101,114], [119,97,115,95,108,105,110,107,101,100]],
  [[115,101,108,102], [109,101,109,98,101,114], [101,110,116,114,105,101,115], [116,101,114,109], [101,110,116,114,121]],
  [[115,101,108,102], [104,111,117,115,101], [109,97,114,107], [109,101,109,98,101,114]],
  [[115,101,108,102], [104,111,117,115,101], [109,101,109,98,101,114], [110,101,97,114], [111,116,104,101,114], [116,101,114,109], [101,110,116,114,121]],
  [[115,101,108,102], [109,101,109,98,101,114]],
  [[116,104,105,110,103], [104,101,97,100]],
  [[116,104,105,110,103], [111,110,101]],
  [[116,104,105,110,103], [104,101,97,100], [111,110,101]],
  [[116,104,105,110,103]],
  [[116,104,105,110,103], [110,97,109,101], [112,97,116,104], [117,110,105,113,117,101], [116,101,115,116]],
  [[116,104,105,110,103], [119,111,114,100], [114,101,115,116]],
  [[116,104,105,110,103], [119,111,114,100], [112,97,114,116,115]],
  [[116,104,105,110,103], [111,110,101]],
  [[104,105,115,116,111,114,121], [109,97,114,107], [104,111,108,100,101,114], [102,105,114,115,116], [115,116,97,110,100,115], [101,110,116,114,105,101,115], [102,111,117,110,100], [111,119,110], [100,111,99,117,109,101,110,116], [101,100,105,116,105,111,110], [119,111,114,100], [112,97,114,116,115]],
  [[104,105,115,116,111,114,121], [114,111,119], [109,97,114,107], [102,105,114,115,116], [115,116,97,110,100,115], [101,110,116,114,105,101,115], [100,111,99,117,109,101,110,116]],
  [[104,105,115,116,111,114,121], [114,111,119], [97,104,101,97,100]],
  [[104,105,115,116,111,114,121], [114,111,119], [97,104,101,97,100], [108,97,115,116], [109,97,114,107]],
  [[104,105,115,116,111,114,121], [114,111,119,115], [109,97,114,107,115], [110,117,109,98,101,114], [114,111,119], [109,97,114,107]],
  [[116,104,105,110,103], [108,101,97,115,116]],
  [[116,104,105,110,103]],
  [[116,104,105,110,103], [111,110,101]],
  [[114,111,119,115], [104,111,117,115,101], [116,101,114,109], [118,111,116,101], [112,97,105,114,115], [100,111,110,101], [97,104,101,97,100], [110,117,109,98,101,114], [111,119,110], [101,110,116,114,121]],
  [[111,110,101], [111,116,104,101,114], [110,117,109,98,101,114,115], [97,116], [102,105,114,115,116], [115,101,99,111,110,100]],
  [[114,111,119,115], [104,111,117,115,101], [111,116,104,101,114], [111,110,101], [116,119,111], [97,108,105,107,101]],
  [[116,104,105,110,103], [111,110,101], [104,111,117,115,101], [111,116,104,101,114], [104,111,108,100,101,114,115], [116,101,114,109], [118,111,116,101], [112,97,105,114,115], [100,111,110,101], [114,111,119]],
  [[116,104,105,110,103], [111,110,101]],
  [[116,104,105,110,103], [119,111,114,100], [112,97,114,116,115]],
  [[104,105,115,116,111,114,121], [114,111,119,115], [109,97,114,107,115], [98,97,114,115], [108,97,115,116], [97,104,101,97,100], [110,117,109,98,101,114], [114,111,119], [109,97,114,107]],
  [[104,105,115,116,111,114,121], [114,111,119,115], [116,104,105,110,103], [119,111,114,100], [112,97,114,116,115], [109,97,114,107,115]],
  [[95,108,97,119,95,115,99,114,105,112,116]],
  [[95,108,97,119,95,102,101,101,100,95,104,101,114,101], [95,108,97,119,95,115,105,122,101], [95,108,97,119,95,100,114,97,119,115], [95,108,97,119,95,102,111,117,110,100], [95,108,97,119,95,107], [95,108,97,119,95,103,114,97,105,110], [95,108,97,119,95,109,105,120,101,100]],
  [[95,108,97,119,95,102,101,101,100,95,104,101,114,101]],
  [[95,108,97,119,95,115,99,114,105,112,116], [95,108,97,119,95,102,101,101,100,95,104,101,114,101], [95,108,97,119,95,102,105,114,115,116], [95,108,97,119,95,115,101,99,111,110,100], [95,108,97,119,95,108,101,97,102,95,104,101,114,101], [95,108,97,119,95,102,97,114], [95,108,97,119,95,100,117,101], [95,108,97,119,95,115,104,101,101,116], [95,108,97,119,95,112,97,115,116], [95,108,97,119,95,113,117,101,114,105,101,115], [95,108,97,119,95,118,101,114,100,105,99,116]]]
def locs : List (Nat × Option Nat) := [(0, none), (4, some 0), (5, some 0), (6, some 0), (7, some 0), (8, some 0), (9, some 0), (10, some 0), (11, some 0), (12, some 0), (18, none), (19, none), (20, none), (21, none), (22, none), (23, none), (24, none), (26, none), (27, none), (28, none), (29, none), (30, none), (31, none), (32, none), (33, none), (34, none), (36, none), (37, none), (38, none), (41, none), (42, none), (43, none), (44, none), (45, none), (46, none), (48, none), (49, none), (51, none), (52, none), (54, none), (55, none), (56, none), (57, none), (59, none), (60, none), (61, none), (62, none), (63, none), (64, none), (65, none), (66, none), (67, none), (70, some 0), (70, some 1), (70, some 2), (70, some 3), (70, some 4), (71, none), (72, none), (73, some 0), (73, some 1), (73, some 2), (73, some 3), (73, some 4), (73, some 5), (73, some 6), (73, some 7), (73, some 8), (73, some 9), (73, some 10), (73, some 11), (73, some 12), (73, some 13), (73, some 14), (73, some 15), (73, some 16), (73, some 17), (73, some 18), (73, some 19), (73, some 20), (73, some 21), (73, some 22), (73, some 23), (73, some 24), (73, some 25), (73, some 26), (73, some 27), (73, some 28), (73, some 29), (73, some 30), (73, some 31), (73, some 32), (73, some 33), (75, none), (76, none), (78, none), (80, none), (81, none), (82, none), (84, none), (85, none), (86, none), (87, none), (88, none), (89, none), (90, none), (92, none), (93, none), (94, none), (95, none), (96, none), (97, none), (98, none), (100, none), (101, none), (102, none), (103, none), (105, none), (106, none), (107, none), (108, none)]
def quals : List (Option (List Nat) × List Nat) := [(none, [95,119,97,108,108]),
  (some [78,111,80,97,112,101,114], [78,111,80,97,112,101,114,46,95,95,105,110,105,116,95,95]),
  (some [78,111,75,101,121], [78,111,75,101,121,46,95,95,105,110,105,116,95,95]),
  (some [78,111,76,101,97,100], [78,111,76,101,97,100,46,95,95,105,110,105,116,95,95]),
  (some [78,111,84,117,114,110], [78,111,84,117,114,110,46,95,95,105,110,105,116,95,95]),
  (some [66,101,104,105,110,100], [66,101,104,105,110,100,46,95,95,105,110,105,116,95,95]),
  (some [78,111,73,100], [78,111,73,100,46,95,95,105,110,105,116,95,95]),
  (some [78,111,77,97,114,107], [78,111,77,97,114,107,46,95,95,105,110,105,116,95,95]),
  (some [78,111,78,97,109,101], [78,111,78,97,109,101,46,95,95,105,110,105,116,95,95]),
  (some [78,111,72,111,117,115,101], [78,111,72,111,117,115,101,46,95,95,105,110,105,116,95,95]),
  (none, [105,115,95,110,117,109,98,101,114]),
  (none, [105,115,95,112,108,97,99,101,95,110,117,109,98,101,114]),
  (none, [105,115,95,119,111,114,100]),
  (none, [105,115,95,116,101,120,116]),
  (none, [105,115,95,108,111,110,103]),
  (none, [104,97,115,95,104,101,97,100]),
  (none, [104,101,97,100,95,111,102]),
  (none, [105,115,95,112,108,97,105,110]),
  (none, [105,115,95,114,111,119]),
  (none, [105,115,95,116,114,101,101]),
  (none, [97,114,101,95,102,105,101,108,100,115]),
  (none, [105,115,95,118,97,108,117,101]),
  (none, [105,115,95,100,111,99,117,109,101,110,116]),
  (none, [107,101,121,95,111,102]),
  (none, [105,115,95,108,105,107,101]),
  (none, [102,105,101,108,100,115,95,111,102]),
  (none, [102,105,116,115]),
  (none, [99,111,109,101,95,98,121]),
  (none, [102,111,117,110,100,95,105,110]),
  (none, [105,115,95,109,111,118,101]),
  (none, [105,115,95,109,111,118,101,115]),
  (none, [105,110,95,116,114,101,101]),
  (none, [119,105,116,104,95,105,110,95,116,114,101,101]),
  (none, [109,111,118,101,100,95,111,117,116]),
  (none, [109,111,118,101,100]),
  (none, [108,101,100]),
  (none, [118,105,101,119,95,111,102]),
  (none, [105,115,95,98,101,115,105,100,101]),
  (none, [109,101,101,116,115]),
  (none, [107,101,121,115,95,102,111,117,110,100]),
  (none, [107,101,121,115,95,111,102]),
  (none, [114,111,119,115,95,116,104,114,111,117,103,104]),
  (none, [115,101,99,111,110,100,95,111,102]),
  (none, [97,115,107,95,115,111,117,110,100]),
  (none, [112,117,116,95,98,121,95,110,97,109,101]),
  (none, [102,105,114,115,116,95,116,104,105,110,103]),
  (none, [119,105,116,104,111,117,116,95,110,97,109,101]),
  (none, [112,117,116,95,98,101,104,105,110,100]),
  (none, [103,111,110,101,95,98,101,104,105,110,100]),
  (none, [98,97,114,101,95,98,101,104,105,110,100]),
  (none, [98,101,104,105,110,100,95,101,110,116,114,121]),
  (none, [108,101,116,95,105,110]),
  (some [77,101,109,98,101,114], [77,101,109,98,101,114,46,95,95,105,110,105,116,95,95]),
  (some [77,101,109,98,101,114], [77,101,109,98,101,114,46,99,111,109,101,95,105,110,116,111]),
  (some [77,101,109,98,101,114], [77,101,109,98,101,114,46,108,97,115,116,95,112,97,105,114]),
  (some [77,101,109,98,101,114], [77,101,109,98,101,114,46,97,108,108,95,111,102,95,105,116]),
  (some [77,101,109,98,101,114], [77,101,109,98,101,114,46,114,111,119,95,111,102,95,112,97,112,101,114]),
  (none, [105,115,95,115,97,109,101]),
  (none, [115,97,109,101,95,115,111,95,102,97,114]),
  (some [72,111,117,115,101,115], [72,111,117,115,101,115,46,95,95,105,110,105,116,95,95]),
  (some [72,111,117,115,101,115], [72,111,117,115,101,115,46,95,95,108,101,110,95,95]),
  (some [72,111,117,115,101,115], [72,111,117,115,101,115,46,95,95,115,116,114,95,95]),
  (some [72,111,117,115,101,115], [72,111,117,115,101,115,46,95,95,101,113,95,95]),
  (some [72,111,117,115,101,115], [72,111,117,115,101,115,46,100,111,110,101,95,112,97,105,114,115]),
  (some [72,111,117,115,101,115], [72,111,117,115,101,115,46,97,108,108,95,111,102,95,116,104,101,109]),
  (some [72,111,117,115,101,115], [72,111,117,115,101,115,46,109,101,109,98,101,114,95,111,102]),
  (some [72,111,117,115,101,115], [72,111,117,115,101,115,46,116,119,111,95,111,102]),
  (some [72,111,117,115,101,115], [72,111,117,115,101,115,46,105,115,95,117,112]),
  (some [72,111,117,115,101,115], [72,111,117,115,101,115,46,100,111,101,115,95,108,101,97,100]),
  (some [72,111,117,115,101,115], [72,111,117,115,101,115,46,116,101,114,109,95,111,102]),
  (some [72,111,117,115,101,115], [72,111,117,115,101,115,46,118,111,116,101,95,111,102]),
  (some [72,111,117,115,101,115], [72,111,117,115,101,115,46,108,111,103,95,111,102]),
  (some [72,111,117,115,101,115], [72,111,117,115,101,115,46,100,111,110,101,95,111,102]),
  (some [72,111,117,115,101,115], [72,111,117,115,101,115,46,105,115,95,108,105,110,107,101,100]),
  (some [72,111,117,115,101,115], [72,111,117,115,101,115,46,108,101,97,100,101,114,115]),
  (some [72,111,117,115,101,115], [72,111,117,115,101,115,46,110,101,105,103,104,98,111,117,114,115]),
  (some [72,111,117,115,101,115], [72,111,117,115,101,115,46,97,114,101,95,109,111,115,116]),
  (some [72,111,117,115,101,115], [72,111,117,115,101,115,46,97,115,107,95,117,112]),
  (some [72,111,117,115,101,115], [72,111,117,115,101,115,46,97,115,107,95,108,101,97,100,115]),
  (some [72,111,117,115,101,115], [72,111,117,115,101,115,46,97,115,107,95,117,110,108,105,107,101]),
  (some [72,111,117,115,101,115], [72,111,117,115,101,115,46,115,116,97,110,100]),
  (some [72,111,117,115,101,115], [72,111,117,115,101,115,46,100,105,100,95,118,111,116,101]),
  (some [72,111,117,115,101,115], [72,111,117,115,101,115,46,119,114,105,116,101]),
  (some [72,111,117,115,101,115], [72,111,117,115,101,115,46,115,101,110,100]),
  (some [72,111,117,115,101,115], [72,111,117,115,101,115,46,99,111,117,110,116,95,100,111,110,101]),
  (some [72,111,117,115,101,115], [72,111,117,115,101,115,46,102,97,108,108]),
  (some [72,111,117,115,101,115], [72,111,117,115,101,115,46,114,105,115,101]),
  (some [72,111,117,115,101,115], [72,111,117,115,101,115,46,112,97,114,116]),
  (some [72,111,117,115,101,115], [72,111,117,115,101,115,46,109,101,101,116]),
  (some [72,111,117,115,101,115], [72,111,117,115,101,115,46,104,105,115,116,111,114,121,95,111,102]),
  (some [72,111,117,115,101,115], [72,111,117,115,101,115,46,114,101,97,100]),
  (some [72,111,117,115,101,115], [72,111,117,115,101,115,46,108,97,116,101,115,116]),
  (some [72,111,117,115,101,115], [72,111,117,115,101,115,46,112,97,112,101,114]),
  (none, [105,115,95,115,116,101,112]),
  (none, [105,115,95,112,97,116,104]),
  (none, [105,115,95,116,101,115,116]),
  (none, [105,115,95,102,114,111,109,95,110,111,117,103,104,116]),
  (none, [105,115,95,105,110,100,101,120]),
  (none, [105,115,95,101,110,116,114,121]),
  (none, [105,115,95,97,115,107,101,114,95,114,111,119]),
  (none, [97,114,101,95,97,115,107,101,114,95,114,111,119,115]),
  (none, [100,111,99,117,109,101,110,116,95,97,116]),
  (none, [100,111,101,115,95,102,105,116]),
  (none, [108,101,97,115,116,95,102,114,111,109]),
  (none, [108,101,97,115,116,95,102,105,116]),
  (none, [106,117,100,103,101,100]),
  (none, [105,115,95,102,114,111,109]),
  (none, [105,115,95,112,97,105,114,95,111,102,95,108,111,103]),
  (none, [105,115,95,104,111,117,115,101,95,114,111,119]),
  (none, [97,115,107,95,104,111,117,115,101,95,114,111,119]),
  (none, [108,97,115,116,95,108,105,107,101,95,116,101,114,109]),
  (none, [97,115,107,95,116,119,111,95,114,111,119,115]),
  (none, [108,101,116,115,95,104,111,117,115,101,115]),
  (none, [97,114,101,95,110,117,109,98,101,114,115]),
  (none, [105,115,95,106,117,100,103,101,109,101,110,116]),
  (none, [97,115,107,95,109,97,114,107,115]),
  (none, [108,101,116,115,95,106,117,100,103,101,100]),
  (none, [95,108,97,119,95,102,101,101,100]),
  (none, [95,108,97,119,95,100,114,97,119]),
  (none, [95,108,97,119,95,108,101,97,102]),
  (none, [108,97,119])]
def pds : List (List PV) := [[], [], [], [], [], [], [], [], [], [], [], [], [], [], [], [], [], [], [], [], [], [], [], [], [], [], [], [], [], [], [], [], [], [], [], [], [], [], [], [], [], [], [], [], [], [], [], [], [], [], [], [], [], [], [], [], [], [], [], [(.int 3)], [], [], [], [], [], [], [], [], [], [], [], [], [], [], [], [], [], [], [], [], [], [], [], [], [], [], [], [], [], [], [], [], [], [], [], [], [], [], [], [], [], [], [], [], [], [], [], [], [], [], [], [], [], [], [], [], [], [], [], [], []]
def kds : List (List (List Nat × PV)) := [[], [], [], [], [], [], [], [], [], [], [], [], [], [], [], [], [], [], [], [], [], [], [], [], [], [], [], [], [], [], [], [], [], [], [], [([117,112,116,111], .non), ([104,111,108,100,101,114], (.str []))], [], [], [], [], [], [], [], [], [], [], [], [], [], [], [], [], [], [], [], [], [], [], [], [], [], [], [], [], [], [], [], [], [], [], [], [], [], [], [], [], [], [], [], [], [], [], [], [], [], [], [], [], [], [], [([109,97,114,107], (.int 0))], [], [], [], [], [], [], [], [], [], [], [], [], [], [], [], [], [], [], [], [], [], [], [], [], [], [], [], [], [], []]
def own : List Nat := [11, 12]
def loose0 : List PySem.Str := [PySem.Str.ofString "_wall", PySem.Str.ofString "FolioError", PySem.Str.ofString "LackError", PySem.Str.ofString "NoPaper", PySem.Str.ofString "NoKey", PySem.Str.ofString "NoLead", PySem.Str.ofString "NoTurn", PySem.Str.ofString "Behind", PySem.Str.ofString "NoId", PySem.Str.ofString "NoMark", PySem.Str.ofString "NoName", PySem.Str.ofString "NoHouse", PySem.Str.ofString "LETTERS", PySem.Str.ofString "FIGURES", PySem.Str.ofString "LONGEST_WORD", PySem.Str.ofString "LONGEST_TEXT", PySem.Str.ofString "is_number", PySem.Str.ofString "is_place_number", PySem.Str.ofString "is_word", PySem.Str.ofString "is_text", PySem.Str.ofString "is_long", PySem.Str.ofString "has_head", PySem.Str.ofString "head_of", PySem.Str.ofString "is_plain", PySem.Str.ofString "is_row", PySem.Str.ofString "is_tree", PySem.Str.ofString "are_fields", PySem.Str.ofString "is_value", PySem.Str.ofString "is_document", PySem.Str.ofString "key_of"]
def loose1 : List PySem.Str := [PySem.Str.ofString "is_like", PySem.Str.ofString "fields_of", PySem.Str.ofString "fits", PySem.Str.ofString "come_by", PySem.Str.ofString "found_in", PySem.Str.ofString "MANY_WORDS", PySem.Str.ofString "is_move", PySem.Str.ofString "is_moves", PySem.Str.ofString "in_tree", PySem.Str.ofString "with_in_tree", PySem.Str.ofString "moved_out", PySem.Str.ofString "moved", PySem.Str.ofString "led", PySem.Str.ofString "view_of", PySem.Str.ofString "is_beside", PySem.Str.ofString "meets", PySem.Str.ofString "keys_found", PySem.Str.ofString "keys_of", PySem.Str.ofString "rows_through", PySem.Str.ofString "second_of", PySem.Str.ofString "ask_sound", PySem.Str.ofString "put_by_name", PySem.Str.ofString "first_thing", PySem.Str.ofString "without_name", PySem.Str.ofString "put_behind", PySem.Str.ofString "gone_behind", PySem.Str.ofString "bare_behind", PySem.Str.ofString "behind_entry", PySem.Str.ofString "let_in", PySem.Str.ofString "VOID"]
def loose2 : List PySem.Str := [PySem.Str.ofString "Member", PySem.Str.ofString "is_same", PySem.Str.ofString "same_so_far", PySem.Str.ofString "Houses", PySem.Str.ofString "is_step", PySem.Str.ofString "is_path", PySem.Str.ofString "is_test", PySem.Str.ofString "is_from_nought", PySem.Str.ofString "is_index", PySem.Str.ofString "is_entry", PySem.Str.ofString "is_asker_row", PySem.Str.ofString "are_asker_rows", PySem.Str.ofString "document_at", PySem.Str.ofString "does_fit", PySem.Str.ofString "least_from", PySem.Str.ofString "least_fit", PySem.Str.ofString "judged", PySem.Str.ofString "is_from", PySem.Str.ofString "is_pair_of_log", PySem.Str.ofString "is_house_row", PySem.Str.ofString "ask_house_row", PySem.Str.ofString "last_like_term", PySem.Str.ofString "ask_two_rows", PySem.Str.ofString "lets_houses", PySem.Str.ofString "are_numbers", PySem.Str.ofString "is_judgement", PySem.Str.ofString "ask_marks", PySem.Str.ofString "lets_judged", PySem.Str.ofString "_law_feed", PySem.Str.ofString "_law_draw"]
def loose3 : List PySem.Str := [PySem.Str.ofString "_law_leaf"]
def loose : List PySem.Str := loose0 ++ loose1 ++ loose2 ++ loose3
def lawAt : Nat := 108
def tabs : Tabs where
  fs := [([95,119,97,108,108], 0), ([105,115,95,110,117,109,98,101,114], 10), ([105,115,95,112,108,97,99,101,95,110,117,109,98,101,114], 11), ([105,115,95,119,111,114,100], 12), ([105,115,95,116,101,120,116], 13), ([105,115,95,108,111,110,103], 14), ([104,97,115,95,104,101,97,100], 15), ([104,101,97,100,95,111,102], 16), ([105,115,95,112,108,97,105,110], 17), ([105,115,95,114,111,119], 18), ([105,115,95,116,114,101,101], 19), ([97,114,101,95,102,105,101,108,100,115], 20), ([105,115,95,118,97,108,117,101], 21), ([105,115,95,100,111,99,117,109,101,110,116], 22), ([107,101,121,95,111,102], 23), ([105,115,95,108,105,107,101], 24), ([102,105,101,108,100,115,95,111,102], 25), ([102,105,116,115], 26), ([99,111,109,101,95,98,121], 27), ([102,111,117,110,100,95,105,110], 28), ([105,115,95,109,111,118,101], 29), ([105,115,95,109,111,118,101,115], 30), ([105,110,95,116,114,101,101], 31), ([119,105,116,104,95,105,110,95,116,114,101,101], 32), ([109,111,118,101,100,95,111,117,116], 33), ([109,111,118,101,100], 34), ([108,101,100], 35), ([118,105,101,119,95,111,102], 36), ([105,115,95,98,101,115,105,100,101], 37), ([109,101,101,116,115], 38), ([107,101,121,115,95,102,111,117,110,100], 39), ([107,101,121,115,95,111,102], 40), ([114,111,119,115,95,116,104,114,111,117,103,104], 41), ([115,101,99,111,110,100,95,111,102], 42), ([97,115,107,95,115,111,117,110,100], 43), ([112,117,116,95,98,121,95,110,97,109,101], 44), ([102,105,114,115,116,95,116,104,105,110,103], 45), ([119,105,116,104,111,117,116,95,110,97,109,101], 46), ([112,117,116,95,98,101,104,105,110,100], 47), ([103,111,110,101,95,98,101,104,105,110,100], 48), ([98,97,114,101,95,98,101,104,105,110,100], 49), ([98,101,104,105,110,100,95,101,110,116,114,121], 50), ([108,101,116,95,105,110], 51), ([105,115,95,115,97,109,101], 57), ([115,97,109,101,95,115,111,95,102,97,114], 58), ([105,115,95,115,116,101,112], 93), ([105,115,95,112,97,116,104], 94), ([105,115,95,116,101,115,116], 95), ([105,115,95,102,114,111,109,95,110,111,117,103,104,116], 96), ([105,115,95,105,110,100,101,120], 97), ([105,115,95,101,110,116,114,121], 98), ([105,115,95,97,115,107,101,114,95,114,111,119], 99), ([97,114,101,95,97,115,107,101,114,95,114,111,119,115], 100), ([100,111,99,117,109,101,110,116,95,97,116], 101), ([100,111,101,115,95,102,105,116], 102), ([108,101,97,115,116,95,102,114,111,109], 103), ([108,101,97,115,116,95,102,105,116], 104), ([106,117,100,103,101,100], 105), ([105,115,95,102,114,111,109], 106), ([105,115,95,112,97,105,114,95,111,102,95,108,111,103], 107), ([105,115,95,104,111,117,115,101,95,114,111,119], 108), ([97,115,107,95,104,111,117,115,101,95,114,111,119], 109), ([108,97,115,116,95,108,105,107,101,95,116,101,114,109], 110), ([97,115,107,95,116,119,111,95,114,111,119,115], 111), ([108,101,116,115,95,104,111,117,115,101,115], 112), ([97,114,101,95,110,117,109,98,101,114,115], 113), ([105,115,95,106,117,100,103,101,109,101,110,116], 114), ([97,115,107,95,109,97,114,107,115], 115), ([108,101,116,115,95,106,117,100,103,101,100], 116), ([95,108,97,119,95,102,101,101,100], 117), ([95,108,97,119,95,100,114,97,119], 118), ([95,108,97,119,95,108,101,97,102], 119), ([108,97,119], 120)]
  cs := [([77,101,109,98,101,114], 11), ([72,111,117,115,101,115], 12)]
  vs := [([76,69,84,84,69,82,83], (.str [97,98,99,100,101,102,103,104,105,106,107,108,109,110,111,112,113,114,115,116,117,118,119,120,121,122])), ([70,73,71,85,82,69,83], (.str [48,49,50,51,52,53,54,55,56,57])), ([76,79,78,71,69,83,84,95,87,79,82,68], (.int 8)), ([76,79,78,71,69,83,84,95,84,69,88,84], (.int 16)), ([86,79,73,68], (.tup [(.tup []), (.tup []), (.tup [])]))]
  bs := [[97,108,108], [97,110,121], [98,111,111,108], [100,105,99,116], [101,110,117,109,101,114,97,116,101], [105,110,116], [105,115,105,110,115,116,97,110,99,101], [108,101,110], [108,105,115,116], [109,97,120], [109,105,110], [114,97,110,103,101], [114,101,112,114], [115,101,116], [115,111,114,116,101,100], [115,116,114], [115,117,109], [116,117,112,108,101], [122,105,112]]
  ats := [[117,112,95,110,111,119], [116,101,114,109], [118,111,116,101], [112,97,105,114,115], [115,116,97,110,100,105,110,103,95,110,111,119], [100,111,110,101,95,115,111,95,102,97,114], [108,101,97,100,105,110,103], [104,101,108,100], [109,101,109,98,101,114,115], [112,97,114,116,101,100,95,112,97,105,114,115]]
def cls : List Cl := [{ nm := [70,111,108,105,111,69,114,114,111,114], mro := [0, 13], ms := [], fields := [] },
  { nm := [76,97,99,107,69,114,114,111,114], mro := [1, 14], ms := [], fields := [] },
  { nm := [78,111,80,97,112,101,114], mro := [2, 0, 13], ms := [([95,95,105,110,105,116,95,95], 1)], fields := [[119,111,114,100], [97,116]] },
  { nm := [78,111,75,101,121], mro := [3, 0, 13], ms := [([95,95,105,110,105,116,95,95], 2)], fields := [[110,97,109,101], [104,111,108,100,101,114]] },
  { nm := [78,111,76,101,97,100], mro := [4, 0, 13], ms := [([95,95,105,110,105,116,95,95], 3)], fields := [[104,111,108,100,101,114], [101,100,105,116,105,111,110]] },
  { nm := [78,111,84,117,114,110], mro := [5, 0, 13], ms := [([95,95,105,110,105,116,95,95], 4)], fields := [[119,111,114,100]] },
  { nm := [66,101,104,105,110,100], mro := [6, 0, 13], ms := [([95,95,105,110,105,116,95,95], 5)], fields := [[109,97,114,107]] },
  { nm := [78,111,73,100], mro := [7, 1, 14], ms := [([95,95,105,110,105,116,95,95], 6)], fields := [[104,111,108,100,101,114]] },
  { nm := [78,111,77,97,114,107], mro := [8, 1, 14], ms := [([95,95,105,110,105,116,95,95], 7)], fields := [[109,97,114,107]] },
  { nm := [78,111,78,97,109,101], mro := [9, 1, 14], ms := [([95,95,105,110,105,116,95,95], 8)], fields := [[110,97,109,101]] },
  { nm := [78,111,72,111,117,115,101], mro := [10, 1, 14], ms := [([95,95,105,110,105,116,95,95], 9)], fields := [[104,111,117,115,101]] },
  { nm := [77,101,109,98,101,114], mro := [11], ms := [([95,95,105,110,105,116,95,95], 52), ([99,111,109,101,95,105,110,116,111], 53), ([108,97,115,116,95,112,97,105,114], 54), ([97,108,108,95,111,102,95,105,116], 55), ([114,111,119,95,111,102,95,112,97,112,101,114], 56)], fields := [] },
  { nm := [72,111,117,115,101,115], mro := [12], ms := [([95,95,105,110,105,116,95,95], 59), ([95,95,108,101,110,95,95], 60), ([95,95,115,116,114,95,95], 61), ([95,95,101,113,95,95], 62), ([100,111,110,101,95,112,97,105,114,115], 63), ([97,108,108,95,111,102,95,116,104,101,109], 64), ([109,101,109,98,101,114,95,111,102], 65), ([116,119,111,95,111,102], 66), ([105,115,95,117,112], 67), ([100,111,101,115,95,108,101,97,100], 68), ([116,101,114,109,95,111,102], 69), ([118,111,116,101,95,111,102], 70), ([108,111,103,95,111,102], 71), ([100,111,110,101,95,111,102], 72), ([105,115,95,108,105,110,107,101,100], 73), ([108,101,97,100,101,114,115], 74), ([110,101,105,103,104,98,111,117,114,115], 75), ([97,114,101,95,109,111,115,116], 76), ([97,115,107,95,117,112], 77), ([97,115,107,95,108,101,97,100,115], 78), ([97,115,107,95,117,110,108,105,107,101], 79), ([115,116,97,110,100], 80), ([100,105,100,95,118,111,116,101], 81), ([119,114,105,116,101], 82), ([115,101,110,100], 83), ([99,111,117,110,116,95,100,111,110,101], 84), ([102,97,108,108], 85), ([114,105,115,101], 86), ([112,97,114,116], 87), ([109,101,101,116], 88), ([104,105,115,116,111,114,121,95,111,102], 89), ([114,101,97,100], 90), ([108,97,116,101,115,116], 91), ([112,97,112,101,114], 92)], fields := [] }]
def prog : Prog := ⟨fns, cls⟩
def law : Nat := 120
end P72
end
section
set_option Elab.async false
set_option linter.all false
set_option maxRecDepth 100000
set_option maxHeartbeats 0
namespace Pf
open PySem
structure Df where
  name : Str
  args : Arguments
  body : List Stmt
  sc : PySem.Scope
def dfOf : Stmt → Option Df
  | .FunctionDef n a b _ _ _ s _ _ _ => some ⟨n, a, b, s⟩
  | _ => none
def clOf : Stmt → List Stmt
  | .ClassDef _ _ _ b _ _ _ _ _ _ _ => b
  | _ => []
def dfAt (p : PySem.Program) (l : Nat × Option Nat) : Option Df := match p.main.body[l.1]? with
  | none => none
  | some st => match l.2 with
    | none => dfOf st
    | some i => match (clOf st)[i]? with
      | some s => dfOf s
      | none => none
def pvDv : PV → He.Dv
  | .bl b => .bl b
  | .int i => .int i
  | .str s => .str (sv s)
  | _ => .non
def mkD (p : PySem.Program) (l : Nat × Option Nat) (q : Option (List Nat) × List Nat) (pd : List PV) (kd : List (List Nat × PV)) : He.DefD := match dfAt p l with
  | some d => ⟨(match q.1 with
    | none => (d.name, none)
    | some c => (sv c, some d.name)), d.name, sv q.2, d.args, d.body, d.sc, pd.map pvDv, kd.map fun z => (sv z.1, pvDv z.2)⟩
  | none => ⟨(sv [], none), sv [], sv [], ⟨[], [], none, [], [], none, []⟩, [], ⟨.function, [], false, false, []⟩, [], []⟩
def mkDs (p : PySem.Program) : List (Nat × Option Nat) → List (Option (List Nat) × List Nat) → List (List PV) → List (List (List Nat × PV)) → List He.DefD
  | l :: ls, q :: qs, pd :: pds, kd :: kds => mkD p l q pd kd :: mkDs p ls qs pds kds
  | _, _, _, _ => []
end Pf
namespace P72
open PySem Pf
abbrev L := PySem.Challenge.rw_pathfolios_k72_by_their_names
abbrev R : PySem.W.OpenRow := PySem.W.OpenLaw.row L
def ds : List He.DefD := mkDs PySem.Challenge.pw_pathfolios_k72_by_their_names locs quals pds kds
def txt : Txt := ⟨prog, tabs, ds, pds, kds, nls, own⟩
theorem stat : statB txt = true := by decide +kernel
end P72
end
section
set_option Elab.async false
set_option linter.all false
set_option maxRecDepth 100000
set_option maxHeartbeats 0
namespace P72
open PySem PySem.W PySem.Calls PyProof.Rows Pf
abbrev qv : Program := view R.prog [lawAt]
def adrs : List Addr := [3, 530, 531, 778, 779, 541, 542, 548, 549, 21, 31, 44, 64, 83, 102, 121, 140, 159, 178, 197, 216, 225, 232, 237, 242, 249, 256, 263, 270, 277, 284, 289, 294, 301, 308, 313, 320, 327, 332, 337, 343, 348, 355, 360, 367, 374, 382, 387, 394, 399, 404, 411, 416, 423, 430, 435, 442, 447, 454, 461, 468, 475, 482, 486, 790, 795, 800, 807, 814, 821, 828, 833, 840, 847, 854, 861, 868, 875, 882, 887, 894, 899, 906, 911, 916, 923, 930, 937, 944, 951, 958, 965, 20, 63, 82, 101, 120, 139, 158, 177, 196, 215, 224, 231, 236, 241, 248, 255, 262, 269, 276, 283, 288, 293, 300, 307, 312, 319, 326, 331, 336, 342, 347, 354, 359, 366, 373, 381, 375, 386, 393, 398, 403, 410, 415, 422, 429, 434, 441, 446, 453, 460, 467, 474, 481, 483, 484, 485, 789, 794, 799, 806, 813, 820, 827, 832, 839, 846, 853, 860, 867, 874, 881, 886, 893, 898, 905, 910, 915, 922, 929, 936, 943, 950, 957, 964, 61, 80, 99, 118, 137, 156, 175, 194, 213, 500, 507, 514, 521, 528, 562, 569, 574, 581, 588, 593, 600, 607, 614, 621, 628, 635, 642, 649, 656, 663, 668, 675, 682, 689, 696, 701, 708, 715, 720, 725, 732, 739, 746, 753, 758, 766, 771, 776, 60, 79, 98, 117, 136, 155, 174, 193, 212, 499, 506, 513, 520, 527, 561, 557, 568, 573, 580, 587, 592, 599, 606, 613, 620, 627, 634, 641, 648, 655, 662, 667, 674, 681, 688, 695, 700, 707, 714, 719, 724, 731, 738, 745, 752, 757, 765, 759, 770, 775]
def ob (s : SharedT) : He.AlD := obsPG adrs txt (HandSHeadRun.getT s)
theorem ob_eq (s : SharedT) : ob s = (hookP adrs txt).obs s.abs := obsPG_eq (HandSHeadRun.getT_eq s)
open HandSHeadRun
def okR (x : Txt) (K : W.Frag) : Bool :=
  x.T.fs.all (fun q => He.eqO (W.nsIn K mainGlobals (sv q.1)) (some (some (.ref (fAdr x K q.2)))) && W.keepIn K (.ref (fAdr x K q.2))) &&
    (x.T.cs.all (fun q => He.eqO (W.nsIn K mainGlobals (sv q.1)) (some (some (.ref (cAd x K q.2)))) && (x.own.any (Nat.beq q.2) && Nat.blt q.2 x.prog.cls.length)) && (x.T.vs.all (vlOk K) && (x.T.bs.all (fun l => He.eqO (W.nsIn K mainGlobals (sv l)) (some none)) &&
      (x.own.all (clsB x K) && (K.all (fun p => !decide (p.2.cls = .type "list")) &&
        (He.eqO (W.specialIn K (.builtin "object.__class__") (Str.ofString "__get__")) (some (some (.builtin "getset_descriptor.__get__"))) && (optB (W.takesIn K (.builtin "object.__class__")) (some true) &&
          nmBs.all fun T => (List.range x.prog.cls.length).all fun d => optB (W.kitOne K (.type T) (.ref (cAd x K d))) (some false))))))))
theorem okB_cut (n : Nat) (x : Txt) (K : W.Frag) : okB x K = ((x.D.take n).all (fun d => d.ok K) && ((x.D.drop n).all (fun d => d.ok K) && okR x K)) := by
  show (x.D.all (fun d => d.ok K) && okR x K) = _
  rw [← Bool.and_assoc, ← List.all_append, List.take_append_drop]
def obB (s : SharedT) : List He.FnW := bareK (He.frG (getT s) adrs) fun K => txt.D.map fun d => He.fnW K d.at_
def ob1 (s : SharedT) : Bool := bareK (He.frG (getT s) adrs) fun K => (txt.D.take 60).all fun d => d.ok K
def ob2 (s : SharedT) : Bool := bareK (He.frG (getT s) adrs) fun K => (txt.D.drop 60).all (fun d => d.ok K) && okR txt K
noncomputable def runs (b : Bool) (w : World) (os : OsState) : Option SharedT := endF (stepQ (denQ tabQ) R.prog (w.withFollow "special-get-raises" b)) 8000 R.prog (w.withFollow "special-get-raises" b) os
noncomputable def lks (b : Bool) (w : World) (s : SharedT) := (looksF R.prog (boot_heap (w.withFollow "special-get-raises" b).params) s.abs, HandSHeadRun.seenQ qv loose (importedModules R.prog.main.body) (fun s => xlAt qv [] s && recOk R.toRowW.records s) s.abs)
theorem runEq3 {b : Bool} {w : World} (h1 : ∀ os, (runs b w os).map (fun s => (lks b w s, obB s)) = some ((true, openGood qv loose), txt.D.map He.DefD.val)) (h2 : ∀ os, (runs b w os).map ob1 = some true) (h3 : ∀ os, (runs b w os).map ob2 = some true) :
    RunEq R qv (hookP adrs txt) ob 8000 loose (w.withFollow "special-get-raises" b) := fun os => by
  have a1 := h1 os
  have a2 := h2 os
  have a3 := h3 os
  show (runs b w os).map (fun s => ((lks b w s).1, (lks b w s).2, ob s)) = some (true, openGood qv loose, valP txt)
  cases e : runs b w os with
  | none => rw [e] at a1; cases a1
  | some s =>
    rw [e] at a1 a2 a3
    have a1 := Option.some.inj a1
    have a2 : ob1 s = true := Option.some.inj a2
    have a3 : ob2 s = true := Option.some.inj a3
    obtain ⟨q1, q2⟩ := Prod.mk.inj a1
    have eo : ob s = valP txt := by
      unfold ob obsPG
      rw [bareK_eq]
      unfold ob1 at a2
      unfold ob2 at a3
      unfold obB at q2
      rw [bareK_eq] at a2 a3 q2
      unfold obsP valP
      rw [q2, okB_cut 60, a2, a3]
      rfl
    show some ((lks b w s).1, (lks b w s).2, ob s) = _
    rw [q1, eo]
theorem a0 (w : World) (os : OsState) : (runs false w os).map (fun s => (lks false w s, obB s)) = some ((true, openGood qv loose), txt.D.map He.DefD.val) := by kernel_rfl
theorem b0 (w : World) (os : OsState) : (runs false w os).map ob1 = some true := by kernel_rfl
theorem c0 (w : World) (os : OsState) : (runs false w os).map ob2 = some true := by kernel_rfl
theorem run0 (w : World) : RunEq R qv (hookP adrs txt) ob 8000 loose (w.withFollow "special-get-raises" false) := runEq3 (a0 w) (b0 w) (c0 w)
end P72
end
section
set_option Elab.async false
set_option linter.all false
set_option maxRecDepth 100000
set_option maxHeartbeats 0
namespace P72
open PySem PySem.W PySem.Calls PyProof.Rows Pf HandSHeadRun
theorem a1 (w : World) (os : OsState) : (runs true w os).map (fun s => (lks true w s, obB s)) = some ((true, openGood qv loose), txt.D.map He.DefD.val) := by kernel_rfl
theorem b1 (w : World) (os : OsState) : (runs true w os).map ob1 = some true := by kernel_rfl
theorem c1 (w : World) (os : OsState) : (runs true w os).map ob2 = some true := by kernel_rfl
theorem run1 (w : World) : RunEq R qv (hookP adrs txt) ob 8000 loose (w.withFollow "special-get-raises" true) := runEq3 (a1 w) (b1 w) (c1 w)
end P72
end
section
set_option Elab.async false
set_option linter.all false
set_option maxRecDepth 1000000
set_option maxHeartbeats 0
namespace P72
open PySem Pf
def intz (cs : List Int) : List PV := cs.map PV.int
def kC : List Nat := [99,101,108,108,115]
def kN : List Nat := [110,101,120,116]
def kL : List Nat := [108,101,102,116]
def kD : List Nat := [100,114,97,119,115]
def fdO (cs : List Int) (nx lf dr : Int) : PO := .dic [(.str kC, .lst (intz cs)), (.str kN, .int nx), (.str kL, .int lf), (.str kD, .int dr)]
def nthS : CB → Nat → CS
  | .nil, _ => .stuck
  | .cons s _, 0 => s
  | .cons _ b, i + 1 => nthS b i
def drB : CB → Nat → CB
  | b, 0 => b
  | .nil, _ => .nil
  | .cons _ b, i + 1 => drB b i
theorem evB_cut {prog : Prog} {o : Orc} {h : Option Exn} {env env' : Pf.Env} {s : CS} {b : CB} {M M' : Sto} (e : evS prog o h env s M = .ok (.nx env') M') : evB prog o h env (.cons s b) M = evB prog o h env' b M' := by
  show (evS prog o h env s M).bind _ = _
  rw [e]; rfl
theorem evB_rt {prog : Prog} {o : Orc} {h : Option Exn} {env : Pf.Env} {s : CS} {b : CB} {M M' : Sto} {v : PV} (e : evS prog o h env s M = .ok (.rt v) M') : evB prog o h env (.cons s b) M = .ok (.rt v) M' := by
  show (evS prog o h env s M).bind _ = _
  rw [e]; rfl
theorem mapO_intz (M : Sto) (f : Nat) : ∀ cs : List Int, mapO (snap M (f + 1)) (intz cs) = some (intz cs)
  | [] => rfl
  | c :: cs => by
    show (mapO (snap M (f + 1)) (intz cs)).map (PV.int c :: ·) = _
    rw [mapO_intz M f cs]; rfl
theorem snap_intz (M : Sto) (f : Nat) (cs : List Int) : snap M (f + 2) (.lst (intz cs)) = some (.lst (intz cs)) := by
  show (mapO (snap M (f + 1)) (intz cs)).map PV.lst = _
  rw [mapO_intz]; rfl
theorem okL_intz (d : Nat) : ∀ cs : List Int, okL d (intz cs) = true
  | [] => rfl
  | c :: cs => okL_intz d cs
theorem ne_nil (prog : Prog) (o : Orc) (M : Sto) (cs : List Int) : cmpR prog o .ne (.lst (intz cs)) (.lst []) M = .ok (.bl (!cs.isEmpty)) M := by
  show (match snap M 62 (.lst (intz cs)), snap M 62 (.lst []) with
    | some a, some b => ofO "!=" ((eqD a b).map fun c => PV.bl (!c)) M
    | _, _ => .no "!=") = _
  rw [snap_intz]
  show ofO "!=" ((match false || (okL 59 (intz cs) && true) with
    | true => some (eqL (intz cs) [])
    | false => none).map fun c => PV.bl (!c)) M = _
  rw [okL_intz]
  cases cs <;> rfl
def sz (s : Nat) : PV := .int s
abbrev MM (cs : List Int) (nx lf dr : Int) (T : Sto) : Sto := .any :: fdO cs nx lf dr :: T
abbrev bd (i : Nat) : CB := drB f118.body i
theorem mod_pos (i : Int) (n : Nat) (M : Sto) : opRs .mod (.int i) (.int ((n + 1 : Nat) : Int)) M = .ok (.int (i % ((n + 1 : Nat) : Int))) M := by
  show ofO "operator" (match decide (0 < ((n + 1 : Nat) : Int)) with
    | true => some (PV.int (i % ((n + 1 : Nat) : Int)))
    | false => none) M = _
  rw [decide_eq_true (by omega)]; rfl
theorem pow5 (x : Int) (M : Sto) (h : x.natAbs < 2 ^ 64) : opRs .pow (.int x) (.int 5) M = .ok (.int (x ^ 5)) M := by
  show ofO "operator" (match (decide ((0 : Int) ≤ 5) && decide ((5 : Int) ≤ 1000)) && decide (x.natAbs < 2 ^ 64) with
    | true => some (PV.int (x ^ (5 : Int).toNat))
    | false => none) M = _
  rw [decide_eq_true h]; rfl
theorem idx_intz (M : Sto) : ∀ (cs : List Int) (j : Int), 0 ≤ j → j < cs.length → ∃ g, ixR (.lst (intz cs)) (.int j) M = .ok (.int g) M := by
  intro cs j h1 h2
  have hl : (intz cs).length = cs.length := List.length_map ..
  have hj : j.toNat < (intz cs).length := by omega
  refine ⟨cs[j.toNat]'(by omega), ?_⟩
  show ofO "index" (((match decide (0 ≤ j) with
    | true => match Nat.blt j.toNat (intz cs).length with
      | true => some j.toNat
      | false => none
    | false => match decide (0 ≤ j + (intz cs).length) with
      | true => some (j + (intz cs).length).toNat
      | false => none) : Option Nat).bind fun k => (intz cs)[k]?) M = _
  rw [decide_eq_true h1]
  have : Nat.blt j.toNat (intz cs).length = true := Nat.ble_eq_true_of_le hj
  rw [show (match true with
    | true => match Nat.blt j.toNat (intz cs).length with
      | true => some j.toNat
      | false => none
    | false => match decide (0 ≤ j + (intz cs).length) with
      | true => some (j + (intz cs).length).toNat
      | false => none : Option Nat) = some j.toNat by rw [this]]
  show ofO "index" ((intz cs)[j.toNat]?) M = _
  have : (intz cs)[j.toNat]? = some (.int (cs[j.toNat]'(by omega))) := by
    show (cs.map PV.int)[j.toNat]? = _
    rw [List.getElem?_map, List.getElem?_eq_getElem (by omega)]; rfl
  rw [this]; rfl
theorem mod_s {i s : Int} {M : Sto} (h : 0 < s) : opRs .mod (.int i) (.int s) M = .ok (.int (i % s)) M := by
  show ofO "operator" (match decide (0 < s) with
    | true => some (PV.int (i % s))
    | false => none) M = _
  rw [decide_eq_true h]; rfl
theorem fdiv_s {i s : Int} {M : Sto} (h : 0 < s) (h2 : s < 1073741824) : opRs .fdiv (.int i) (.int s) M = .ok (.int (i / s)) M := by
  show ofO "operator" (match decide (0 < s) && decide (s < 1073741824) with
    | true => some (PV.int (i / s))
    | false => none) M = _
  rw [decide_eq_true h, decide_eq_true h2]; rfl
theorem mul_a {a b : Int} {M : Sto} (h : -(2 ^ 64) < a ∧ a < 2 ^ 64) : opRs .mul (.int a) (.int b) M = .ok (.int (a * b)) M := by
  show ofO "operator" (match (decide (-(2 ^ 64) < a) && decide (a < 2 ^ 64)) || (decide (-(2 ^ 64) < b) && decide (b < 2 ^ 64)) with
    | true => some (PV.int (a * b))
    | false => none) M = _
  rw [decide_eq_true h.1, decide_eq_true h.2]; rfl
def thenB : CS → CB
  | .ite _ a _ => a
  | _ => .nil
abbrev E7 (s : Int) (a b c d e : Option PV) : Pf.Env := [some (.loc 1), some (.int s), a, b, c, d, e]
section
variable {o : Orc} {s : Int} {cs : List Int} {nx lf dr : Int} {T : Sto} {a b c d e : Option PV}
theorem st0 : evS prog o none (E7 s a b c d e) (nthS f118.body 0) (MM cs nx lf dr T) = .ok (.nx (E7 s (some (.int (dr + 1))) b c d e)) (MM cs nx lf dr T) := by kernel_rfl
theorem st1 {x : Int} : evS prog o none (E7 s (some (.int x)) b c d e) (nthS f118.body 1) (MM cs nx lf dr T) = .ok (.nx (E7 s (some (.int x)) b c d e)) (MM cs nx lf x T) := by kernel_rfl
theorem st2 : evS prog o none (E7 s a b c d e) (nthS f118.body 2) (MM cs nx lf dr T) = (match decide (0 < lf) with
    | true => evB prog o none (E7 s a b c d e) (thenB (nthS f118.body 2)) (MM cs nx lf dr T)
    | false => .ok (.nx (E7 s a b c d e)) (MM cs nx lf dr T)) := by
  have q : evS prog o none (E7 s a b c d e) (nthS f118.body 2) (MM cs nx lf dr T) = ((cmpR prog o .gt (.int lf) (.int 0) (MM cs nx lf dr T)).bind tstR).bind fun t M => match t with
      | true => evB prog o none (E7 s a b c d e) (thenB (nthS f118.body 2)) M
      | false => evB prog o none (E7 s a b c d e) .nil M := by kernel_rfl
  rw [q, show cmpR prog o .gt (.int lf) (.int 0) (MM cs nx lf dr T) = .ok (.bl (decide (0 < lf))) (MM cs nx lf dr T) from rfl]
  cases decide (0 < lf) <;> rfl
theorem tb2 (h1 : 0 < s) (h2 : s < 1073741824) : evB prog o none (E7 s a b c d e) (thenB (nthS f118.body 2)) (MM cs nx lf dr T) = .ok (.rt (.int (lf % s))) (MM cs nx (lf / s) dr T) := by
  have q1 : evS prog o none (E7 s a b c d e) (nthS (thenB (nthS f118.body 2)) 0) (MM cs nx lf dr T) = (opRs .mod (.int lf) (.int s) (MM cs nx lf dr T)).bind fun x M => (evT prog o (E7 s a b c d e) (.v 3) x M).bind fun env M => .ok (.nx env) M := by kernel_rfl
  rw [mod_s h1] at q1
  have q2 : evS prog o none (E7 s a (some (.int (lf % s))) c d e) (nthS (thenB (nthS f118.body 2)) 1) (MM cs nx lf dr T) = (opRs .fdiv (.int lf) (.int s) (MM cs nx lf dr T)).bind fun x M => (evT prog o (E7 s a (some (.int (lf % s))) c d e) (.idx (.v 0) (.cst (.str kL))) x M).bind fun env M => .ok (.nx env) M := by kernel_rfl
  rw [fdiv_s h1 h2] at q2
  have q2 : evS prog o none (E7 s a (some (.int (lf % s))) c d e) (nthS (thenB (nthS f118.body 2)) 1) (MM cs nx lf dr T) = .ok (.nx (E7 s a (some (.int (lf % s))) c d e)) (MM cs nx (lf / s) dr T) := by rw [q2]; kernel_rfl
  have q3 : evS prog o none (E7 s a (some (.int (lf % s))) c d e) (nthS (thenB (nthS f118.body 2)) 2) (MM cs nx (lf / s) dr T) = .ok (.rt (.int (lf % s))) (MM cs nx (lf / s) dr T) := by kernel_rfl
  exact (evB_cut q1).trans ((evB_cut q2).trans (evB_rt q3))
theorem st3 : evS prog o none (E7 s a b c d e) (nthS f118.body 3) (MM cs nx lf dr T) = .ok (.nx (E7 s a b (some (.int nx)) d e)) (MM cs nx lf dr T) := by kernel_rfl
theorem st4 {x : Int} : evS prog o none (E7 s a b (some (.int x)) d e) (nthS f118.body 4) (MM cs nx lf dr T) = .ok (.nx (E7 s a b (some (.int x)) d e)) (MM cs (x + 1) lf dr T) := by kernel_rfl
theorem st5 : evS prog o none (E7 s a b c d e) (nthS f118.body 5) (MM cs nx lf dr T) = .ok (.nx (E7 s a b c (some (.int 0)) e)) (MM cs nx lf dr T) := by kernel_rfl
theorem st6 {k : Int} (hk : 0 ≤ k) : ∃ g, evS prog o none (E7 s a b (some (.int k)) (some (.int 0)) e) (nthS f118.body 6) (MM cs nx lf dr T) = .ok (.nx (E7 s a b (some (.int k)) (some (.int g)) e)) (MM cs nx lf dr T) := by
  have q : evS prog o none (E7 s a b (some (.int k)) (some (.int 0)) e) (nthS f118.body 6) (MM cs nx lf dr T) = (cmpR prog o .ne (.lst (intz cs)) (.lst []) (MM cs nx lf dr T)).bind fun x M => (tstR x M).bind fun t M => match t with
      | true => evB prog o none (E7 s a b (some (.int k)) (some (.int 0)) e) (thenB (nthS f118.body 6)) M
      | false => evB prog o none (E7 s a b (some (.int k)) (some (.int 0)) e) .nil M := by kernel_rfl
  rw [ne_nil] at q
  cases cs with
  | nil => exact ⟨0, q⟩
  | cons c0 cs =>
    have q2 : evS prog o none (E7 s a b (some (.int k)) (some (.int 0)) e) (nthS (thenB (nthS f118.body 6)) 0) (MM (c0 :: cs) nx lf dr T) = ((opRs .mod (.int k) (.int (((intz cs).length + 1 : Nat) : Int)) (MM (c0 :: cs) nx lf dr T)).bind fun j M => ixR (.lst (intz (c0 :: cs))) j M).bind fun x M =>
        (evT prog o (E7 s a b (some (.int k)) (some (.int 0)) e) (.v 5) x M).bind fun env M => .ok (.nx env) M := by kernel_rfl
    rw [mod_pos] at q2
    have hlen : (intz cs).length = cs.length := List.length_map ..
    have e1 : 0 ≤ k % (((intz cs).length + 1 : Nat) : Int) := Int.emod_nonneg _ (by omega)
    have e2 : k % (((intz cs).length + 1 : Nat) : Int) < ((c0 :: cs).length : Int) := by
      have := Int.emod_lt_of_pos k (b := (((intz cs).length + 1 : Nat) : Int)) (by omega)
      rw [List.length_cons]
      omega
    obtain ⟨g, hg⟩ := idx_intz (MM (c0 :: cs) nx lf dr T) (c0 :: cs) _ e1 e2
    have q3 : evS prog o none (E7 s a b (some (.int k)) (some (.int 0)) e) (nthS (thenB (nthS f118.body 6)) 0) (MM (c0 :: cs) nx lf dr T) = .ok (.nx (E7 s a b (some (.int k)) (some (.int g)) e)) (MM (c0 :: cs) nx lf dr T) := by
      rw [q2]
      show (Rs.bind (ixR (.lst (intz (c0 :: cs))) (.int (k % (((intz cs).length + 1 : Nat) : Int))) (MM (c0 :: cs) nx lf dr T)) _) = _
      rw [hg]; rfl
    exact ⟨g, q.trans (evB_cut q3)⟩
theorem st7 {k g : Int} (h1 : 0 < s) (h2 : s < 1073741824) : evS prog o none (E7 s a b (some (.int k)) (some (.int g)) e) (nthS f118.body 7) (MM cs nx lf dr T) = .ok (.rt (.int (g % s))) (MM cs nx (g / s) dr T) ∨
    evS prog o none (E7 s a b (some (.int k)) (some (.int g)) e) (nthS f118.body 7) (MM cs nx lf dr T) = .ok (.nx (E7 s a b (some (.int k)) (some (.int g)) e)) (MM cs nx lf dr T) := by
  have q : evS prog o none (E7 s a b (some (.int k)) (some (.int g)) e) (nthS f118.body 7) (MM cs nx lf dr T) = ((cmpR prog o .ge (.int g) (.int 1000000000000000000) (MM cs nx lf dr T)).bind fun x M => (tstR x M).bind fun t M => match t with
        | true => cmpR prog o .lt (.int k) (.int ((intz cs).length : Int)) M
        | false => .ok x M).bind fun x M => (tstR x M).bind fun t M => match t with
      | true => evB prog o none (E7 s a b (some (.int k)) (some (.int g)) e) (thenB (nthS f118.body 7)) M
      | false => evB prog o none (E7 s a b (some (.int k)) (some (.int g)) e) .nil M := by kernel_rfl
  have tb : evB prog o none (E7 s a b (some (.int k)) (some (.int g)) e) (thenB (nthS f118.body 7)) (MM cs nx lf dr T) = .ok (.rt (.int (g % s))) (MM cs nx (g / s) dr T) := by
    have q1 : evS prog o none (E7 s a b (some (.int k)) (some (.int g)) e) (nthS (thenB (nthS f118.body 7)) 0) (MM cs nx lf dr T) = (opRs .fdiv (.int g) (.int s) (MM cs nx lf dr T)).bind fun x M => (evT prog o (E7 s a b (some (.int k)) (some (.int g)) e) (.idx (.v 0) (.cst (.str kL))) x M).bind fun env M => .ok (.nx env) M := by kernel_rfl
    rw [fdiv_s h1 h2] at q1
    have q1 : evS prog o none (E7 s a b (some (.int k)) (some (.int g)) e) (nthS (thenB (nthS f118.body 7)) 0) (MM cs nx lf dr T) = .ok (.nx (E7 s a b (some (.int k)) (some (.int g)) e)) (MM cs nx (g / s) dr T) := by rw [q1]; kernel_rfl
    have q2 : evS prog o none (E7 s a b (some (.int k)) (some (.int g)) e) (nthS (thenB (nthS f118.body 7)) 1) (MM cs nx (g / s) dr T) = (opRs .mod (.int g) (.int s) (MM cs nx (g / s) dr T)).bind fun x M => .ok (.rt x) M := by kernel_rfl
    rw [mod_s h1] at q2
    exact (evB_cut q1).trans (evB_rt q2)
  rw [show cmpR prog o .ge (.int g) (.int 1000000000000000000) (MM cs nx lf dr T) = .ok (.bl (decide (1000000000000000000 ≤ g))) (MM cs nx lf dr T) from rfl] at q
  cases h : decide ((1000000000000000000 : Int) ≤ g) with
  | false =>
    rw [h] at q
    exact .inr q
  | true =>
    rw [h] at q
    have q : evS prog o none (E7 s a b (some (.int k)) (some (.int g)) e) (nthS f118.body 7) (MM cs nx lf dr T) = (cmpR prog o .lt (.int k) (.int ((intz cs).length : Int)) (MM cs nx lf dr T)).bind fun x M => (tstR x M).bind fun t M => match t with
      | true => evB prog o none (E7 s a b (some (.int k)) (some (.int g)) e) (thenB (nthS f118.body 7)) M
      | false => evB prog o none (E7 s a b (some (.int k)) (some (.int g)) e) .nil M := q
    rw [show cmpR prog o .lt (.int k) (.int ((intz cs).length : Int)) (MM cs nx lf dr T) = .ok (.bl (decide (k < ((intz cs).length : Int)))) (MM cs nx lf dr T) from rfl] at q
    cases h' : decide (k < ((intz cs).length : Int)) with
    | false =>
      rw [h'] at q
      exact .inr q
    | true =>
      rw [h'] at q
      exact .inl (q.trans tb)
theorem st8 {g x : Int} (hx : 0 ≤ x ∧ x ≤ 200) : ∃ m, 0 ≤ m ∧ m < 2147483647 ∧ evS prog o none (E7 s (some (.int x)) b c (some (.int g)) e) (nthS f118.body 8) (MM cs nx lf dr T) = .ok (.nx (E7 s (some (.int x)) b c (some (.int g)) (some (.int m)))) (MM cs nx lf dr T) := by
  have q : evS prog o none (E7 s (some (.int x)) b c (some (.int g)) e) (nthS f118.body 8) (MM cs nx lf dr T) = ((opRs .pow (.int (g % 2147483629 + 7919 * x + 1)) (.int 5) (MM cs nx lf dr T)).bind (fun y M => opRs .mod y (.int 2147483647) M)).bind fun z M => (evT prog o (E7 s (some (.int x)) b c (some (.int g)) e) (.v 6) z M).bind fun env M => .ok (.nx env) M := by kernel_rfl
  have b1 := Int.emod_nonneg g (b := 2147483629) (by omega)
  have b2 := Int.emod_lt_of_pos g (b := 2147483629) (by omega)
  rw [pow5 _ _ (by omega)] at q
  exact ⟨(g % 2147483629 + 7919 * x + 1) ^ 5 % 2147483647, Int.emod_nonneg _ (by omega), Int.emod_lt_of_pos _ (by omega), q⟩
theorem st9 {m x : Int} (hx : 0 ≤ x ∧ x ≤ 200) (hm : 0 ≤ m ∧ m < 2147483647) : ∃ m', evS prog o none (E7 s (some (.int x)) b c d (some (.int m))) (nthS f118.body 9) (MM cs nx lf dr T) = .ok (.nx (E7 s (some (.int x)) b c d (some (.int m')))) (MM cs nx lf dr T) := by
  have q : evS prog o none (E7 s (some (.int x)) b c d (some (.int m))) (nthS f118.body 9) (MM cs nx lf dr T) = ((opRs .pow (.int (m + 104729 * x)) (.int 5) (MM cs nx lf dr T)).bind (fun y M => opRs .mod y (.int 2147483587) M)).bind fun z M => (evT prog o (E7 s (some (.int x)) b c d (some (.int m))) (.v 6) z M).bind fun env M => .ok (.nx env) M := by kernel_rfl
  rw [pow5 _ _ (by omega)] at q
  exact ⟨(m + 104729 * x) ^ 5 % 2147483587, q⟩
theorem st10 {m : Int} (h1 : 0 < s) : evS prog o none (E7 s a b c d (some (.int m))) (nthS f118.body 10) (MM cs nx lf dr T) = .ok (.rt (.int (m / 64 % s))) (MM cs nx lf dr T) := by
  have q : evS prog o none (E7 s a b c d (some (.int m))) (nthS f118.body 10) (MM cs nx lf dr T) = (opRs .mod (.int (m / 64)) (.int s) (MM cs nx lf dr T)).bind fun x M => .ok (.rt x) M := by kernel_rfl
  rw [mod_s h1] at q
  exact q
end
theorem blt_self (n : Nat) : Nat.blt n n = false := by
  cases h : Nat.blt n n with
  | false => rfl
  | true => exact absurd (Nat.le_of_ble_eq_true h) (Nat.not_succ_le_self n)
theorem draw {s : Int} (h1 : 0 < s) (h2 : s < 1073741824) (cs : List Int) (nx lf dr : Int) (T : Sto) (k : Nat) (hnx : 0 ≤ nx) (hdr : 0 ≤ dr ∧ dr ≤ 100) :
    ∃ r nx' lf', 0 ≤ r ∧ r < s ∧ 0 ≤ nx' ∧ runC prog (k + 1) 118 (E7 s none none none none none) (MM cs nx lf dr T) = .ok (.int r) (MM cs nx' lf' (dr + 1) T) := by
  have fin : ∀ r nx' lf', evB prog (runC prog k) none (E7 s none none none none none) f118.body (MM cs nx lf dr T) = .ok (.rt (.int r)) (MM cs nx' lf' (dr + 1) T) → runC prog (k + 1) 118 (E7 s none none none none none) (MM cs nx lf dr T) = .ok (.int r) (MM cs nx' lf' (dr + 1) T) := fun r nx' lf' e => by
    show (match evB prog (runC prog k) none (E7 s none none none none none) f118.body (MM cs nx lf dr T) with
      | .ok (.rt v) M' => Rs.ok v (gcF f118.gc (MM cs nx lf dr T).length v M')
      | .ok (.nx _) M' => .ok .non (gcF f118.gc (MM cs nx lf dr T).length .non M')
      | .ok _ _ => .no "break"
      | .ex e M' => .ex e (gcF f118.gc (MM cs nx lf dr T).length (.exo e.c e.fs) M')
      | .no w => .no w) = _
    rw [e]
    show Rs.ok (PV.int r) (match Nat.blt (T.length + 1 + 1) (T.length + 1 + 1) with
      | false => MM cs nx' lf' (dr + 1) T
      | true => _) = _
    rw [blt_self]
  have modb : ∀ i : Int, 0 ≤ i % s ∧ i % s < s := fun i => ⟨Int.emod_nonneg _ (by omega), Int.emod_lt_of_pos _ h1⟩
  have c1 : evB prog (runC prog k) none (E7 s none none none none none) f118.body (MM cs nx lf dr T) = evB prog (runC prog k) none (E7 s (some (.int (dr + 1))) none none none none) (bd 2) (MM cs nx lf (dr + 1) T) := (evB_cut st0).trans (evB_cut st1)
  have s2 := st2 (o := runC prog k) (s := s) (cs := cs) (nx := nx) (lf := lf) (dr := dr + 1) (T := T) (a := some (.int (dr + 1))) (b := none) (c := none) (d := none) (e := none)
  cases hl : decide (0 < lf) with
  | true =>
    rw [hl] at s2
    have := evB_rt (b := bd 3) (s2.trans (tb2 h1 h2))
    exact ⟨lf % s, nx, lf / s, (modb lf).1, (modb lf).2, hnx, fin _ _ _ (c1.trans this)⟩
  | false =>
    rw [hl] at s2
    have c2 := evB_cut (b := bd 3) s2
    have c3 := evB_cut (b := bd 4) (st3 (o := runC prog k) (s := s) (cs := cs) (nx := nx) (lf := lf) (dr := dr + 1) (T := T) (a := some (.int (dr + 1))) (b := none) (c := none) (d := none) (e := none))
    have c4 := evB_cut (b := bd 5) (st4 (o := runC prog k) (s := s) (cs := cs) (nx := nx) (lf := lf) (dr := dr + 1) (T := T) (a := some (.int (dr + 1))) (b := none) (d := none) (e := none) (x := nx))
    have c5 := evB_cut (b := bd 6) (st5 (o := runC prog k) (s := s) (cs := cs) (nx := nx + 1) (lf := lf) (dr := dr + 1) (T := T) (a := some (.int (dr + 1))) (b := none) (c := some (.int nx)) (d := none) (e := none))
    obtain ⟨g, hg⟩ := st6 (o := runC prog k) (s := s) (cs := cs) (nx := nx + 1) (lf := lf) (dr := dr + 1) (T := T) (a := some (.int (dr + 1))) (b := none) (e := none) hnx
    have c6 := evB_cut (b := bd 7) hg
    have c16 := c1.trans (c2.trans (c3.trans (c4.trans (c5.trans c6))))
    rcases st7 (o := runC prog k) (s := s) (cs := cs) (nx := nx + 1) (lf := lf) (dr := dr + 1) (T := T) (a := some (.int (dr + 1))) (b := none) (e := none) (k := nx) (g := g) h1 h2 with h7 | h7
    · have := evB_rt (b := bd 8) h7
      exact ⟨g % s, nx + 1, g / s, (modb g).1, (modb g).2, by omega, fin _ _ _ (c16.trans this)⟩
    · have c7 := evB_cut (b := bd 8) h7
      obtain ⟨m, m1, m2, h8⟩ := st8 (o := runC prog k) (s := s) (cs := cs) (nx := nx + 1) (lf := lf) (dr := dr + 1) (T := T) (b := none) (c := some (.int nx)) (e := none) (g := g) (x := dr + 1) (by omega)
      have c8 := evB_cut (b := bd 9) h8
      obtain ⟨m', h9⟩ := st9 (o := runC prog k) (s := s) (cs := cs) (nx := nx + 1) (lf := lf) (dr := dr + 1) (T := T) (b := none) (c := some (.int nx)) (d := some (.int g)) (m := m) (x := dr + 1) (by omega) ⟨m1, m2⟩
      have c9 := evB_cut (b := bd 10) h9
      have c10 := evB_rt (b := bd 11) (st10 (o := runC prog k) (s := s) (cs := cs) (nx := nx + 1) (lf := lf) (dr := dr + 1) (T := T) (a := some (.int (dr + 1))) (b := none) (c := some (.int nx)) (d := some (.int g)) (m := m') h1)
      exact ⟨m' / 64 % s, nx + 1, lf, (modb _).1, (modb _).2, by omega, fin _ _ _ (c16.trans (c7.trans (c8.trans (c9.trans c10))))⟩
end P72
end
section
set_option Elab.async false
set_option linter.all false
set_option maxRecDepth 1000000
set_option maxHeartbeats 0
namespace P72
open PySem Pf
section
variable {P : Prog} {o : Orc} {env : Pf.Env} {M M1 M2 M3 : Sto}
theorem L_nil : evL P o env .nil M = .ok [] M := rfl
theorem L_cons {e : CE} {es : CL} {x : PV} {xs : List PV} (h1 : evE P o env e M = .ok x M1) (h2 : evL P o env es M1 = .ok xs M2) : evL P o env (.cons e es) M = .ok (x :: xs) M2 := by
  show (evE P o env e M).bind _ = _
  rw [h1]
  show (evL P o env es M1).bind _ = _
  rw [h2]; rfl
theorem E_tup {es : CL} {xs : List PV} (h : evL P o env es M = .ok xs M1) : evE P o env (.tup es) M = .ok (.tup xs) M1 := by
  show (evL P o env es M).bind _ = _
  rw [h]; rfl
theorem E_idx {a b : CE} {x y z : PV} (h1 : evE P o env a M = .ok x M1) (h2 : evE P o env b M1 = .ok y M2) (h3 : ixR x y M2 = .ok z M3) : evE P o env (.idx a b) M = .ok z M3 := by
  show (evE P o env a M).bind _ = _
  rw [h1]
  show (evE P o env b M1).bind _ = _
  rw [h2]
  exact h3
theorem E_call {f : Nat} {es : CL} {ks : List (List Nat)} {vs : List PV} {z : PV} (h1 : evL P o env es M = .ok vs M1) (h2 : callF P o f vs ks M1 = .ok z M2) : evE P o env (.call f es ks) M = .ok z M2 := by
  show (evL P o env es M).bind _ = _
  rw [h1]
  exact h2
end
def sAnn : PV := .str [97, 110, 110]
def sBo : PV := .str [98, 111]
def leafV (x y : Int) : PV := .tup [.str [112, 117, 116], if x = 0 then sAnn else sBo, .tup [.str [116, 114, 101, 101], .tup [.tup [.str [97], .int y]]], .int 0]
theorem leaf (cs : List Int) (T : Sto) (k : Nat) : ∃ x y nx lf, 0 ≤ x ∧ x < 2 ∧ 0 ≤ y ∧ y < 5 ∧ runC prog (k + 2) 119 [some (.loc 1)] (MM cs 0 0 0 T) = .ok (leafV x y) (MM cs nx lf 2 T) := by
  obtain ⟨x, n1, l1, x0, x2, hn1, d1⟩ := draw (s := 2) (by omega) (by omega) cs 0 0 0 T k (by omega) (by omega)
  obtain ⟨y, n2, l2, y0, y2, hn2, d2⟩ := draw (s := 5) (by omega) (by omega) cs n1 l1 1 T k hn1 (by omega)
  refine ⟨x, y, n2, l2, x0, x2, y0, y2, ?_⟩
  have c1 : callF prog (runC prog (k + 1)) 118 [.loc 1, .int 2] [] (MM cs 0 0 0 T) = .ok (.int x) (MM cs n1 l1 1 T) := d1
  have c2 : callF prog (runC prog (k + 1)) 118 [.loc 1, .int 5] [] (MM cs n1 l1 1 T) = .ok (.int y) (MM cs n2 l2 2 T) := d2
  have hx : ixR (.lst [sAnn, sBo]) (.int x) (MM cs n1 l1 1 T) = .ok (if x = 0 then sAnn else sBo) (MM cs n1 l1 1 T) := by
    rcases (show x = 0 ∨ x = 1 by omega) with rfl | rfl <;> rfl
  have tl : evS prog (runC prog (k + 1)) none [some (.loc 1)] (nthS f119.body 0) (MM cs 0 0 0 T) = (evE prog (runC prog (k + 1)) [some (.loc 1)] (.tup (.cons (.cst (.str [112,117,116])) (.cons (.idx (.lst (.cons (.cst sAnn) (.cons (.cst sBo) .nil))) (.call 118 (.cons (.v 0) (.cons (.cst (.int 2)) .nil)) []))
      (.cons (.tup (.cons (.cst (.str [116,114,101,101])) (.cons (.tup (.cons (.tup (.cons (.cst (.str [97])) (.cons (.call 118 (.cons (.v 0) (.cons (.cst (.int 5)) .nil)) []) .nil))) .nil)) .nil))) (.cons (.cst (.int 0)) .nil))))) (MM cs 0 0 0 T)).bind fun x M => .ok (.rt x) M := rfl
  have ev : evE prog (runC prog (k + 1)) [some (.loc 1)] (.tup (.cons (.cst (.str [112,117,116])) (.cons (.idx (.lst (.cons (.cst sAnn) (.cons (.cst sBo) .nil))) (.call 118 (.cons (.v 0) (.cons (.cst (.int 2)) .nil)) []))
      (.cons (.tup (.cons (.cst (.str [116,114,101,101])) (.cons (.tup (.cons (.tup (.cons (.cst (.str [97])) (.cons (.call 118 (.cons (.v 0) (.cons (.cst (.int 5)) .nil)) []) .nil))) .nil)) .nil))) (.cons (.cst (.int 0)) .nil))))) (MM cs 0 0 0 T) = .ok (leafV x y) (MM cs n2 l2 2 T) :=
    E_tup (L_cons rfl (L_cons (E_idx rfl (E_call (L_cons rfl (L_cons rfl L_nil)) c1) hx) (L_cons (E_tup (L_cons rfl (L_cons (E_tup (L_cons (E_tup (L_cons rfl (L_cons (E_call (L_cons rfl (L_cons rfl L_nil)) c2) L_nil))) L_nil)) L_nil))) (L_cons rfl L_nil))))
  rw [ev] at tl
  have b : evB prog (runC prog (k + 1)) none [some (.loc 1)] f119.body (MM cs 0 0 0 T) = .ok (.rt (leafV x y)) (MM cs n2 l2 2 T) := evB_rt tl
  show (match evB prog (runC prog (k + 1)) none [some (.loc 1)] f119.body (MM cs 0 0 0 T) with
    | .ok (.rt v) M' => Rs.ok v (gcF f119.gc (MM cs 0 0 0 T).length v M')
    | .ok (.nx _) M' => .ok .non (gcF f119.gc (MM cs 0 0 0 T).length .non M')
    | .ok _ _ => .no "break"
    | .ex e M' => .ex e (gcF f119.gc (MM cs 0 0 0 T).length (.exo e.c e.fs) M')
    | .no w => .no w) = _
  rw [b]
  show Rs.ok (leafV x y) (match Nat.blt (T.length + 1 + 1) (T.length + 1 + 1) with
    | false => MM cs n2 l2 2 T
    | true => _) = _
  rw [blt_self]
def dp : Nat := 12
def e0 : Pf.Env := putSl f120.ps [.loc 0] (List.replicate f120.n none)
def e1 : Pf.Env := setAt e0 1 (some (.loc 1))
def newA : CE := .new 12 (.cons (.cst (.int 3)) .nil) [[109,97,110,121]]
def newB : CE := .new 12 (.cons (.cst (.int 3)) .nil) []
def TA : Sto :=
  [Pf.PO.ins
     12
     [([109, 101, 109, 98, 101, 114, 115], Pf.PV.lst [Pf.PV.loc 3, Pf.PV.loc 5, Pf.PV.loc 7]),
      ([112, 97, 114, 116, 101, 100, 95, 112, 97, 105, 114, 115], Pf.PV.loc 9)],
   Pf.PO.ins
     11
     [([117, 112, 95, 110, 111, 119], Pf.PV.bl true),
      ([116, 101, 114, 109], Pf.PV.int 0),
      ([118, 111, 116, 101], Pf.PV.non),
      ([112, 97, 105, 114, 115], Pf.PV.tup []),
      ([115, 116, 97, 110, 100, 105, 110, 103, 95, 110, 111, 119], Pf.PV.tup [Pf.PV.tup [], Pf.PV.tup [], Pf.PV.tup []]),
      ([100, 111, 110, 101, 95, 115, 111, 95, 102, 97, 114], Pf.PV.int 0),
      ([108, 101, 97, 100, 105, 110, 103], Pf.PV.bl false),
      ([104, 101, 108, 100], Pf.PV.loc 4)],
   Pf.PO.dic [],
   Pf.PO.ins
     11
     [([117, 112, 95, 110, 111, 119], Pf.PV.bl true),
      ([116, 101, 114, 109], Pf.PV.int 0),
      ([118, 111, 116, 101], Pf.PV.non),
      ([112, 97, 105, 114, 115], Pf.PV.tup []),
      ([115, 116, 97, 110, 100, 105, 110, 103, 95, 110, 111, 119], Pf.PV.tup [Pf.PV.tup [], Pf.PV.tup [], Pf.PV.tup []]),
      ([100, 111, 110, 101, 95, 115, 111, 95, 102, 97, 114], Pf.PV.int 0),
      ([108, 101, 97, 100, 105, 110, 103], Pf.PV.bl false),
      ([104, 101, 108, 100], Pf.PV.loc 6)],
   Pf.PO.dic [],
   Pf.PO.ins
     11
     [([117, 112, 95, 110, 111, 119], Pf.PV.bl true),
      ([116, 101, 114, 109], Pf.PV.int 0),
      ([118, 111, 116, 101], Pf.PV.non),
      ([112, 97, 105, 114, 115], Pf.PV.tup []),
      ([115, 116, 97, 110, 100, 105, 110, 103, 95, 110, 111, 119], Pf.PV.tup [Pf.PV.tup [], Pf.PV.tup [], Pf.PV.tup []]),
      ([100, 111, 110, 101, 95, 115, 111, 95, 102, 97, 114], Pf.PV.int 0),
      ([108, 101, 97, 100, 105, 110, 103], Pf.PV.bl false),
      ([104, 101, 108, 100], Pf.PV.loc 8)],
   Pf.PO.dic [],
   Pf.PO.lst []]
def TB : Sto :=
  [Pf.PO.ins
     12
     [([109, 101, 109, 98, 101, 114, 115], Pf.PV.lst [Pf.PV.loc 3, Pf.PV.loc 5, Pf.PV.loc 7]),
      ([112, 97, 114, 116, 101, 100, 95, 112, 97, 105, 114, 115], Pf.PV.loc 9)],
   Pf.PO.ins
     11
     [([117, 112, 95, 110, 111, 119], Pf.PV.bl true),
      ([116, 101, 114, 109], Pf.PV.int 0),
      ([118, 111, 116, 101], Pf.PV.non),
      ([112, 97, 105, 114, 115], Pf.PV.tup []),
      ([115, 116, 97, 110, 100, 105, 110, 103, 95, 110, 111, 119], Pf.PV.tup [Pf.PV.tup [], Pf.PV.tup [], Pf.PV.tup []]),
      ([100, 111, 110, 101, 95, 115, 111, 95, 102, 97, 114], Pf.PV.int 0),
      ([108, 101, 97, 100, 105, 110, 103], Pf.PV.bl false),
      ([104, 101, 108, 100], Pf.PV.loc 4)],
   Pf.PO.dic [],
   Pf.PO.ins
     11
     [([117, 112, 95, 110, 111, 119], Pf.PV.bl true),
      ([116, 101, 114, 109], Pf.PV.int 0),
      ([118, 111, 116, 101], Pf.PV.non),
      ([112, 97, 105, 114, 115], Pf.PV.tup []),
      ([115, 116, 97, 110, 100, 105, 110, 103, 95, 110, 111, 119], Pf.PV.tup [Pf.PV.tup [], Pf.PV.tup [], Pf.PV.tup []]),
      ([100, 111, 110, 101, 95, 115, 111, 95, 102, 97, 114], Pf.PV.int 0),
      ([108, 101, 97, 100, 105, 110, 103], Pf.PV.bl false),
      ([104, 101, 108, 100], Pf.PV.loc 6)],
   Pf.PO.dic [],
   Pf.PO.ins
     11
     [([117, 112, 95, 110, 111, 119], Pf.PV.bl true),
      ([116, 101, 114, 109], Pf.PV.int 0),
      ([118, 111, 116, 101], Pf.PV.non),
      ([112, 97, 105, 114, 115], Pf.PV.tup []),
      ([115, 116, 97, 110, 100, 105, 110, 103, 95, 110, 111, 119], Pf.PV.tup [Pf.PV.tup [], Pf.PV.tup [], Pf.PV.tup []]),
      ([100, 111, 110, 101, 95, 115, 111, 95, 102, 97, 114], Pf.PV.int 0),
      ([108, 101, 97, 100, 105, 110, 103], Pf.PV.bl false),
      ([104, 101, 108, 100], Pf.PV.loc 8)],
   Pf.PO.dic [],
   Pf.PO.lst [],
   Pf.PO.ins
     12
     [([109, 101, 109, 98, 101, 114, 115], Pf.PV.lst [Pf.PV.loc 11, Pf.PV.loc 13, Pf.PV.loc 15]),
      ([112, 97, 114, 116, 101, 100, 95, 112, 97, 105, 114, 115], Pf.PV.loc 17)],
   Pf.PO.ins
     11
     [([117, 112, 95, 110, 111, 119], Pf.PV.bl true),
      ([116, 101, 114, 109], Pf.PV.int 0),
      ([118, 111, 116, 101], Pf.PV.non),
      ([112, 97, 105, 114, 115], Pf.PV.tup []),
      ([115, 116, 97, 110, 100, 105, 110, 103, 95, 110, 111, 119], Pf.PV.tup [Pf.PV.tup [], Pf.PV.tup [], Pf.PV.tup []]),
      ([100, 111, 110, 101, 95, 115, 111, 95, 102, 97, 114], Pf.PV.int 0),
      ([108, 101, 97, 100, 105, 110, 103], Pf.PV.bl false),
      ([104, 101, 108, 100], Pf.PV.loc 12)],
   Pf.PO.dic [],
   Pf.PO.ins
     11
     [([117, 112, 95, 110, 111, 119], Pf.PV.bl true),
      ([116, 101, 114, 109], Pf.PV.int 0),
      ([118, 111, 116, 101], Pf.PV.non),
      ([112, 97, 105, 114, 115], Pf.PV.tup []),
      ([115, 116, 97, 110, 100, 105, 110, 103, 95, 110, 111, 119], Pf.PV.tup [Pf.PV.tup [], Pf.PV.tup [], Pf.PV.tup []]),
      ([100, 111, 110, 101, 95, 115, 111, 95, 102, 97, 114], Pf.PV.int 0),
      ([108, 101, 97, 100, 105, 110, 103], Pf.PV.bl false),
      ([104, 101, 108, 100], Pf.PV.loc 14)],
   Pf.PO.dic [],
   Pf.PO.ins
     11
     [([117, 112, 95, 110, 111, 119], Pf.PV.bl true),
      ([116, 101, 114, 109], Pf.PV.int 0),
      ([118, 111, 116, 101], Pf.PV.non),
      ([112, 97, 105, 114, 115], Pf.PV.tup []),
      ([115, 116, 97, 110, 100, 105, 110, 103, 95, 110, 111, 119], Pf.PV.tup [Pf.PV.tup [], Pf.PV.tup [], Pf.PV.tup []]),
      ([100, 111, 110, 101, 95, 115, 111, 95, 102, 97, 114], Pf.PV.int 0),
      ([108, 101, 97, 100, 105, 110, 103], Pf.PV.bl false),
      ([104, 101, 108, 100], Pf.PV.loc 16)],
   Pf.PO.dic [],
   Pf.PO.lst []]
theorem hA (F : PO) : evE prog (runC prog (dp + 2)) e1 newA [.any, F] = .ok (.loc 2) (.any :: F :: TA) := by kernel_rfl
theorem hB (F : PO) : evE prog (runC prog (dp + 2)) e1 newB (.any :: F :: TA) = .ok (.loc 10) (.any :: F :: TB) := by kernel_rfl
theorem cut_int (ns : List Int) : cutL none (some 63) (intz ns) = intz (cutL none (some 63) ns) := by
  unfold cutL intz
  simp only [List.length_map, List.map_drop, List.map_take]
theorem s0 (ns : List Int) : evS prog (runC prog (dp + 2)) none e0 (nthS f120.body 0) [.frz (.lst (intz ns))] = .ok (.nx e1) [.frz (.lst (intz ns)), .dic [(.str kC, .lst (cutL none (some 63) (intz ns))), (.str kN, .int 0), (.str kL, .int 0), (.str kD, .int 0)]] := by kernel_rfl
def e3 (x y : Int) : Pf.Env := putR ([2, 3, 4].zip [.loc 2, .loc 10, leafV x y]).reverse e1
theorem s1 (cs : List Int) : ∃ x y nx lf, 0 ≤ x ∧ x < 2 ∧ 0 ≤ y ∧ y < 5 ∧ evS prog (runC prog (dp + 2)) none e1 (nthS f120.body 2) [.any, fdO cs 0 0 0] = .ok (.nx (e3 x y)) (MM cs nx lf 2 TB) := by
  obtain ⟨x, y, nx, lf, x0, x2, y0, y2, h⟩ := leaf cs TB dp
  refine ⟨x, y, nx, lf, x0, x2, y0, y2, ?_⟩
  have c : callF prog (runC prog (dp + 2)) 119 [.loc 1] [] (MM cs 0 0 0 TB) = .ok (leafV x y) (MM cs nx lf 2 TB) := h
  have l : evL prog (runC prog (dp + 2)) e1 (.cons newA (.cons newB (.cons (.call 119 (.cons (.v 1) .nil) []) .nil))) [.any, fdO cs 0 0 0] = .ok [.loc 2, .loc 10, leafV x y] (MM cs nx lf 2 TB) :=
    L_cons (hA _) (L_cons (hB _) (L_cons (E_call (L_cons rfl L_nil) c) L_nil))
  show (evL prog (runC prog (dp + 2)) e1 (.cons newA (.cons newB (.cons (.call 119 (.cons (.v 1) .nil) []) .nil))) [.any, fdO cs 0 0 0]).bind (fun xs M => parR [2, 3, 4] xs e1 M) = _
  rw [l]; rfl
def restR (x y : Int) : Rs Fl := evB prog (runC prog (dp + 2)) none (e3 x y) (drB f120.body 4) (.any :: .any :: TB)
def isRT (r : Rs Fl) : Bool := match r with
  | .ok (.rt (.bl b)) _ => b
  | _ => false
end P72
end
section
set_option Elab.async false
set_option linter.all false
set_option maxRecDepth 1000000
set_option maxHeartbeats 0
namespace P72
open PySem Pf
theorem t00 : isRT (restR 0 0) = true := by decide +kernel
theorem t01 : isRT (restR 0 1) = true := by decide +kernel
theorem t02 : isRT (restR 0 2) = true := by decide +kernel
theorem t03 : isRT (restR 0 3) = true := by decide +kernel
theorem t04 : isRT (restR 0 4) = true := by decide +kernel
theorem t10 : isRT (restR 1 0) = true := by decide +kernel
theorem t11 : isRT (restR 1 1) = true := by decide +kernel
theorem t12 : isRT (restR 1 2) = true := by decide +kernel
theorem t13 : isRT (restR 1 3) = true := by decide +kernel
theorem t14 : isRT (restR 1 4) = true := by decide +kernel
theorem rt_of {r : Rs Fl} (h : isRT r = true) : ∃ M, r = .ok (.rt (.bl true)) M := by
  unfold isRT at h
  split at h
  · rename_i b M
    subst h
    exact ⟨M, rfl⟩
  · cases h
theorem rest_all {x y : Int} (x0 : 0 ≤ x) (x2 : x < 2) (y0 : 0 ≤ y) (y2 : y < 5) : ∃ M, restR x y = .ok (.rt (.bl true)) M := by
  rcases (show x = 0 ∨ x = 1 by omega) with rfl | rfl
  · rcases (show y = 0 ∨ y = 1 ∨ y = 2 ∨ y = 3 ∨ y = 4 by omega) with rfl | rfl | rfl | rfl | rfl
    · exact rt_of t00
    · exact rt_of t01
    · exact rt_of t02
    · exact rt_of t03
    · exact rt_of t04
  · rcases (show y = 0 ∨ y = 1 ∨ y = 2 ∨ y = 3 ∨ y = 4 by omega) with rfl | rfl | rfl | rfl | rfl
    · exact rt_of t10
    · exact rt_of t11
    · exact rt_of t12
    · exact rt_of t13
    · exact rt_of t14
theorem fg0 (cs : List Int) (z : PO) : evS prog (runC prog (dp + 2)) none e1 (.fgt [0]) [z, fdO cs 0 0 0] = .ok (.nx e1) [.any, fdO cs 0 0 0] := by kernel_rfl
theorem fg1 (cs : List Int) (x y nx lf : Int) : evS prog (runC prog (dp + 2)) none (e3 x y) (.fgt [1]) (MM cs nx lf 2 TB) = .ok (.nx (e3 x y)) (.any :: .any :: TB) := by kernel_rfl
theorem bdy : f120.body = .cons (nthS f120.body 0) (.cons (.fgt [0]) (.cons (nthS f120.body 2) (.cons (.fgt [1]) (drB f120.body 4)))) := by kernel_rfl
theorem run120 (M0 : Sto) (k : Nat) : runC prog (k + 1) 120 e0 M0 = match evB prog (runC prog k) none e0 f120.body M0 with
    | .ok (.rt v) M' => Rs.ok v (gcF f120.gc M0.length v M')
    | .ok (.nx _) M' => .ok .non (gcF f120.gc M0.length .non M')
    | .ok _ _ => .no "break"
    | .ex e M' => .ex e (gcF f120.gc M0.length (.exo e.c e.fs) M')
    | .no w => .no w := by kernel_rfl
theorem law_true (ns : List Int) : ∃ M', runC prog (dp + 3) 120 e0 [.frz (.lst (intz ns))] = .ok (.bl true) M' := by
  have q0 := s0 ns
  rw [cut_int] at q0
  obtain ⟨x, y, nx, lf, x0, x2, y0, y2, q1⟩ := s1 (cutL none (some 63) ns)
  obtain ⟨M, hM⟩ := rest_all x0 x2 y0 y2
  have b : evB prog (runC prog (dp + 2)) none e0 f120.body [.frz (.lst (intz ns))] = .ok (.rt (.bl true)) M := by
    rw [bdy]
    exact (evB_cut q0).trans ((evB_cut (fg0 _ _)).trans ((evB_cut q1).trans ((evB_cut (fg1 _ _ _ _ _)).trans hM)))
  exact ⟨gcF f120.gc 1 (.bl true) M, (run120 _ (dp + 2)).trans (by rw [b]; rfl)⟩
end P72
end
section
set_option Elab.async false
set_option linter.all false
set_option maxRecDepth 1000000
set_option maxHeartbeats 0
namespace P72
open PySem PySem.W PySem.Calls PyProof.Rows Pf
theorem run (w : World) : HandSHeadRun.RunEq R qv (hookP adrs txt) ob 8000 loose w :=
  byRow2 "special-get-raises" (P := fun w => HandSHeadRun.RunEq R qv (hookP adrs txt) ob 8000 loose w) run0 run1 w
theorem lawAll (ns : List Int) (_ : ns.length ≤ 63) : ∃ M', runC txt.prog (dp + 3) 120 (putSl f120.ps [.loc 0] (List.replicate f120.n none)) [.frz (.lst (ns.map PV.int))] = .ok (.bl true) M' := law_true ns
end P72
open PySem PySem.W PySem.Calls PyProof.Rows
theorem PySem.Challenge.cw_pathfolios_k72_by_their_names_holds : PySem.Challenge.rw_pathfolios_k72_by_their_names.Holds := by
  w_on; o_law
  refine HandSHeadRun.head_any (r := P72.R) (q := P72.qv) (H := Pf.hookP P72.adrs P72.txt) (ob := P72.ob) (M := 8000) (loose := P72.loose) (d := HandSHeadRun.topDef P72.R.prog P72.lawAt) (kwd := []) P72.ob_eq
    (by kernel_rfl) (fun s => by kernel_rfl) P72.run (by kernel_rfl) (by kernel_rfl) (by kernel_rfl) (by rfl) (by first | assumption | decide +kernel) (by decide +kernel) ⟨rfl, rfl, rfl, rfl, rfl, by decide +kernel⟩ ?hw ?hc
  case hw => w_witness2
  case hc => exact Pf.walkP (l := P72.L) (x := P72.txt) (m := 63) (n := P72.dp + 3) (li := 120) (dl := P72.f120) (p := [95,108,97,119,95,115,99,114,105,112,116]) (nm := [108,97,119]) (as := P72.adrs) rfl (by decide) (by kernel_rfl) P72.stat (by kernel_rfl) (by kernel_rfl) (by kernel_rfl) (by kernel_rfl) (by decide +kernel) ⟨rfl, by decide, by decide⟩ P72.lawAll
end
