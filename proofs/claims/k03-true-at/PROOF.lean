import PyProof.Rows.All
import HandS.ForMost
import HandS.Defaults
import HandS.IsInst
import HandS.TupAny
import KE.SortData
import HandS.Star
import HandS.CallSlots
import HandS.WordsExc
import HandS.Walk
import HandS.Zip
import HandS.Set
import HandS.SetFor
import HandS.Strs
import HandS.TryOnly
import PyProof.CollectIter
import HandS.Style
import HandS.Codes
import HandS.Head0
import HandS.Head1
import HandS.Head2
import HandS.HeadEnd
import HandS.HeadHook1
import HandS.HeadHook2
import HandS.HeadHook3
import HandS.HeadHook4
import PySem.Challenge.RW_soonrooms_k03_true_at_beats
set_option Elab.async false
set_option linter.all false
set_option autoImplicit false
set_option maxRecDepth 100000
set_option maxHeartbeats 0
section
namespace Z
open PySem PySem.Spec PyProof.Rows

/-! ### values, the small heap, results -/
inductive D where
  | non | bl (b : Bool) | int (i : Int) | str (s : List Nat)
  | tup (xs : List D) | lst (xs : List D)
  | set (xs : List D)
  | ref (r : Nat) | glo (x : Str) | ty (n : String)
  | scr (ns : List Int)
  deriving Inhabited

inductive Ob where
  | lst (xs : List D)
  | ins (c : Str) (fs : List (Str × D))
  deriving Inhabited
abbrev LH := List Ob

inductive Res (α : Type) where
  | ok (a : α) (h : LH)
  | exc (c : Str) (fs : List (Str × D)) (h : LH)
  | bad
abbrev M (α : Type) := LH → Res α
def pur {α : Type} (a : α) : M α := fun h => .ok a h
def bnd {α β : Type} (m : M α) (f : α → M β) : M β := fun h => match m h with
  | .ok a h' => f a h'
  | .exc c fs h' => .exc c fs h'
  | .bad => .bad
def opt {α : Type} (o : Option α) : M α := fun h => match o with
  | some a => .ok a h
  | none => .bad
/-- read the heap -/
def rd {α : Type} (f : LH → Option α) : M α := fun h => match f h with
  | some a => .ok a h
  | none => .bad
def bad {α : Type} : M α := fun _ => .bad
/-- what a result must be -/
def Res.post {α : Type} (r : Res α) (Q : α → LH → Prop) (X : Str → List (Str × D) → LH → Prop) : Prop := match r with
  | .ok a h => Q a h
  | .exc c fs h => X c fs h
  | .bad => False

inductive Rv where
  | v (d : D)
  | fr (xs : List D)
  | bw (xs : List D)
inductive Slot where
  | emp | val (d : D) | own (xs : List D)
  deriving Inhabited
abbrev Env := List Slot
def dg : Rv → Option D
  | .v d => some d
  | .fr xs => some (.lst xs)
  | .bw _ => none
def wdg : Rv → D
  | .v d => d
  | .fr xs => .lst xs
  | .bw xs => .lst xs
def get (ρ : Env) (i : Nat) : Slot := match ρ[i]? with
  | some s => s
  | none => .emp

/-! ### operations -/
def szL : Nat := 16777216
inductive Bop where
  | add | sub | mul | fdiv | mod | pow | shl | shr
  deriving DecidableEq
inductive Cop where
  | eq | ne | lt | le | gt | ge | is_ | isn | in_ | nin
  deriving DecidableEq
inductive Bi where
  | len | abs | int | str | list | tuple | sorted | all | any | max | min | set
  deriving DecidableEq
inductive Mt where
  | join | split | replace
  deriving DecidableEq

/-- a list -/
def lstV (h : LH) : D → Option (List D)
  | .lst xs => some xs
  | .scr ns => some (ns.map .int)
  | .ref r => (match h[r]? with
    | some (.lst xs) => some xs
    | _ => none)
  | _ => none
/-- a list, a tuple -/
def seqV (h : LH) : D → Option (List D)
  | .tup xs => some xs
  | d => lstV h d
def small (i : Int) : Bool := decide (-(2 ^ 64) < i ∧ i < 2 ^ 64)
def binD : Bop → D → D → Option Rv
  | .add, .int i, .int j => some (.v (.int (i + j)))
  | .add, .str a, .str b => if a.length + b.length ≤ szL then some (.v (.str (a ++ b))) else none
  | .add, .tup a, .tup b => if a.length + b.length ≤ szL then some (.v (.tup (a ++ b))) else none
  | .add, .lst a, .lst b => if a.length + b.length ≤ szL then some (.fr (a ++ b)) else none
  | .sub, .int i, .int j => some (.v (.int (i - j)))
  | .mul, .int i, .int j => if small i || small j then some (.v (.int (i * j))) else none
  | .mul, .lst a, .int k => if -(2 ^ 63) ≤ k ∧ k < 2 ^ 63 ∧ a.length * k.toNat ≤ szL then some (.fr (List.replicate k.toNat a).flatten) else none
  | .fdiv, .int i, .int j => if 0 < j ∧ j < 1073741824 then some (.v (.int (i / j))) else none
  | .mod, .int i, .int j => if 0 < j then some (.v (.int (i % j))) else none
  | .pow, .int i, .int j => if 0 ≤ j ∧ j ≤ 1000000 ∧ i.natAbs < 2 ^ 64 then some (.v (.int (i ^ j.toNat))) else none
  | .shl, .int i, .int j => if 0 ≤ j ∧ j ≤ 1000000 ∧ i.natAbs < 2 ^ 64 then some (.v (.int (i * 2 ^ j.toNat))) else none
  | .shr, .int i, .int j => if 0 ≤ j then some (.v (.int (i / 2 ^ j.toNat))) else none
  | _, _, _ => none

/-! == of data -/
mutual
def eqD : D → D → Bool
  | .non, .non => true
  | .bl a, .bl b => a == b
  | .bl a, .int j => (if a then 1 else 0) == j
  | .int i, .bl b => i == (if b then 1 else 0)
  | .int i, .int j => i == j
  | .str x, .str y => decide (x = y)
  | .lst xs, .lst ys => eqDs xs ys
  | .tup xs, .tup ys => eqDs xs ys
  | _, _ => false
def eqDs : List D → List D → Bool
  | [], [] => true
  | x :: xs, y :: ys => eqD x y && eqDs xs ys
  | _, _ => false
end
mutual
/-- plain data, at most n deep -/
def plain : Nat → D → Bool
  | _, .non => true
  | _, .bl _ => true
  | _, .int _ => true
  | _, .str _ => true
  | n + 1, .lst xs => plains n xs
  | n + 1, .tup xs => plains n xs
  | _, _ => false
def plains : Nat → List D → Bool
  | _, [] => true
  | n, x :: xs => plain n x && plains n xs
end
/-- a text -/
abbrev str (s : List Nat) : Str := ⟨s.toArray⟩
mutual
def py : D → PyData
  | .non => .none
  | .bl b => .bool b
  | .int i => .int i
  | .str s => .str (str s)
  | .lst xs => .list (pys xs)
  | .tup xs => .tuple (pys xs)
  | .set _ => .none
  | .ref _ => .none
  | .glo _ => .none
  | .ty _ => .none
  | .scr _ => .none
def pys : List D → List PyData
  | [] => []
  | x :: xs => py x :: pys xs
end
def flat : D → Bool
  | .non => true
  | .bl _ => true
  | .int _ => true
  | .str _ => true
  | _ => false
def ltS (a b : List Nat) : Bool := decide (a < b)
def isNonD : D → Bool
  | .non => true
  | _ => false
def inD (h : LH) (a b : D) : Option Bool := match seqV h b with
  | some xs => if flat a && xs.all flat then some (xs.any fun y => eqD y a) else none
  | none => none
def cmpD (h : LH) : Cop → D → D → Option Bool
  | .eq, a, b => if plain 60 a && plain 60 b then some (eqD a b) else none
  | .ne, a, b => if plain 60 a && plain 60 b then some (!eqD a b) else none
  | .lt, .int i, .int j => some (decide (i < j))
  | .le, .int i, .int j => some (decide (i ≤ j))
  | .gt, .int i, .int j => some (decide (j < i))
  | .ge, .int i, .int j => some (decide (j ≤ i))
  | .lt, .str i, .str j => some (ltS i j)
  | .le, .str i, .str j => some (!ltS j i)
  | .gt, .str i, .str j => some (ltS j i)
  | .ge, .str i, .str j => some (!ltS i j)
  | .is_, a, .non => some (isNonD a)
  | .isn, a, .non => some (!isNonD a)
  | .in_, .str [c], .str z => some (decide (c ∈ z))
  | .nin, .str [c], .str z => some (!decide (c ∈ z))
  | .in_, a, b => inD h a b
  | .nin, a, b => (inD h a b).map (!·)
  | _, _, _ => none

def ixD (h : LH) (a i : D) : Option D := match i with
  | .int k => (match a with
    | .str s => if s.length ≤ szL then (L2.atI s k).map fun c => .str [c] else none
    | _ => (match seqV h a with
      | some xs => L2.atI xs k
      | none => none))
  | _ => none
def cut {α : Type} (xs : List α) (lo hi : Option Int) : List α := (xs.drop (HT.sIx xs.length 0 lo)).take (HT.sIx xs.length xs.length hi - HT.sIx xs.length 0 lo)
def slD (h : LH) (a : D) (lo hi : Option Int) : Option Rv := match a with
  | .str s => if s.length ≤ szL then some (.v (.str (cut s lo hi))) else none
  | .tup xs => some (.v (.tup (cut xs lo hi)))
  | _ => (match lstV h a with
    | some xs => some (.fr (cut xs lo hi))
    | none => none)
/-- types -/
def tyN (h : LH) : D → Option String
  | .non => some "NoneType"
  | .bl _ => some "bool"
  | .int _ => some "int"
  | .str _ => some "str"
  | .tup _ => some "tuple"
  | .lst _ => some "list"
  | .scr _ => some "list"
  | .ref r => (match h[r]? with
    | some (.lst _) => some "list"
    | _ => none)
  | _ => none
/-- isinstance of a built-in type's thing -/
def isT (a b : String) : Bool := match a, b with
  | "bool", "int" => true
  | a, b => a == b
def isiD (h : LH) (a : D) (cs : List String) : Option Bool := (tyN h a).map fun t => cs.any fun c => isT t c

def boolsOf : List D → Option (List Bool)
  | [] => some []
  | .bl b :: r => (boolsOf r).map (b :: ·)
  | _ :: _ => none
def strsOf : List D → Option (List (List Nat))
  | [] => some []
  | .str s :: r => (strsOf r).map (s :: ·)
  | _ :: _ => none
def insS (x : List Nat) : List (List Nat) → List (List Nat)
  | [] => [x]
  | y :: r => if y < x then y :: insS x r else x :: y :: r
def sortS : List (List Nat) → List (List Nat)
  | [] => []
  | x :: r => insS x (sortS r)
/-- each once -/
def ddS : List (List Nat) → List (List Nat)
  | [] => []
  | x :: r => if x ∈ r then ddS r else x :: ddS r
def joinS (sep : List Nat) : List (List Nat) → List Nat
  | [] => []
  | [x] => x
  | x :: r => x ++ sep ++ joinS sep r
def sumLen : List (List Nat) → Nat
  | [] => 0
  | x :: r => x.length + sumLen r
/-- tuples of alike things, the first of them empty -/
def isTupD : D → Bool
  | .tup _ => true
  | _ => false
def emptyHd : List D → Bool
  | .tup [] :: _ => true
  | _ => false
def alikeB (xs : List D) : Bool := xs.all fun a => xs.all fun b => PySem.W.alike (py a) (py b)
def sortOk (xs : List D) : Bool := emptyHd xs && (xs.all isTupD && (plains 8 xs && (alikeB xs && decide (xs.length ≤ szL))))
def sortD (xs : List D) : List D := xs.mergeSort fun a b => !PySem.W.dataLt (py b) (py a)
def biD (h : LH) : Bi → List D → Option Rv
  | .len, [.str s] => if s.length ≤ szL then some (.v (.int s.length)) else none
  | .len, [a] => (seqV h a).map fun xs => .v (.int xs.length)
  | .abs, [.int i] => some (.v (.int (if i < 0 then -i else i)))
  | .int, [.int i] => some (.v (.int i))
  | .int, [.bl k] => some (.v (.int (if k then 1 else 0)))
  | .list, [a] => (seqV h a).map .fr
  | .tuple, [a] => (seqV h a).map fun xs => .v (.tup xs)
  | .all, [.lst xs] => (boolsOf xs).map fun bs => .v (.bl (bs.all id))
  | .any, [.lst xs] => (boolsOf xs).map fun bs => .v (.bl (bs.any id))
  | .max, [.int i, .int j] => some (.v (.int (if j > i then j else i)))
  | .min, [.int i, .int j] => some (.v (.int (if j < i then j else i)))
  | .sorted, [a] => (lstV h a).bind fun xs => match strsOf xs with
    | some ys => if ys.length < 64 then some (.fr ((sortS ys).map .str)) else none
    | none => if sortOk xs then some (.fr (sortD xs)) else none
  | _, _ => none
def mtD (h : LH) : Mt → List Nat → List D → Option Rv
  | .join, s, [a] => (seqV h a).bind fun xs => (strsOf xs).bind fun ys => if sumLen ys + ys.length * s.length ≤ szL then some (.v (.str (joinS s ys))) else none
  | _, _, _ => none

/-! ### the language -/
mutual
inductive Tg where
  | nm (i : Nat)
  | tp (l : Tgs)
  | lp (l : Tgs)
inductive Tgs where
  | nil | cons (t : Tg) (l : Tgs)
end
def Tgs.len : Tgs → Nat
  | .nil => 0
  | .cons _ l => l.len + 1
mutual
inductive E where
  | var (i : Nat) | own (i : Nat) | int (i : Int) | bl (b : Bool) | non | str (s : List Nat) | glo (x : Str)
  | tup (es : Es) | lst (es : Es)
  | bin (o : Bop) (a b : E) | cmp (o : Cop) (a b : E) | chain (o p : Cop) (a b c : E)
  | neg (a : E) | not (a : E) | and (es : Es) | or (es : Es) | ifE (t : T) (a b : E)
  | idx (a i : E) | sl (a : E) (lo hi : Op)
  | call (f : Nat) (es : Es) | bi (b : Bi) (es : Es) | sset (a : E) | isi (a : E) (cs : List String) | mth (m : Mt) (a : E) (es : Es)
  | comp (it : It) (tg : Tg) (ifs : Ts) (elt : E) (ws : List Nat)
inductive Op where
  | no | yes (e : E)
inductive Es where
  | nil | cons (e : E) (es : Es)
inductive T where
  | e (e : E) | cmp (o : Cop) (a b : E) | chain (o p : Cop) (a b c : E)
  | not (t : T) | and (ts : Ts) | or (ts : Ts)
inductive Ts where
  | nil | cons (t : T) (ts : Ts)
inductive It where
  | seq (e : E) | rng (e : E) | rng2 (a b : E) | zip (a b : E) | enum (a : E)
end
mutual
inductive S where
  | ex (e : E) | asg (tg : Tg) (e : E) | asgO (i : Nat) (e : E) | asgC (i : Nat) (e : E) | par (l : List (Bool × Nat)) (es : Es) | star (l : Tgs) (e : E)
  | ret (e : E) | retF (e : E) | retN
  | iff (t : T) (a b : Ss) | for_ (it : It) (tg : Tg) (body : Ss) | whl (t : T) (body : Ss)
  | app (i : Nat) (e : E) | ext (i : Nat) (e : E) | setO (i : Nat) (ix e : E) | setR (a ix e : E) | aug (i : Nat) (o : Bop) (e : E)
  | brk | cont | pass | frz (i : Nat)
inductive Ss where
  | nil | cons (s : S) (ss : Ss)
end

/-! ### what it means -/
structure Cx where
  call : Nat → List D → M Rv
  glo : Str → Option D
  wf : Nat
def wipe (ρ : Env) : List Nat → Env
  | [] => ρ
  | i :: r => (wipe ρ r).set i .emp
mutual
def bindTg : Tg → D → Env → Option Env
  | .nm i, d, ρ => some (ρ.set i (.val d))
  | .tp l, d, ρ => (match d with
    | .tup ds => bindTgs l ds ρ
    | _ => none)
  | .lp l, d, ρ => (match d with
    | .lst ds => bindTgs l ds ρ
    | _ => none)
def bindTgs : Tgs → List D → Env → Option Env
  | .nil, ds, ρ => (match ds with
    | [] => some ρ
    | _ => none)
  | .cons t l, ds, ρ => (match ds with
    | d :: r => (match bindTg t d ρ with
      | some ρ' => bindTgs l r ρ'
      | none => none)
    | [] => none)
end
def compL {α : Type} (f : D → M (Option α)) : List D → M (List α)
  | [] => pur []
  | x :: r => bnd (f x) fun o => bnd (compL f r) fun ys => pur (match o with
    | some y => y :: ys
    | none => ys)
/-- where nothing may be raised -/
def calmM {α : Type} (m : M α) : M α := fun h => match m h with
  | .ok a h' => .ok a h'
  | _ => .bad
def enumL : Nat → List D → List D
  | _, [] => []
  | k, x :: r => .tup [.int k, x] :: enumL (k + 1) r
def zipL : List D → List D → List D
  | x :: xs, y :: ys => .tup [x, y] :: zipL xs ys
  | _, _ => []
def rngL (lo : Int) : Nat → List D
  | 0 => []
  | n + 1 => .int lo :: rngL (lo + 1) n
def small62 (i : Int) : Bool := decide (-(2 ^ 62) ≤ i ∧ i < 2 ^ 62)
mutual
def denR (c : Cx) : E → Env → M Rv
  | .var i, ρ => (match get ρ i with
    | .val d => pur (.v d)
    | _ => bad)
  | .own i, ρ => (match get ρ i with
    | .own xs => pur (.bw xs)
    | _ => bad)
  | .int i, _ => pur (.v (.int i))
  | .bl b, _ => pur (.v (.bl b))
  | .non, _ => pur (.v .non)
  | .str s, _ => pur (.v (.str s))
  | .glo x, _ => opt ((c.glo x).map .v)
  | .tup es, ρ => bnd (denEs c es ρ) fun ds => if ds.length ≤ szL then pur (.v (.tup ds)) else bad
  | .lst es, ρ => bnd (denEs c es ρ) fun ds => if ds.length ≤ szL then pur (.fr ds) else bad
  | .bin o a b, ρ => bnd (denR c a ρ) fun x => bnd (denR c b ρ) fun y => opt (binD o (wdg x) (wdg y))
  | .cmp o a b, ρ => bnd (denR c a ρ) fun x => bnd (denR c b ρ) fun y => rd fun h => (cmpD h o (wdg x) (wdg y)).map fun k => .v (.bl k)
  | .chain o p a b d, ρ => bnd (denR c a ρ) fun x => bnd (denR c b ρ) fun y => bnd (rd fun h => cmpD h o (wdg x) (wdg y)) fun k =>
      if k then bnd (denR c d ρ) fun z => rd fun h => (cmpD h p (wdg y) (wdg z)).map fun k => .v (.bl k) else pur (.v (.bl false))
  | .neg a, ρ => bnd (denR c a ρ) fun x => (match x with
    | .v (.int k) => pur (.v (.int (-k)))
    | _ => bad)
  | .not a, ρ => bnd (denR c a ρ) fun x => (match x with
    | .v (.bl k) => pur (.v (.bl (!k)))
    | _ => bad)
  | .and es, ρ => bnd (denAnd c es ρ) fun k => pur (.v (.bl k))
  | .or es, ρ => bnd (denOr c es ρ) fun k => pur (.v (.bl k))
  | .ifE t a b, ρ => bnd (denT c t ρ) fun k => if k then denR c a ρ else denR c b ρ
  | .idx a i, ρ => bnd (denR c a ρ) fun x => bnd (denR c i ρ) fun y => rd fun h => (ixD h (wdg x) (wdg y)).map .v
  | .sl a lo hi, ρ => bnd (denR c a ρ) fun x => bnd (denOp c lo ρ) fun l => bnd (denOp c hi ρ) fun u => rd fun h => slD h (wdg x) l u
  | .call f es, ρ => bnd (denEs c es ρ) fun ds => c.call f ds
  | .bi b es, ρ => bnd (denWs c es ρ) fun ds => rd fun h => biD h b ds
  | .sset a, ρ => bnd (denR c a ρ) fun x => rd fun h => (lstV h (wdg x)).bind fun xs => (strsOf xs).bind fun ys => if ys.length < 64 then some (.fr ((sortS (ddS ys)).map .str)) else none
  | .isi a cs, ρ => bnd (denR c a ρ) fun x => rd fun h => (isiD h (wdg x) cs).map fun k => .v (.bl k)
  | .mth m a es, ρ => bnd (denR c a ρ) fun x => (match x with
    | .v (.str s) => bnd (denWs c es ρ) fun ds => rd fun h => mtD h m s ds
    | _ => bad)
  | .comp it tg ifs elt ws, ρ => bnd (denIt c it ρ) fun xs => bnd (calmM (compL (fun x => fun h => match bindTg tg x (wipe ρ ws) with
    | none => .bad
    | some ρ' => bnd (denTs c ifs ρ') (fun k => if k then bnd (denR c elt ρ') (fun y => bnd (opt (dg y)) fun d => pur (some d)) else pur none) h) xs)) fun ys => if ys.length ≤ szL then pur (.fr ys) else bad
def denOp (c : Cx) : Op → Env → M (Option Int)
  | .no, _ => pur none
  | .yes e, ρ => bnd (denR c e ρ) fun x => (match x with
    | .v (.int i) => pur (some i)
    | _ => bad)
/-- arguments -/
def denEs (c : Cx) : Es → Env → M (List D)
  | .nil, _ => pur []
  | .cons e es, ρ => bnd (denR c e ρ) fun x => bnd (opt (dg x)) fun d => bnd (denEs c es ρ) fun ds => pur (d :: ds)
/-- arguments that are read alone -/
def denWs (c : Cx) : Es → Env → M (List D)
  | .nil, _ => pur []
  | .cons e es, ρ => bnd (denR c e ρ) fun x => bnd (denWs c es ρ) fun ds => pur (wdg x :: ds)
def denAnd (c : Cx) : Es → Env → M Bool
  | .nil, _ => bad
  | .cons e es, ρ => bnd (denR c e ρ) fun x => (match x, es with
    | .v (.bl k), .nil => pur k
    | .v (.bl k), _ => if k then denAnd c es ρ else pur false
    | _, _ => bad)
def denOr (c : Cx) : Es → Env → M Bool
  | .nil, _ => bad
  | .cons e es, ρ => bnd (denR c e ρ) fun x => (match x, es with
    | .v (.bl k), .nil => pur k
    | .v (.bl k), _ => if k then pur true else denOr c es ρ
    | _, _ => bad)
def denT (c : Cx) : T → Env → M Bool
  | .e e, ρ => bnd (denR c e ρ) fun x => (match x with
    | .v (.bl k) => pur k
    | _ => bad)
  | .cmp o a b, ρ => bnd (denR c a ρ) fun x => bnd (denR c b ρ) fun y => rd fun h => cmpD h o (wdg x) (wdg y)
  | .chain o p a b d, ρ => bnd (denR c a ρ) fun x => bnd (denR c b ρ) fun y => bnd (rd fun h => cmpD h o (wdg x) (wdg y)) fun k =>
      if k then bnd (denR c d ρ) fun z => rd fun h => cmpD h p (wdg y) (wdg z) else pur false
  | .not t, ρ => bnd (denT c t ρ) fun k => pur (!k)
  | .and ts, ρ => denTs c ts ρ
  | .or ts, ρ => denTo c ts ρ
def denTs (c : Cx) : Ts → Env → M Bool
  | .nil, _ => pur true
  | .cons t ts, ρ => bnd (denT c t ρ) fun k => if k then denTs c ts ρ else pur false
def denTo (c : Cx) : Ts → Env → M Bool
  | .nil, _ => pur false
  | .cons t ts, ρ => bnd (denT c t ρ) fun k => if k then pur true else denTo c ts ρ
def denIt (c : Cx) : It → Env → M (List D)
  | .seq e, ρ => bnd (denR c e ρ) fun x => bnd (opt (dg x)) fun d => (match d with
    | .tup xs => pur xs
    | .lst xs => pur xs
    | .scr ns => pur (ns.map .int)
    | .str s => pur (s.map fun k => .str [k])
    | _ => bad)
  | .rng e, ρ => bnd (denR c e ρ) fun x => (match x with
    | .v (.int j) => if small62 j then pur (rngL 0 j.toNat) else bad
    | _ => bad)
  | .rng2 a b, ρ => bnd (denR c a ρ) fun x => bnd (denR c b ρ) fun y => (match x, y with
    | .v (.int i), .v (.int j) => if small62 i && small62 j then pur (rngL i (j - i).toNat) else bad
    | _, _ => bad)
  | .zip a b, ρ => bnd (denR c a ρ) fun x => bnd (opt (dg x)) fun d => bnd (denR c b ρ) fun y => bnd (opt (dg y)) fun e => (match d, e with
    | .lst xs, .lst ys => pur (zipL xs ys)
    | .tup xs, .tup ys => pur (zipL xs ys)
    | _, _ => bad)
  | .enum a, ρ => bnd (denR c a ρ) fun x => bnd (opt (dg x)) fun d => (match d with
    | .lst xs => pur (enumL 0 xs)
    | _ => bad)
end
inductive Fl where
  | nx (ρ : Env) | ret (r : Rv) | brk (ρ : Env) | cont (ρ : Env)
def forL (f : D → Env → M Fl) : List D → Env → M Fl
  | [], ρ => pur (.nx ρ)
  | x :: r, ρ => bnd (f x ρ) fun fl => (match fl with
    | .nx ρ' => forL f r ρ'
    | .cont ρ' => forL f r ρ'
    | .brk ρ' => pur (.nx ρ')
    | .ret d => pur (.ret d))
def whlL (t : Env → M Bool) (f : Env → M Fl) : Nat → Env → M Fl
  | 0, _ => bad
  | n + 1, ρ => bnd (t ρ) fun k => if k then bnd (f ρ) fun fl => (match fl with
    | .nx ρ' => whlL t f n ρ'
    | .cont ρ' => whlL t f n ρ'
    | .brk ρ' => pur (.nx ρ')
    | .ret d => pur (.ret d)) else pur (.nx ρ)
/-- the values of a row of targets: own lists (true) or things -/
def denPar (c : Cx) : List (Bool × Nat) → Es → Env → M (List Slot)
  | [], .nil, _ => pur []
  | (true, _) :: l, .cons e es, ρ => bnd (denR c e ρ) fun x => (match x with
    | .fr xs => bnd (denPar c l es ρ) fun r => pur (.own xs :: r)
    | _ => bad)
  | (false, _) :: l, .cons e es, ρ => bnd (denR c e ρ) fun x => bnd (opt (dg x)) fun d => bnd (denPar c l es ρ) fun r => pur (.val d :: r)
  | _, _, _ => bad
def setAll (ρ : Env) : List (Bool × Nat) → List Slot → Env
  | (_, i) :: l, s :: r => setAll (ρ.set i s) l r
  | _, _ => ρ
def setLst (r : Nat) (xs : List D) : M Unit := fun h => .ok () (h.set r (.lst xs))
mutual
def denS (c : Cx) : S → Env → M Fl
  | .ex e, ρ => bnd (denR c e ρ) fun _ => pur (.nx ρ)
  | .asg tg e, ρ => bnd (denR c e ρ) fun x => bnd (opt (dg x)) fun d => bnd (opt (bindTg tg d ρ)) fun ρ' => pur (.nx ρ')
  | .asgO i e, ρ => bnd (denR c e ρ) fun x => (match x with
    | .fr xs => pur (.nx (ρ.set i (.own xs)))
    | _ => bad)
  | .asgC i e, ρ => bnd (denR c e ρ) fun x => (match x with
    | .fr xs => fun h => .ok (.nx (ρ.set i (.val (.ref h.length)))) (h ++ [.lst xs])
    | _ => bad)
  | .par l es, ρ => bnd (denPar c l es ρ) fun ss => pur (.nx (setAll ρ l ss))
  | .star l e, ρ => bnd (denR c e ρ) fun x => bnd (opt (dg x)) fun d => (match d with
    | .tup ds => if l.len ≤ ds.length + 1 then bnd (opt (bindTgs l (ds.take (l.len - 1) ++ [.lst (ds.drop (l.len - 1))]) ρ)) fun ρ' => pur (.nx ρ') else bad
    | _ => bad)
  | .ret e, ρ => bnd (denR c e ρ) fun x => bnd (opt (dg x)) fun d => pur (.ret (.v d))
  | .retF e, ρ => bnd (denR c e ρ) fun x => (match x with
    | .fr xs => pur (.ret (.fr xs))
    | .bw xs => pur (.ret (.fr xs))
    | _ => bad)
  | .retN, _ => pur (.ret (.v .non))
  | .iff t a b, ρ => bnd (denT c t ρ) fun k => if k then denSs c a ρ else denSs c b ρ
  | .for_ it tg body, ρ => bnd (denIt c it ρ) fun xs => forL (fun x ρ => fun h => match bindTg tg x ρ with
    | none => .bad
    | some ρ' => denSs c body ρ' h) xs ρ
  | .whl t body, ρ => whlL (denT c t) (denSs c body) c.wf ρ
  | .app i e, ρ => (match get ρ i with
    | .own xs => bnd (denR c e ρ) fun x => bnd (opt (dg x)) fun d => if xs.length < szL then pur (.nx (ρ.set i (.own (xs ++ [d])))) else bad
    | _ => bad)
  | .ext i e, ρ => (match get ρ i with
    | .own xs => bnd (denR c e ρ) fun x => bnd (opt (dg x)) fun d => (match d with
      | .lst ys => if xs.length + ys.length ≤ szL then pur (.nx (ρ.set i (.own (xs ++ ys)))) else bad
      | _ => bad)
    | _ => bad)
  | .setO i ix e, ρ => (match get ρ i with
    | .own xs => bnd (denR c e ρ) fun x => bnd (opt (dg x)) fun d => bnd (denR c ix ρ) fun y => (match y with
      | .v (.int k) => (match L2.ixN xs.length k with
        | some j => pur (.nx (ρ.set i (.own (xs.set j d))))
        | none => bad)
      | _ => bad)
    | _ => bad)
  | .setR a ix e, ρ => bnd (denR c e ρ) fun x => bnd (opt (dg x)) fun d => bnd (denR c a ρ) fun l => bnd (denR c ix ρ) fun y => (match l, y with
    | .v (.ref r), .v (.int k) => bnd (rd fun h => seqV h (.ref r)) fun xs => (match L2.ixN xs.length k with
      | some j => bnd (setLst r (xs.set j d)) fun _ => pur (.nx ρ)
      | none => bad)
    | _, _ => bad)
  | .aug i o e, ρ => (match get ρ i with
    | .val (.int k) => bnd (denR c e ρ) fun y => (match o, y with
      | .add, .v (.int j) => pur (.nx (ρ.set i (.val (.int (k + j)))))
      | .sub, .v (.int j) => pur (.nx (ρ.set i (.val (.int (k - j)))))
      | _, _ => bad)
    | _ => bad)
  | .brk, ρ => pur (.brk ρ)
  | .cont, ρ => pur (.cont ρ)
  | .pass, ρ => pur (.nx ρ)
  | .frz i, ρ => (match get ρ i with
    | .own xs => pur (.nx (ρ.set i (.val (.lst xs))))
    | _ => bad)
def denSs (c : Cx) : Ss → Env → M Fl
  | .nil, ρ => pur (.nx ρ)
  | .cons s ss, ρ => bnd (denS c s ρ) fun fl => (match fl with
    | .nx ρ' => denSs c ss ρ'
    | fl => pur fl)
end
/-- a def: its names by slot (parameters first), how many parameters, its body -/
structure Fn where
  name : Str
  ns : List Str
  np : Nat
  body : Ss
  dfl : List D := []
def startE (f : Fn) (ds : List D) : Env := ds.map Slot.val ++ List.replicate (f.ns.length - ds.length) .emp
def runF (c : Cx) (f : Fn) (ds : List D) : M Rv := fun h =>
  if ds.length ≤ f.np ∧ f.np ≤ ds.length + f.dfl.length then
    bnd (denSs c f.body (startE f (ds ++ f.dfl.drop (f.dfl.length + ds.length - f.np)))) (fun fl => match fl with
      | .ret r => pur r
      | .nx _ => pur (.v .non)
      | _ => bad) h
  else .bad
def run (fs : List Fn) (gl : Str → Option D) (wf : Nat) : Nat → Nat → List D → M Rv
  | 0, _, _ => bad
  | n + 1, f, ds => (match fs[f]? with
    | some fn => runF ⟨run fs gl wf n, gl, wf⟩ fn ds
    | none => bad)
end Z
end

section
namespace Z
open PySem PySem.Spec PyProof.Rows L2

/-! ### results -/
theorem post_bnd {α β : Type} {m : M α} {f : α → M β} {h : LH} {Q : β → LH → Prop} {X : Str → List (Str × D) → LH → Prop} :
    (bnd m f h).post Q X ↔ (m h).post (fun a h' => (f a h').post Q X) X := by
  unfold bnd
  cases m h <;> exact Iff.rfl
theorem post_mono {α : Type} {r : Res α} {Q Q' : α → LH → Prop} {X X' : Str → List (Str × D) → LH → Prop} (p : r.post Q X) (hq : ∀ a h, Q a h → Q' a h) (hx : ∀ c fs h, X c fs h → X' c fs h) : r.post Q' X' := by
  cases r with
  | ok a h => exact hq _ _ p
  | exc c fs h => exact hx _ _ _ p
  | bad => exact p
theorem post_opt {α : Type} {o : Option α} {h : LH} {Q : α → LH → Prop} {X : Str → List (Str × D) → LH → Prop} (p : (opt o h).post Q X) : ∃ a, o = some a ∧ Q a h := by
  cases o with
  | none => exact p.elim
  | some a => exact ⟨a, rfl, p⟩
theorem post_rd {α : Type} {f : LH → Option α} {h : LH} {Q : α → LH → Prop} {X : Str → List (Str × D) → LH → Prop} (p : (rd f h).post Q X) : ∃ a, f h = some a ∧ Q a h := by
  unfold rd at p
  cases e : f h with
  | none => rw [e] at p; exact p.elim
  | some a => rw [e] at p; exact ⟨a, rfl, p⟩

/-! ### the relation -/
/-- signs -/
def okS (s : List Nat) : Bool := s.all fun c => decide (c < 1114112)
section
variable (K : PySem.W.Frag) (mg : Str → Option Value)
mutual
inductive RD (F : Addr → Prop) (B : Nat → Option Addr) (H : Hp) : D → V → Prop where
  | non : RD F B H .non .non
  | bl (b : Bool) : RD F B H (.bl b) (.bl b)
  | int (i : Int) : RD F B H (.int i) (.int i)
  | str (s : List Nat) : okS s = true → RD F B H (.str s) (.str (str s))
  | tup {xs : List D} {a : Addr} {vs : List V} : SqT K H a vs → RDs F B H xs vs → RD F B H (.tup xs) (.ref a)
  | scr {ns : List Int} {a : Addr} : ((Rd H a (.lst (ns.map V.int)) ∧ ¬ F a ∧ ∀ r, B r ≠ some a) ∨ ∀ H', SqL K H' a (ns.map V.int)) → RD F B H (.scr ns) (.ref a)
  | lst {xs : List D} {a : Addr} {vs : List V} : H a = some (.lst vs) → ¬ F a → (∀ r, B r ≠ some a) → RDs F B H xs vs → RD F B H (.lst xs) (.ref a)
  | ref {r : Nat} {a : Addr} : B r = some a → RD F B H (.ref r) (.ref a)
  | glo {x : Str} {a : Addr} : mg x = some (.ref a) → RD F B H (.glo x) (.ref a)
  | ty (n : String) : RD F B H (.ty n) (.ty n)
inductive RDs (F : Addr → Prop) (B : Nat → Option Addr) (H : Hp) : List D → List V → Prop where
  | nil : RDs F B H [] []
  | cons {x : D} {v : V} {xs : List D} {vs : List V} : RD F B H x v → RDs F B H xs vs → RDs F B H (x :: xs) (v :: vs)
end
end
/-- nothing -/
abbrev E0 : Addr → Prop := fun _ => False
/-- what an evaluation does to the heap: what is no cell of ours, nor in P, stays -/
structure Ext (P : Addr → Prop) (B B' : Nat → Option Addr) (H H' : Hp) : Prop where
  keep : ∀ a o, H a = some o → ¬ P a → (∀ r, B r ≠ some a) → H' a = some o
  refs : ∀ r a, B r = some a → B' r = some a
  news : ∀ r a, B' r = some a → B r = some a ∨ H a = none
  dom : ∀ a, H a ≠ none → H' a ≠ none
theorem Ext.rfl' {P : Addr → Prop} {B : Nat → Option Addr} {H : Hp} : Ext P B B H H := ⟨fun _ _ h _ _ => h, fun _ _ h => h, fun _ _ h => .inl h, fun _ h => h⟩
theorem Ext.trans {P P' : Addr → Prop} {B B1 B2 : Nat → Option Addr} {H H1 H2 : Hp} (x : Ext P B B1 H H1) (y : Ext P' B1 B2 H1 H2) (w : ∀ a, P' a → P a ∨ H a = none) : Ext P B B2 H H2 where
  keep := fun a o h p n => by
    refine y.keep a o (x.keep a o h p n) (fun z => ?_) fun r e => ?_
    · rcases w a z with q | q
      · exact p q
      · rw [q] at h; cases h
    · rcases x.news r a e with z | z
      · exact n r z
      · rw [z] at h; cases h
  refs := fun r a h => y.refs r a (x.refs r a h)
  news := fun r a h => by
    rcases y.news r a h with z | z
    · exact x.news r a z
    · refine .inr ?_
      cases q : H a with
      | none => rfl
      | some o => exact absurd z (x.dom a (by rw [q]; exact fun w => nomatch w))
  dom := fun a h => y.dom a (x.dom a h)
theorem Ext.mono {P P' : Addr → Prop} {B B' : Nat → Option Addr} {H H' : Hp} (x : Ext P B B' H H') (w : ∀ a, P a → P' a ∨ H a = none) : Ext P' B B' H H' :=
  ⟨fun a o h p n => x.keep a o h (fun z => (w a z).elim p fun q => by rw [q] at h; cases h) n, x.refs, x.news, x.dom⟩
theorem Ext.seq {P : Addr → Prop} {B B1 B2 : Nat → Option Addr} {H H1 H2 : Hp} (x : Ext P B B1 H H1) (y : Ext E0 B1 B2 H1 H2) : Ext P B B2 H H2 := x.trans y fun _ z => z.elim
/-- something new that is none of ours -/
theorem Ext.new {P : Addr → Prop} {B : Nat → Option Addr} {H : Hp} {p : Addr} {o : HO} (n : H p = none) : Ext P B B H (upd H p o) where
  keep := fun a u h _ _ => by rw [upd_ne (ne_of_none h n)]; exact h
  refs := fun _ _ h => h
  news := fun _ _ h => .inl h
  dom := fun a h => by
    by_cases e : a = p
    · rw [e, upd_same]; exact fun z => nomatch z
    · rw [upd_ne e]; exact h
/-- the cells are lists -/
abbrev Cells (B : Nat → Option Addr) (H : Hp) : Prop := ∀ r a, B r = some a → ∃ xs, H a = some (.lst xs)
/-- what is in P is a list of somebody's own -/
abbrev Owns (F P : Addr → Prop) (H : Hp) : Prop := ∀ a, P a → F a ∧ ∃ xs, H a = some (.lst xs)
theorem owns0 {F : Addr → Prop} {H : Hp} : Owns F E0 H := fun _ z => z.elim
section
variable {K : PySem.W.Frag} {mg : Str → Option Value} {F F' P : Addr → Prop} {B B' : Nat → Option Addr} {H H' : Hp}
theorem SqT.ext {a : Addr} {vs : List V} (h : SqT K H a vs) (x : Ext P B B' H H') (nb : Cells B H) (np : Owns F P H) : SqT K H' a vs := by
  have go : ∀ o, H a = some o → (∀ ys, o ≠ .lst ys) → H' a = some o := fun o e ne => x.keep a o e (fun q => by
    obtain ⟨_, ys, z⟩ := np a q
    rw [e] at z
    exact ne ys (Option.some.inj z)) fun r q => by
    obtain ⟨ys, z⟩ := nb r a q
    rw [e] at z
    exact ne ys (Option.some.inj z)
  rcases h with (h | ⟨o, h⟩) | h
  · exact .inl (.inl (go _ h fun _ z => nomatch z))
  · exact .inl (.inr ⟨o, go _ h fun _ z => nomatch z⟩)
  · exact .inr h
mutual
theorem RD.ext (x : Ext P B B' H H') (nb : Cells B H) (np : Owns F P H := by exact owns0) : ∀ {d : D} {v : V}, RD K mg F B H d v → RD K mg F B' H' d v
  | _, _, .non => .non
  | _, _, .bl b => .bl b
  | _, _, .int i => .int i
  | _, _, .str s o => .str s o
  | _, _, .tup h hs => .tup (SqT.ext h x nb np) (RDs.ext x nb np hs)
  | _, _, .lst h f nr hs => by
    have nr' : ∀ (o : HO) a, H a = some o → (∀ r, B r ≠ some a) → ∀ r, B' r ≠ some a := fun o a e n r z => by
      rcases x.news r a z with q | q
      · exact n r q
      · rw [q] at e; cases e
    exact .lst (x.keep _ _ h (fun z => f (np _ z).1) nr) f (nr' _ _ h nr) (RDs.ext x nb np hs)
  | _, _, .scr h => by
    have nr' : ∀ (o : HO) a, H a = some o → (∀ r, B r ≠ some a) → ∀ r, B' r ≠ some a := fun o a e n r z => by
      rcases x.news r a z with q | q
      · exact n r q
      · rw [q] at e; cases e
    refine .scr ?_
    rcases h with ⟨h | ⟨o, h⟩, f, nr⟩ | h
    · exact .inl ⟨.inl (x.keep _ _ h (fun z => f (np _ z).1) nr), f, nr' _ _ h nr⟩
    · exact .inl ⟨.inr ⟨o, x.keep _ _ h (fun z => f (np _ z).1) nr⟩, f, nr' _ _ h nr⟩
    · exact .inr h
  | _, _, .ref h => .ref (x.refs _ _ h)
  | _, _, .glo h => .glo h
  | _, _, .ty n => .ty n
theorem RDs.ext (x : Ext P B B' H H') (nb : Cells B H) (np : Owns F P H := by exact owns0) : ∀ {ds : List D} {vs : List V}, RDs K mg F B H ds vs → RDs K mg F B' H' ds vs
  | _, _, .nil => .nil
  | _, _, .cons h hs => .cons (RD.ext x nb np h) (RDs.ext x nb np hs)
end
mutual
theorem RD.weak (w : ∀ a, F' a → H a ≠ none → F a) : ∀ {d : D} {v : V}, RD K mg F B H d v → RD K mg F' B H d v
  | _, _, .non => .non
  | _, _, .bl b => .bl b
  | _, _, .int i => .int i
  | _, _, .str s o => .str s o
  | _, _, .tup h hs => .tup h (RDs.weak w hs)
  | _, _, .lst h f nr hs => by
    refine .lst h (fun z => f (w _ z ?_)) nr (RDs.weak w hs)
    rw [h]; exact fun z => nomatch z
  | _, _, .scr h => by
    refine .scr ?_
    rcases h with ⟨h, f, nr⟩ | h
    · refine .inl ⟨h, fun z => f (w _ z ?_), nr⟩
      rcases h with h | ⟨o, h⟩ <;> (rw [h]; exact fun z => nomatch z)
    · exact .inr h
  | _, _, .ref h => .ref h
  | _, _, .glo h => .glo h
  | _, _, .ty n => .ty n
theorem RDs.weak (w : ∀ a, F' a → H a ≠ none → F a) : ∀ {ds : List D} {vs : List V}, RDs K mg F B H ds vs → RDs K mg F' B H ds vs
  | _, _, .nil => .nil
  | _, _, .cons h hs => .cons (RD.weak w h) (RDs.weak w hs)
end
theorem RDs.ints : ∀ ns : List Int, RDs K mg F B H (ns.map D.int) (ns.map V.int)
  | [] => .nil
  | n :: r => .cons (.int n) (RDs.ints r)
theorem RDs.length : ∀ {ds : List D} {vs : List V}, RDs K mg F B H ds vs → ds.length = vs.length
  | _, _, .nil => rfl
  | _, _, .cons _ t => by rw [List.length_cons, List.length_cons, RDs.length t]
theorem RDs.append : ∀ {ds es : List D} {vs ws : List V}, RDs K mg F B H ds vs → RDs K mg F B H es ws → RDs K mg F B H (ds ++ es) (vs ++ ws)
  | _, _, _, _, .nil, t => t
  | _, _, _, _, .cons h s, t => .cons h (RDs.append s t)
theorem RDs.take : ∀ {ds : List D} {vs : List V} (n : Nat), RDs K mg F B H ds vs → RDs K mg F B H (ds.take n) (vs.take n)
  | _, _, 0, _ => by rw [List.take_zero, List.take_zero]; exact .nil
  | _, _, _ + 1, .nil => .nil
  | _, _, n + 1, .cons h t => .cons h (RDs.take n t)
theorem RDs.drop : ∀ {ds : List D} {vs : List V} (n : Nat), RDs K mg F B H ds vs → RDs K mg F B H (ds.drop n) (vs.drop n)
  | _, _, 0, t => t
  | _, _, _ + 1, .nil => .nil
  | _, _, n + 1, .cons _ t => RDs.drop n t
theorem RDs.set : ∀ {ds : List D} {vs : List V} (i : Nat) {d : D} {v : V}, RD K mg F B H d v → RDs K mg F B H ds vs → RDs K mg F B H (ds.set i d) (vs.set i v)
  | _, _, _, _, _, _, .nil => .nil
  | _, _, 0, _, _, r, .cons _ t => .cons r t
  | _, _, i + 1, _, _, r, .cons h t => .cons h (RDs.set i r t)
theorem RDs.get : ∀ {ds : List D} {vs : List V} {i : Nat} {d : D}, RDs K mg F B H ds vs → ds[i]? = some d → ∃ v, vs[i]? = some v ∧ RD K mg F B H d v
  | _, _, _, _, .nil, e => by simp at e
  | _, _, 0, _, .cons h _, e => by
    have : _ = _ := Option.some.inj e
    subst this
    exact ⟨_, rfl, h⟩
  | _, _, i + 1, _, .cons _ t, e => by
    obtain ⟨v, h1, h2⟩ := RDs.get (i := i) t (by simpa using e)
    exact ⟨v, by simpa using h1, h2⟩
theorem RDs.getV : ∀ {ds : List D} {vs : List V} {i : Nat} {v : V}, RDs K mg F B H ds vs → vs[i]? = some v → ∃ d, ds[i]? = some d ∧ RD K mg F B H d v
  | _, _, _, _, .nil, e => by simp at e
  | _, _, 0, _, .cons h _, e => by
    have : _ = _ := Option.some.inj e
    subst this
    exact ⟨_, rfl, h⟩
  | _, _, i + 1, _, .cons _ t, e => by
    obtain ⟨v, h1, h2⟩ := RDs.getV (i := i) t (by simpa using e)
    exact ⟨v, by simpa using h1, h2⟩
theorem RDs.replicate {ds : List D} {vs : List V} (h : RDs K mg F B H ds vs) : ∀ n, RDs K mg F B H (List.replicate n ds).flatten (List.replicate n vs).flatten
  | 0 => .nil
  | n + 1 => by
    rw [List.replicate_succ, List.replicate_succ, List.flatten_cons, List.flatten_cons]
    exact h.append (RDs.replicate h n)
end

/-! ### the heaps, the frames -/
section
variable (K : PySem.W.Frag) (mg : Str → Option Value)
def RO (F : Addr → Prop) (B : Nat → Option Addr) (H : Hp) (a : Addr) : Ob → Prop
  | .lst xs => ∃ vs, H a = some (.lst vs) ∧ RDs K mg F B H xs vs
  | .ins _ _ => False
structure HR (F : Addr → Prop) (B : Nat → Option Addr) (h : LH) (H : Hp) : Prop where
  at_ : ∀ r o, h[r]? = some o → ∃ a, B r = some a ∧ RO K mg F B H a o
  lt : ∀ r a, B r = some a → r < h.length
  inj : ∀ r r' a, B r = some a → B r' = some a → r = r'
  nf : ∀ r a, B r = some a → ¬ F a
abbrev Ft (F : Addr → Prop) (ow : Nat → Option Addr) : Addr → Prop := fun a => F a ∨ ∃ i, ow i = some a
structure SR (F : Addr → Prop) (B : Nat → Option Addr) (ow : Nat → Option Addr) (ρ : Env) (h : LH) (σ : L2.St) (H : Hp) : Prop where
  len : ρ.length = σ.length
  val : ∀ (i : Nat) d, ρ[i]? = some (Slot.val d) → ∃ v, σ[i]? = some (some v) ∧ RD K mg (Ft F ow) B H d v
  own : ∀ (i : Nat) xs, ρ[i]? = some (Slot.own xs) → ∃ a vs, ow i = some a ∧ σ[i]? = some (some (.ref a)) ∧ H a = some (.lst vs) ∧ RDs K mg (Ft F ow) B H xs vs
  ft : ∀ a, Ft F ow a → H a ≠ none
  inj : ∀ i j a, ow i = some a → ow j = some a → i = j
  sep : ∀ i a, ow i = some a → ¬ F a ∧ ∀ r, B r ≠ some a
  ol : ∀ i a, ow i = some a → ∃ ys, H a = some (.lst ys)
  heap : HR K mg (Ft F ow) B h H
end
section
variable {K : PySem.W.Frag} {mg : Str → Option Value} {F F' : Addr → Prop} {B B' : Nat → Option Addr} {H H' : Hp} {ow : Nat → Option Addr} {ρ : Env} {h h' : LH} {σ : L2.St}
theorem HR.cells (x : HR K mg F B h H) : Cells B H := fun r a e => by
  obtain ⟨o, q⟩ : ∃ o, h[r]? = some o := ⟨h[r]'(x.lt r a e), List.getElem?_eq_getElem (x.lt r a e)⟩
  obtain ⟨b, e', z⟩ := x.at_ r o q
  rw [e] at e'
  cases e'
  cases o with
  | lst xs =>
    obtain ⟨vs, z, _⟩ := z
    exact ⟨vs, z⟩
  | ins _ _ => exact z.elim
theorem HR.weak (x : HR K mg F B h H) (w : ∀ a, F' a → H a ≠ none → F a) : HR K mg F' B h H where
  at_ := fun r o e => by
    obtain ⟨a, e', z⟩ := x.at_ r o e
    refine ⟨a, e', ?_⟩
    cases o with
    | lst xs =>
      obtain ⟨vs, z, q⟩ := z
      exact ⟨vs, z, q.weak w⟩
    | ins _ _ => exact z.elim
  lt := x.lt
  inj := x.inj
  nf := fun r a e z => by
    obtain ⟨ys, q⟩ := x.cells r a e
    exact x.nf r a e (w a z (by rw [q]; exact fun z => nomatch z))
/-- the frame stands behind an evaluation -/
theorem SR.ext (s : SR K mg F B ow ρ h σ H) (x : Ext E0 B B' H H') (hr : HR K mg (Ft F ow) B' h' H') : SR K mg F B' ow ρ h' σ H' where
  len := s.len
  val := fun i d e => by
    obtain ⟨v, e1, r⟩ := s.val i d e
    exact ⟨v, e1, r.ext x s.heap.cells⟩
  own := fun i xs e => by
    obtain ⟨a, vs, e1, e2, e3, r⟩ := s.own i xs e
    exact ⟨a, vs, e1, e2, x.keep a _ e3 (fun z => z) (s.sep i a e1).2, r.ext x s.heap.cells⟩
  ft := fun a z => x.dom a (s.ft a z)
  inj := s.inj
  sep := fun i a e => by
    refine ⟨(s.sep i a e).1, fun r z => ?_⟩
    rcases x.news r a z with q | q
    · exact (s.sep i a e).2 r q
    · exact s.ft a (.inr ⟨i, e⟩) q
  ol := fun i a e => by
    obtain ⟨ys, q⟩ := s.ol i a e
    exact ⟨ys, x.keep a _ q (fun z => z) (s.sep i a e).2⟩
  heap := hr

/-- a value that is only read: of ours, or a list of the frame's own -/
def WL (K : PySem.W.Frag) (mg : Str → Option Value) (F : Addr → Prop) (B : Nat → Option Addr) (H : Hp) (d : D) (v : V) : Prop :=
  RD K mg F B H d v ∨ ∃ xs a vs, d = .lst xs ∧ v = .ref a ∧ (∀ r, B r ≠ some a) ∧ H a = some (.lst vs) ∧ RDs K mg F B H xs vs
/-- a result -/
def RR (K : PySem.W.Frag) (mg : Str → Option Value) (F : Addr → Prop) (B : Nat → Option Addr) (ow : Nat → Option Addr) (h : LH) (H0 H : Hp) : Rv → V → Prop
  | .v d, v => RD K mg (Ft F ow) B H d v
  | .fr xs, v => ∃ a vs, v = .ref a ∧ H0 a = none ∧ H a = some (.lst vs) ∧ (∀ r, B r ≠ some a) ∧ ¬ F a ∧ (∀ i, ow i ≠ some a) ∧ RDs K mg (fun b => Ft F ow b ∨ b = a) B H xs vs ∧ HR K mg (fun b => Ft F ow b ∨ b = a) B h H
  | .bw xs, v => ∃ i a vs, v = .ref a ∧ ow i = some a ∧ H a = some (.lst vs) ∧ RDs K mg (Ft F ow) B H xs vs
theorem RR.dg {H0 : Hp} {rv : Rv} {v : V} {d : D} (r : RR K mg F B ow h H0 H rv v) (e : dg rv = some d) : RD K mg (Ft F ow) B H d v := by
  cases rv with
  | v d' =>
    cases (show some d' = some d from e)
    exact r
  | fr xs =>
    cases (show some (D.lst xs) = some d from e)
    obtain ⟨a, vs, rfl, e0, e1, nr, nf, no, q, _⟩ := r
    refine .lst e1 (fun z => ?_) nr (q.weak fun b hb _ => .inl hb)
    rcases z with z | ⟨i, z⟩
    · exact nf z
    · exact no i z
  | bw xs => cases e
theorem RR.wdg {H0 : Hp} {rv : Rv} {v : V} (s : SR K mg F B ow ρ h σ H) (r : RR K mg F B ow h H0 H rv v) : WL K mg (Ft F ow) B H (wdg rv) v := by
  cases rv with
  | v d' => exact .inl r
  | fr xs => exact .inl (RR.dg r rfl)
  | bw xs =>
    obtain ⟨i, a, vs, rfl, e, q, z⟩ := r
    exact .inr ⟨xs, a, vs, rfl, rfl, (s.sep i a e).2, q, z⟩
theorem WL.ext {d : D} {v : V} (w : WL K mg F B H d v) (x : Ext E0 B B' H H') (nb : Cells B H) : WL K mg F B' H' d v := by
  rcases w with w | ⟨xs, a, vs, e1, e2, nr, e3, q⟩
  · exact .inl (w.ext x nb)
  · refine .inr ⟨xs, a, vs, e1, e2, fun r z => ?_, x.keep a _ e3 (fun z => z) nr, q.ext x nb⟩
    rcases x.news r a z with y | y
    · exact nr r y
    · rw [y] at e3; cases e3
/-- a list's items -/
theorem WL.lstq {d : D} {v : V} {xs : List D} (w : WL K mg F B H d v) (hr : HR K mg F B h H) (e : lstV h d = some xs) : ∃ a vs, v = .ref a ∧ SqL K H a vs ∧ RDs K mg F B H xs vs := by
  rcases w with w | ⟨ys, a, vs, rfl, rfl, _, e3, q⟩
  · cases w with
    | lst h1 f nr h2 =>
      cases (show some _ = some xs from e)
      exact ⟨_, _, rfl, SqL.of h1, h2⟩
    | scr h1 =>
      cases (show some _ = some xs from e)
      rcases h1 with ⟨h1, _⟩ | h1
      · exact ⟨_, _, rfl, .inl h1, RDs.ints _⟩
      · exact ⟨_, _, rfl, h1 _, RDs.ints _⟩
    | @ref r a h1 =>
      unfold lstV at e
      simp only at e
      split at e
      · next ys q =>
        cases e
        obtain ⟨b, e1, vs, e2, q2⟩ := hr.at_ _ _ q
        rw [h1] at e1
        cases e1
        exact ⟨a, vs, rfl, SqL.of e2, q2⟩
      · cases e
    | _ => cases e
  · cases (show some ys = some xs from e)
    exact ⟨a, vs, rfl, SqL.of e3, q⟩
/-- a sequence's items -/
theorem WL.seq {d : D} {v : V} {xs : List D} (w : WL K mg F B H d v) (hr : HR K mg F B h H) (e : seqV h d = some xs) : ∃ a vs, v = .ref a ∧ (SqL K H a vs ∨ SqT K H a vs) ∧ RDs K mg F B H xs vs := by
  unfold seqV at e
  split at e
  · next ys =>
    cases e
    rcases w with w | ⟨ys, a, vs, q, _⟩
    · cases w with
      | tup h1 h2 => exact ⟨_, _, rfl, .inr h1, h2⟩
    · cases q
  · obtain ⟨a, vs, e1, e2, e3⟩ := w.lstq hr e
    exact ⟨a, vs, e1, .inl e2, e3⟩
end
end Z
end

section
namespace Z
open PySem PySem.Spec PyProof.Rows L2

/-! ### data for the model's == -/
theorem str_inj {a b : List Nat} : decide (str a = str b) = decide (a = b) := by
  by_cases h : a = b
  · subst h; simp
  · have : ¬ str a = str b := fun e => h (by have := congrArg (fun z : Str => z.cps.toList) e; simpa using this)
    rw [decide_eq_false this, decide_eq_false h]
theorem str_beq {a b : List Nat} : (str a == str b) = decide (a = b) := by
  rw [← str_inj, Bool.beq_eq_decide_eq]
mutual
theorem eqD_py : ∀ (n : Nat) (a b : D), plain n a = true → plain n b = true → PyData.eqv (py a) (py b) = eqD a b := by
  intro n a b ha hb
  cases a with
  | lst xs =>
    cases n with
    | zero => simp [plain] at ha
    | succ n =>
      cases b with
      | lst ys =>
        simp only [plain] at ha hb
        simp only [py, PyData.eqv, eqD]
        exact eqDs_py n xs ys ha hb
      | set _ | ref _ | glo _ | ty _ | scr _ => simp [plain] at hb
      | _ => simp [py, PyData.eqv, eqD]
  | tup xs =>
    cases n with
    | zero => simp [plain] at ha
    | succ n =>
      cases b with
      | tup ys =>
        simp only [plain] at ha hb
        simp only [py, PyData.eqv, eqD]
        exact eqDs_py n xs ys ha hb
      | set _ | ref _ | glo _ | ty _ | scr _ => simp [plain] at hb
      | _ => simp [py, PyData.eqv, eqD]
  | set _ | ref _ | glo _ | ty _ | scr _ => simp [plain] at ha
  | str s =>
    cases b with
    | str z => simp only [py, PyData.eqv, eqD]; exact str_beq
    | set _ | ref _ | glo _ | ty _ | scr _ => simp [plain] at hb
    | _ => simp [py, PyData.eqv, eqD]
  | _ =>
    cases b with
    | set _ | ref _ | glo _ | ty _ | scr _ => simp [plain] at hb
    | _ => simp [py, PyData.eqv, eqD]
theorem eqDs_py : ∀ (n : Nat) (xs ys : List D), plains n xs = true → plains n ys = true → PyData.eqvAll (pys xs) (pys ys) = eqDs xs ys
  | _, [], [], _, _ => by simp [pys, PyData.eqvAll, eqDs]
  | _, [], _ :: _, _, _ => by simp [pys, PyData.eqvAll, eqDs]
  | _, _ :: _, [], _, _ => by simp [pys, PyData.eqvAll, eqDs]
  | n, x :: xs, y :: ys, ha, hb => by
    simp only [plains, Bool.and_eq_true] at ha hb
    simp only [pys, PyData.eqvAll, eqDs]
    rw [eqD_py n x y ha.1 hb.1, eqDs_py n xs ys ha.2 hb.2]
end
section
variable {K : PySem.W.Frag} {mg : Str → Option Value} {F : Addr → Prop} {B B' : Nat → Option Addr} {H H' : Hp}
theorem okS_at {s : List Nat} (h : okS s = true) : ∀ c ∈ s, c < 1114112 := fun c hc => of_decide_eq_true (List.all_eq_true.mp h c hc)
theorem okS_of {s : List Nat} (h : ∀ c ∈ s, c < 1114112) : okS s = true := List.all_eq_true.mpr fun c hc => decide_eq_true (h c hc)
theorem strOk_of {s : List Nat} (h : okS s = true) : PyData.strOk (str s) = true := by
  unfold PyData.strOk
  rw [Array.all_eq_true']
  intro c hc
  exact decide_eq_true (okS_at h c (by simpa using hc))
mutual
theorem RD.dp : ∀ (n : Nat) (d : D) (v : V), RD K mg F B H d v → plain n d = true → Dp K H v (py d) ∧ (py d).canLay0 = true ∧ (py d).depth ≤ n := by
  intro n d v r p
  cases r with
  | non => exact ⟨.non, rfl, Nat.zero_le _⟩
  | bl b => exact ⟨.bl b, rfl, Nat.zero_le _⟩
  | int i => exact ⟨.int i, rfl, Nat.zero_le _⟩
  | str s o => exact ⟨.str _, strOk_of o, Nat.zero_le _⟩
  | tup h1 h2 =>
    cases n with
    | zero => simp [plain] at p
    | succ n =>
      obtain ⟨h3, h4, h5⟩ := RDs.dp n _ _ h2 (by simpa [plain] using p)
      exact ⟨.tup h1 h3, by simpa [py, PyData.canLay0] using h4, by simpa [py, PyData.depth] using h5⟩
  | lst h1 _ _ h2 =>
    cases n with
    | zero => simp [plain] at p
    | succ n =>
      obtain ⟨h3, h4, h5⟩ := RDs.dp n _ _ h2 (by simpa [plain] using p)
      exact ⟨.lst (SqL.of h1) h3, by simpa [py, PyData.canLay0] using h4, by simpa [py, PyData.depth] using h5⟩
  | ref _ => simp [plain] at p
  | scr _ => simp [plain] at p
  | glo _ => simp [plain] at p
  | ty _ => simp [plain] at p
theorem RDs.dp : ∀ (n : Nat) (ds : List D) (vs : List V), RDs K mg F B H ds vs → plains n ds = true → DpAll K H vs (pys ds) ∧ PyData.canLayAll0 (pys ds) = true ∧ PyData.depthAll (pys ds) ≤ n := by
  intro n ds vs r p
  cases r with
  | nil => exact ⟨.nil, rfl, Nat.zero_le _⟩
  | cons h1 h2 =>
    simp only [plains, Bool.and_eq_true] at p
    obtain ⟨a1, a2, a3⟩ := RD.dp n _ _ h1 p.1
    obtain ⟨b1, b2, b3⟩ := RDs.dp n _ _ h2 p.2
    refine ⟨.cons a1 b1, ?_, ?_⟩
    · simp only [pys, PyData.canLayAll0, a2, b2, Bool.and_self]
    · simp only [pys, PyData.depthAll]; exact Nat.max_le.mpr ⟨a3, b3⟩
end
theorem WL.dp {d : D} {v : V} (w : WL K mg F B H d v) {n : Nat} (p : plain n d = true) : Dp K H v (py d) ∧ (py d).canLay0 = true ∧ (py d).depth ≤ n := by
  rcases w with w | ⟨xs, a, vs, rfl, rfl, _, e3, q⟩
  · exact RD.dp n d v w p
  · cases n with
    | zero => simp [plain] at p
    | succ n =>
      obtain ⟨h3, h4, h5⟩ := RDs.dp n _ _ q (by simpa [plain] using p)
      exact ⟨.lst (SqL.of e3) h3, by simpa [py, PyData.canLay0] using h4, by simpa [py, PyData.depth] using h5⟩
theorem WL.shaped {d : D} {v : V} (w : WL K mg F B H d v) (p : plain 60 d = true) : SeqAt.shaped (py d) = true := by
  obtain ⟨_, h1, h2⟩ := w.dp p
  unfold SeqAt.shaped
  rw [h1, Bool.true_and]
  exact decide_eq_true (Nat.le_trans h2 (by decide))
end

/-! ### what goes on behind an operation -/
section
variable {K : PySem.W.Frag} {mg : Str → Option Value} {F : Addr → Prop} {B B' : Nat → Option Addr} {H H' : Hp} {ow : Nat → Option Addr} {ρ : Env} {h : LH} {σ : L2.St}
theorem HR.keepH (x : HR K mg F B h H) (e : Ext E0 B B H H') (k : ∀ r a, B r = some a → H' a = H a) : HR K mg F B h H' where
  at_ := fun r o q => by
    obtain ⟨a, e', z⟩ := x.at_ r o q
    refine ⟨a, e', ?_⟩
    cases o with
    | lst xs =>
      obtain ⟨vs, z1, z2⟩ := z
      exact ⟨vs, (k r a e').trans z1, z2.ext e x.cells⟩
    | ins _ _ => exact z.elim
  lt := x.lt
  inj := x.inj
  nf := x.nf
theorem HR.new (x : HR K mg F B h H) {p : Addr} {o : HO} (n : H p = none) : HR K mg F B h (upd H p o) :=
  x.keepH (Ext.new n) fun r a e => upd_ne fun z => by
    obtain ⟨ys, q⟩ := x.cells r a e
    rw [z, n] at q; cases q
/-- the wish behind an operation on the same small heap -/
abbrev Cont (K : PySem.W.Frag) (mg : Str → Option Value) (F : Addr → Prop) (B : Nat → Option Addr) (ow : Nat → Option Addr) (h : LH) (H : Hp) (rv : Rv) (Q : VK) : Prop :=
  ∀ B' H' v, Ext E0 B B' H H' → RR K mg F B' ow h H H' rv v → HR K mg (Ft F ow) B' h H' → Q v H'
theorem Cont.here {rv : Rv} {Q : VK} (s : SR K mg F B ow ρ h σ H) (c : Cont K mg F B ow h H rv Q) {v : V} (r : RR K mg F B ow h H H rv v) : Q v H := c B H v Ext.rfl' r s.heap
theorem Cont.tup {xs : List D} {vs : List V} {Q : VK} (s : SR K mg F B ow ρ h σ H) (c : Cont K mg F B ow h H (.v (.tup xs)) Q) (r : RDs K mg (Ft F ow) B H xs vs) : ∀ p, H p = none → Q (.ref p) (upd H p (.tup vs)) := fun p n =>
  c B _ _ (Ext.new n) (.tup (.inl (.inl upd_same)) (r.ext (Ext.new n) s.heap.cells)) (s.heap.new n)
theorem RDs.fresh {ds : List D} {vs : List V} (r : RDs K mg F B H ds vs) {p : Addr} (n : H p = none) : RDs K mg (fun b => F b ∨ b = p) B H ds vs := r.weak fun a z k => by
  rcases z with z | z
  · exact z
  · rw [z] at k; exact absurd n k
theorem HR.fresh (x : HR K mg F B h H) {p : Addr} (n : H p = none) : HR K mg (fun b => F b ∨ b = p) B h H := x.weak fun a z k => by
  rcases z with z | z
  · exact z
  · rw [z] at k; exact absurd n k
theorem Cont.lst {xs : List D} {vs : List V} {Q : VK} (s : SR K mg F B ow ρ h σ H) (c : Cont K mg F B ow h H (.fr xs) Q) (r : RDs K mg (Ft F ow) B H xs vs) : ∀ p, H p = none → Q (.ref p) (upd H p (.lst vs)) := fun p n => by
  refine c B _ _ (Ext.new n) ⟨p, vs, rfl, n, upd_same, fun r e => ?_, fun z => s.ft p (.inl z) n, fun i z => s.ft p (.inr ⟨i, z⟩) n, ?_, ?_⟩ (s.heap.new n)
  · obtain ⟨ys, q⟩ := s.heap.cells r p e
    rw [n] at q; cases q
  · exact (r.fresh n).ext (Ext.new n) s.heap.cells
  · exact (s.heap.fresh n).new n
end
theorem szL_eq : szL = sizeLine := by rw [sizeLine_eq]; rfl
theorem str_len (s : List Nat) : (str s).length = s.length := by simp [Str.length]
theorem str_app (a b : List Nat) : str a ++ str b = str (a ++ b) := by
  show Str.append (str a) (str b) = _
  simp [Str.append]
theorem okS_append {a b : List Nat} (x : okS a = true) (y : okS b = true) : okS (a ++ b) = true := by
  unfold okS at *
  rw [List.all_append, x, y]; rfl
theorem okS_sub {a b : List Nat} (x : okS a = true) (y : ∀ c ∈ b, c ∈ a) : okS b = true := okS_of fun c hc => okS_at x c (y c hc)

/-! ### binary operators -/
def bopOf : Bop → Operator
  | .add => .Add | .sub => .Sub | .mul => .Mult | .fdiv => .FloorDiv | .mod => .Mod | .pow => .Pow | .shl => .LShift | .shr => .RShift
abbrev rAdd4 (K : PySem.W.Frag) : R2 := fun x y H Q => ((rI0 fun i j => .int (i + j)) x y H Q ∨ (∃ i j, x = .str i ∧ y = .str j ∧ i.length + j.length ≤ sizeLine ∧ Q (.str (i ++ j)) H)) ∨ (rCatA K x y H Q ∨ rCat x y H Q)
abbrev rMul2 : R2 := fun x y H Q => (rI CMul fun i j => .int (i * j)) x y H Q ∨ rRep x y H Q
def rB (K : PySem.W.Frag) : Bop → R2
  | .add => rAdd4 K
  | .sub => rI0 fun i j => .int (i - j)
  | .mul => rMul2
  | .fdiv => rI CDiv fun i j => .int (i / j)
  | .mod => rI (fun _ j => 0 < j) fun i j => .int (i % j)
  | .pow => rI CPow fun i j => .int (i ^ j.toNat)
  | .shl => rI CPow fun i j => .int (i * 2 ^ j.toNat)
  | .shr => rI (fun _ j => 0 ≤ j) fun i j => .int (i / 2 ^ j.toNat)
theorem op_b (X : L2.Cx) : ∀ o, OpR X (binaryOp (bopOf o)) (rB X.K o)
  | .add => OpR.or (OpR.or op_add op_add_str) (OpR.or op_catA op_cat)
  | .sub => op_sub
  | .mul => OpR.or op_mul op_rep
  | .fdiv => op_fdiv
  | .mod => op_mod
  | .pow => op_pow
  | .shl => op_shl
  | .shr => op_shr
section
variable {K : PySem.W.Frag} {mg : Str → Option Value} {F : Addr → Prop} {B B' : Nat → Option Addr} {H H' : Hp} {ow : Nat → Option Addr} {ρ : Env} {h : LH} {σ : L2.St}
theorem WL.int {i : Int} {v : V} (w : WL K mg F B H (.int i) v) : v = .int i := by
  rcases w with w | ⟨xs, a, vs, e, _⟩
  · cases w; rfl
  · cases e
theorem WL.str {s : List Nat} {v : V} (w : WL K mg F B H (.str s) v) : v = .str (Z.str s) ∧ okS s = true := by
  rcases w with w | ⟨xs, a, vs, e, _⟩
  · cases w with
    | str _ o => exact ⟨rfl, o⟩
  · cases e
theorem WL.bl {b : Bool} {v : V} (w : WL K mg F B H (.bl b) v) : v = .bl b := by
  rcases w with w | ⟨xs, a, vs, e, _⟩
  · cases w; rfl
  · cases e
theorem WL.tup {xs : List D} {v : V} (w : WL K mg F B H (.tup xs) v) : ∃ a vs, v = .ref a ∧ SqT K H a vs ∧ RDs K mg F B H xs vs := by
  rcases w with w | ⟨xs, a, vs, e, _⟩
  · cases w with
    | tup h1 h2 => exact ⟨_, _, rfl, h1, h2⟩
  · cases e
theorem WL.lst {xs : List D} {v : V} (w : WL K mg F B H (.lst xs) v) : ∃ a vs, v = .ref a ∧ H a = some (.lst vs) ∧ RDs K mg F B H xs vs := by
  rcases w with w | ⟨ys, a, vs, e, e2, _, e3, q⟩
  · cases w with
    | lst h1 _ _ h2 => exact ⟨_, _, rfl, h1, h2⟩
  · cases e
    exact ⟨a, vs, e2, e3, q⟩
theorem small_ok {i j : Int} (e : (small i || small j) = true) : CMul i j := by
  unfold small at e
  rw [Bool.or_eq_true, decide_eq_true_eq, decide_eq_true_eq] at e
  exact e
theorem bin_ok {o : Bop} {a b : D} {x y : V} {rv : Rv} {Q : VK} (s : SR K mg F B ow ρ h σ H) (wa : WL K mg (Ft F ow) B H a x) (wb : WL K mg (Ft F ow) B H b y) (e : binD o a b = some rv) (c : Cont K mg F B ow h H rv Q) : rB K o x y H Q := by
  unfold binD at e
  split at e
  · cases e
    exact .inl (.inl ⟨_, _, wa.int, wb.int, c.here s (.int _)⟩)
  · split at e
    · next hl =>
      cases e
      obtain ⟨rfl, o1⟩ := wa.str
      obtain ⟨rfl, o2⟩ := wb.str
      refine .inl (.inr ⟨_, _, rfl, rfl, by rw [str_len, str_len, ← szL_eq]; exact hl, ?_⟩)
      rw [str_app]
      exact c.here s (.str _ (okS_append o1 o2))
    · cases e
  · split at e
    · next hl =>
      cases e
      obtain ⟨p, vs, rfl, h1, h2⟩ := wa.tup
      obtain ⟨q, ws, rfl, k1, k2⟩ := wb.tup
      refine .inr (.inl ⟨p, q, vs, ws, rfl, rfl, h1, k1, ?_, fun e => ?_, fun _ e => ?_, fun _ _ => ?_⟩)
      · rw [← h2.length, ← k2.length, ← szL_eq]; exact hl
      · subst e
        cases h2
        exact c.here s (.tup k1 k2)
      · subst e
        cases k2
        rw [List.append_nil] at c
        exact c.here s (.tup h1 h2)
      · exact c.tup s (h2.append k2)
    · cases e
  · split at e
    · next hl =>
      cases e
      obtain ⟨p, vs, rfl, h1, h2⟩ := wa.lst
      obtain ⟨q, ws, rfl, k1, k2⟩ := wb.lst
      refine .inr (.inr ⟨p, q, vs, ws, rfl, rfl, h1, k1, ?_, c.lst s (h2.append k2)⟩)
      rw [← h2.length, ← k2.length, ← szL_eq]; exact hl
    · cases e
  · cases e
    exact ⟨_, _, wa.int, wb.int, c.here s (.int _)⟩
  · split at e
    · next hs =>
      cases e
      exact .inl ⟨_, _, wa.int, wb.int, small_ok hs, c.here s (.int _)⟩
    · cases e
  · split at e
    · next hk =>
      cases e
      obtain ⟨p, vs, rfl, h1, h2⟩ := wa.lst
      refine .inr ⟨p, _, vs, rfl, wb.int, h1, hk.1, hk.2.1, ?_, c.lst s (h2.replicate _)⟩
      rw [← h2.length, ← szL_eq]; exact hk.2.2
    · cases e
  · split at e
    · next hj =>
      cases e
      exact ⟨_, _, wa.int, wb.int, hj, c.here s (.int _)⟩
    · cases e
  · split at e
    · next hj =>
      cases e
      exact ⟨_, _, wa.int, wb.int, hj, c.here s (.int _)⟩
    · cases e
  · split at e
    · next hj =>
      cases e
      exact ⟨_, _, wa.int, wb.int, hj, c.here s (.int _)⟩
    · cases e
  · split at e
    · next hj =>
      cases e
      exact ⟨_, _, wa.int, wb.int, hj, c.here s (.int _)⟩
    · cases e
  · split at e
    · next hj =>
      cases e
      exact ⟨_, _, wa.int, wb.int, hj, c.here s (.int _)⟩
    · cases e
  · cases e
end
end Z
end

section
namespace Z
open PySem PySem.Spec PyProof.Rows L2

/-! ### comparisons -/
def copOf : Cop → CmpOp
  | .eq => .Eq | .ne => .NotEq | .lt => .Lt | .le => .LtE | .gt => .Gt | .ge => .GtE | .is_ => .Is | .isn => .IsNot | .in_ => .In | .nin => .NotIn
abbrev rStr2 (g : Str → Str → Bool) : R2 := fun x y H Q => ∃ i j, x = .str i ∧ y = .str j ∧ Q (.bl (g i j)) H
abbrev rOr (r r' : R2) : R2 := fun x y H Q => r x y H Q ∨ r' x y H Q
def rC (K : PySem.W.Frag) : Cop → R2
  | .eq => rEqD K
  | .ne => rNeD K
  | .lt => rOr (rI0 fun i j => .bl (decide (i < j))) (rStr2 fun i j => decide (i.cps.toList < j.cps.toList))
  | .le => rOr (rI0 fun i j => .bl (decide (i ≤ j))) (rStr2 fun i j => !decide (j.cps.toList < i.cps.toList))
  | .gt => rOr (rI0 fun i j => .bl (decide (j < i))) (rStr2 fun i j => decide (j.cps.toList < i.cps.toList))
  | .ge => rOr (rI0 fun i j => .bl (decide (j ≤ i))) (rStr2 fun i j => !decide (i.cps.toList < j.cps.toList))
  | .is_ => fun x y H Q => y = .non ∧ Q (.bl (decide (x = .non))) H
  | .isn => fun x y H Q => y = .non ∧ Q (.bl (!decide (x = .non))) H
  | .in_ => rOr (fun x y H Q => ∃ (c : Nat) (z : Str), x = .str ⟨#[c]⟩ ∧ y = .str z ∧ Q (.bl (decide (c ∈ z.cps.toList))) H) (rIn K false)
  | .nin => rOr (fun x y H Q => ∃ (c : Nat) (z : Str), x = .str ⟨#[c]⟩ ∧ y = .str z ∧ Q (.bl (!decide (c ∈ z.cps.toList))) H) (rIn K true)
theorem op_c (X : L2.Cx) (hu : X.A.units + 64 < cLine) : ∀ o, OpR X (compareOp (copOf o)) (rC X.K o)
  | .eq => op_eqD hu
  | .ne => op_neD hu
  | .lt => OpR.or op_lt op_lt_str
  | .le => OpR.or op_le op_le_str
  | .gt => OpR.or op_gt op_gt_str
  | .ge => OpR.or op_ge op_ge_str
  | .is_ => op_isN
  | .isn => op_notN
  | .in_ => OpR.or op_in_sign op_in_seq
  | .nin => OpR.or op_notIn_sign op_notIn_seq
section
variable {K : PySem.W.Frag} {mg : Str → Option Value} {F : Addr → Prop} {B B' : Nat → Option Addr} {H H' : Hp} {ow : Nat → Option Addr} {ρ : Env} {h : LH} {σ : L2.St}
theorem RD.flat {d : D} {v : V} (r : RD K mg F B H d v) (f : flat d = true) : flatV v = true := by
  cases r <;> first | rfl | (simp [Z.flat] at f)
theorem RDs.flat : ∀ {ds : List D} {vs : List V}, RDs K mg F B H ds vs → ds.all Z.flat = true → vs.all flatV = true
  | _, _, .nil, _ => rfl
  | _, _, .cons r t, f => by
    rw [List.all_cons, Bool.and_eq_true] at f
    rw [List.all_cons, RD.flat r f.1, RDs.flat t f.2]; rfl
theorem RD.eqV {d e : D} {v w : V} (r : RD K mg F B H d v) (q : RD K mg F B H e w) (f : Z.flat d = true) (g : Z.flat e = true) : L2.eqV v w = eqD d e := by
  cases r <;> first
    | (simp [Z.flat] at f; done)
    | (cases q <;> first
        | (simp [Z.flat] at g; done)
        | exact str_beq
        | simp [L2.eqV, eqD])
theorem RDs.inV {d : D} {v : V} (q : RD K mg F B H d v) (g : Z.flat d = true) : ∀ {ds : List D} {vs : List V}, RDs K mg F B H ds vs → ds.all Z.flat = true → L2.inV v vs = ds.any fun y => eqD y d
  | _, _, .nil, _ => rfl
  | _, _, .cons r t, f => by
    rw [List.all_cons, Bool.and_eq_true] at f
    unfold L2.inV
    rw [List.any_cons, List.any_cons, RD.eqV r q f.1 g]
    exact congrArg _ (RDs.inV q g t f.2)
theorem WL.flatRD {d : D} {v : V} (w : WL K mg F B H d v) (f : flat d = true) : RD K mg F B H d v := by
  rcases w with w | ⟨xs, a, vs, rfl, _⟩
  · exact w
  · simp [flat] at f
theorem WL.non {v : V} (w : WL K mg F B H .non v) : v = .non := by
  rcases w with w | ⟨xs, a, vs, e, _⟩
  · cases w; rfl
  · cases e
theorem WL.isNon {d : D} {v : V} (w : WL K mg F B H d v) : decide (v = .non) = isNonD d := by
  rcases w with w | ⟨xs, a, vs, rfl, rfl, _⟩
  · cases w <;> rfl
  · rfl
theorem in_ok {a b : D} {x y : V} {k : Bool} (neg : Bool) {Q : VK} (s : SR K mg F B ow ρ h σ H) (wa : WL K mg (Ft F ow) B H a x) (wb : WL K mg (Ft F ow) B H b y)
    (e : inD h a b = some k) (c : Q (.bl (if neg then !k else k)) H) : rIn K neg x y H Q := by
  unfold inD at e
  split at e
  · next xs hx =>
    split at e
    · next hf =>
      cases e
      rw [Bool.and_eq_true] at hf
      obtain ⟨p, vs, rfl, h1, h2⟩ := wb.seq s.heap hx
      have ra := wa.flatRD hf.1
      refine ⟨p, vs, rfl, h1, ra.flat hf.1, h2.flat hf.2, ?_⟩
      rw [RDs.inV ra hf.1 h2 hf.2]
      exact c
    · cases e
  · cases e
theorem cmp_ok {o : Cop} {a b : D} {x y : V} {k : Bool} {Q : VK} (s : SR K mg F B ow ρ h σ H) (wa : WL K mg (Ft F ow) B H a x) (wb : WL K mg (Ft F ow) B H b y) (e : cmpD h o a b = some k) (c : Q (.bl k) H) : rC K o x y H Q := by
  unfold cmpD at e
  split at e
  · split at e
    · next hp =>
      cases e
      rw [Bool.and_eq_true] at hp
      refine ⟨_, _, (wa.dp hp.1).1, (wb.dp hp.2).1, wa.shaped hp.1, wb.shaped hp.2, ?_⟩
      rw [eqD_py 60 _ _ hp.1 hp.2]
      exact c
    · cases e
  · split at e
    · next hp =>
      cases e
      rw [Bool.and_eq_true] at hp
      refine ⟨_, _, (wa.dp hp.1).1, (wb.dp hp.2).1, wa.shaped hp.1, wb.shaped hp.2, ?_⟩
      rw [eqD_py 60 _ _ hp.1 hp.2]
      exact c
    · cases e
  · cases e; exact .inl ⟨_, _, wa.int, wb.int, c⟩
  · cases e; exact .inl ⟨_, _, wa.int, wb.int, c⟩
  · cases e; exact .inl ⟨_, _, wa.int, wb.int, c⟩
  · cases e; exact .inl ⟨_, _, wa.int, wb.int, c⟩
  · cases e; exact .inr ⟨_, _, wa.str.1, wb.str.1, c⟩
  · cases e; exact .inr ⟨_, _, wa.str.1, wb.str.1, c⟩
  · cases e; exact .inr ⟨_, _, wa.str.1, wb.str.1, c⟩
  · cases e; exact .inr ⟨_, _, wa.str.1, wb.str.1, c⟩
  · cases e
    refine ⟨wb.non, ?_⟩
    rw [wa.isNon]
    exact c
  · cases e
    refine ⟨wb.non, ?_⟩
    rw [wa.isNon]
    exact c
  · cases e
    exact .inl ⟨_, _, wa.str.1, wb.str.1, c⟩
  · cases e
    exact .inl ⟨_, _, wa.str.1, wb.str.1, c⟩
  · exact .inr (in_ok false s wa wb e c)
  · cases q : inD h a b with
    | none => rw [q] at e; cases e
    | some j =>
      rw [q] at e
      cases (show some (!j) = some k from e)
      exact .inr (in_ok true s wa wb q c)
  · cases e

/-! ### subscripts, slices -/
theorem atI_some {α : Type} {xs : List α} {i : Int} {v : α} (e : atI xs i = some v) : ∃ j, ixN xs.length i = some j ∧ xs[j]? = some v := by
  unfold atI at e
  cases q : ixN xs.length i with
  | none => rw [q] at e; cases e
  | some j => rw [q] at e; exact ⟨j, rfl, e⟩
theorem ix_ok {a i : D} {x y : V} {d : D} {Q : VK} (s : SR K mg F B ow ρ h σ H) (wa : WL K mg (Ft F ow) B H a x) (wi : WL K mg (Ft F ow) B H i y) (e : ixD h a i = some d) (c : Cont K mg F B ow h H (.v d) Q) : rIx K x y H Q := by
  unfold ixD at e
  split at e
  · next k =>
    cases wi.int
    split at e
    · next z =>
      split at e
      · next hl =>
        cases q : atI z k with
        | none => rw [q] at e; cases e
        | some u =>
          rw [q] at e
          cases (show some (D.str [u]) = some d from e)
          obtain ⟨rfl, ok⟩ := wa.str
          refine .inr (.inr ⟨_, _, u, rfl, rfl, by rw [str_len, ← szL_eq]; exact hl, q, c.here s (.str [u] ?_)⟩)
          obtain ⟨j, _, hj⟩ := atI_some q
          exact okS_sub ok fun w hw => by
            have : w = u := by simpa using hw
            subst this
            exact List.mem_of_getElem? hj
      · cases e
    · split at e
      · next xs hx =>
        obtain ⟨p, vs, rfl, h1, h2⟩ := wa.seq s.heap hx
        obtain ⟨j, h3, h4⟩ := atI_some e
        obtain ⟨v, h5, h6⟩ := h2.get h4
        have h7 : atI vs k = some v := by
          unfold atI
          rw [← h2.length, h3]
          exact h5
        rcases h1 with h1 | h1
        · exact .inl ⟨p, vs, k, v, rfl, rfl, h1, h7, c.here s h6⟩
        · exact .inr (.inl ⟨p, vs, k, v, rfl, rfl, h1, h7, c.here s h6⟩)
      · cases e
  · cases e
theorem RDs.cut {ds : List D} {vs : List V} (r : RDs K mg F B H ds vs) (lo hi : Option Int) : RDs K mg F B H (Z.cut ds lo hi) (cutV vs lo hi) := by
  unfold Z.cut cutV
  rw [r.length]
  exact (r.drop _).take _
abbrev rSl3 (K : PySem.W.Frag) : V → Option Int → Option Int → Hp → VK → Prop := fun x lo hi H Q => (rSlL K x lo hi H Q ∨ rSlA K x lo hi H Q) ∨ rSlS x lo hi H Q
theorem sl_3 (X : L2.Cx) : SlR X (rSl3 X.K) := L2.SlR.or (L2.SlR.or sl_list sl_tupA) sl_str
theorem cutS_str (s : List Nat) (lo hi : Option Int) : cutS (str s) lo hi = str (Z.cut s lo hi) := by
  unfold cutS Z.cut
  rw [str_len]
theorem cut_mem {α : Type} {xs : List α} {lo hi : Option Int} {x : α} (e : x ∈ Z.cut xs lo hi) : x ∈ xs := List.mem_of_mem_drop (List.mem_of_mem_take e)
theorem sl_ok {a : D} {x : V} {lo hi : Option Int} {rv : Rv} {Q : VK} (s : SR K mg F B ow ρ h σ H) (wa : WL K mg (Ft F ow) B H a x) (e : slD h a lo hi = some rv) (c : Cont K mg F B ow h H rv Q) : rSl3 K x lo hi H Q := by
  unfold slD at e
  split at e
  · next z =>
    split at e
    · next hl =>
      cases e
      obtain ⟨rfl, ok⟩ := wa.str
      refine .inr ⟨_, rfl, by rw [str_len, ← szL_eq]; exact hl, ?_⟩
      rw [cutS_str]
      exact c.here s (.str _ (okS_sub ok fun _ => cut_mem))
    · cases e
  · next xs =>
    cases e
    obtain ⟨p, vs, rfl, h1, h2⟩ := wa.tup
    refine .inl (.inr ⟨p, vs, rfl, h1, fun w => ?_, fun _ => c.tup s (h2.cut lo hi)⟩)
    have q : Z.cut xs lo hi = xs := by
      unfold Z.cut
      rw [h2.length, w.1, w.2, List.drop_zero, Nat.sub_zero, ← h2.length, List.take_length]
    rw [q] at c
    exact c.here s (.tup h1 h2)
  · split at e
    · next xs hx =>
      cases e
      obtain ⟨p, vs, rfl, h1, h2⟩ := wa.lstq s.heap hx
      exact .inl (.inl ⟨p, vs, rfl, h1, c.lst s (h2.cut lo hi)⟩)
    · cases e
end
end Z
end

section
namespace Z
open PySem PySem.Spec PyProof.Rows L2 PySem.W PySem.SeqAt

/-! ### sorted(xs), xs tuples of which the first is empty -/
section
variable {prog : Program} {w : World} {A : Around} {E : Value → Shared → Prop} {s : Shared}
/-- one tuple against another, both of them known to be tuples -/
theorem oneLt_tup {xs ys : List PyData} {a b : Value} {as bs : List Addr} {Q : Bool → Shared → Prop} (ra : Reads s.heap a (.tuple xs) as) (rb : Reads s.heap b (.tuple ys) bs) (h : alike (.tuple xs) (.tuple ys) = true)
    (hu : A.units + min (PyData.tuple xs).depth (PyData.tuple ys).depth < cLine) (hq : Q (dataLt (.tuple xs) (.tuple ys)) s) : wpAny (model prog w) A (oneLt' true a b) Q E s := by
  have hal : alikeAll xs ys = true := by simpa [alike] using h
  cases ra with
  | @tuple l o vs n _ as1 h1 h2 h3 h4 =>
    cases rb with
    | @tuple l' o' ws n' _ bs1 k1 k2 k3 k4 =>
      have n1 : vs.size = xs.length := by simpa using SeqAt.ReadsAll.length _ _ _ h4
      have n2 : ws.size = ys.length := by simpa using SeqAt.ReadsAll.length _ _ _ k4
      rw [dataLt_tuple, ← firstLt_toks xs ys hal, ← n1, ← n2] at hq
      rw [oneLt'_eq]
      simp only [if_true]
      refine wpAny_bind (wpAny_cRoomFor (room_here hu) ?_)
      obtain ⟨oc, od, oda, osl⟩ := o
      obtain ⟨oc', od', oda', osl'⟩ := o'
      simp only at h2 h3 k2 k3
      subst h2 h3 k2 k3
      refine wpAny_bind (wpAny_callSpecialIfBound?_slot (T := "tuple") ⟨_, h1, rfl⟩ PySem.F.slot_tuple_lt (call_meets PySem.F.slot_tuple_lt ⟨_, h1, rfl⟩ PySem.F.entry_tuple_lt (PySem.F.args_tuple_lt_2 _ _)
        (tuple_ltAt l l' vs ws n n' od od' osl osl' (pairEq xs ys) (fun j => dataLt (xs.getD j .none) (ys.getD j .none))) ⟨h1, k1, fun j j1 j2 => ?_, fun j j1 j2 hj => ?_, ?_⟩))
      · have := eqAt_alikeAll xs ys A.in1 s vs.toList ws.toList _ _ h4 k4 hal (room_in hu) j (by simpa using j1) (by simpa using j2)
        simpa using this
      · have := rcLt_alikeAll xs ys A.in1 s vs.toList ws.toList _ _ h4 k4 hal (room_in hu) j (by simpa using j1) (by simpa using j2) hj
        simpa using this
      · exact wpAny_truthy_bool hq
theorem firsts_tup {M : Model} : ∀ {vs : List Value} {ds : List PyData} {Q : List (Option Value) → Shared → Prop}, EachIs (fun v d => ∃ as, Reads s.heap v d as) vs ds → (∀ d ∈ ds, ∃ xs, d = .tuple xs) → (∀ fs, (∀ r, ds = .tuple [] :: r → ∃ gs, fs = none :: gs) → Q fs s) → wpAny M A (vs.mapM firstOfTuple') Q E s
  | _, _, Q, .nil, _, h => by
    rw [List.mapM_nil]
    exact wpAny_pure (h [] fun r z => nomatch z)
  | _, _, Q, .cons (b := d) (bs := ds) ⟨as, r⟩ e, ht, h => by
    obtain ⟨xs, rfl⟩ := ht d List.mem_cons_self
    cases r with
    | @tuple a o its n _ _ h1 h2 h3 h4 =>
      rw [List.mapM_cons]
      refine wpAny_bind ?_
      rw [kas_first_eq]
      refine wpAny_bind (Looks.here (show Looks M s.heap (typeOf (.ref a)) o.cls from (Looks.ld h1).andThen .now) ?_)
      rw [h2, if_neg (by simp)]
      refine wpAny_bind (listItems_at h1 h3 (wpAny_pure ?_))
      refine wpAny_bind (firsts_tup e (fun d hd => ht d (List.mem_cons_of_mem _ hd)) fun fs _ => wpAny_pure (h _ fun r z => ?_))
      obtain ⟨z1, _⟩ := List.cons.inj z
      injection z1 with z1
      subst z1
      have : its.size = 0 := by
        have := SeqAt.ReadsAll.length _ _ _ h4
        simpa using this
      exact ⟨fs, by rw [Array.getElem?_eq_none (by omega)]⟩
theorem sortsAt_tup0 {vs : List Value} {ds : List PyData} (e : EachIs (fun v d => ∃ as, Reads s.heap v d as) vs ds) (hal : AllAlike ds) {r0 : List PyData} (h0 : ds = .tuple [] :: r0) (ht : ∀ d ∈ ds, ∃ xs, d = .tuple xs) (hu : ∀ d, d ∈ ds → A.units + d.depth < cLine) :
    SortsAt prog w A s (dataKind s.heap ds) vs := by
  refine ⟨fun v hv => ?_, oneType', ?_, fun h2 E Q hq => ?_⟩
  · obtain ⟨d, hd, as, r⟩ := e.left v hv
    exact ⟨_, dataKind_some hal hd r⟩
  · intro E x y a b Q ha hb hq
    obtain ⟨d, as, hd, ra, rfl⟩ := dataKind_inv ha
    obtain ⟨d', as', hd', rb, rfl⟩ := dataKind_inv hb
    have hdd := hal d hd d' hd'
    have room : A.units + min d.depth d'.depth < cLine := Nat.lt_of_le_of_lt (Nat.add_le_add_left (Nat.min_le_left _ _) _) (hu d hd)
    obtain ⟨x1, rfl⟩ := ht d hd
    obtain ⟨x2, rfl⟩ := ht d' hd'
    rw [keyLt'_oneType]
    exact oneLt_tup ra rb hdd room hq
  · rw [keyKind'_eq, List.mapM_toArray, map_eq_pure_bind]
    refine wpAny_bind (wpAny_bind (firsts_tup e ht fun fs hfs => wpAny_pure ?_))
    obtain ⟨gs, rfl⟩ := hfs r0 h0
    rw [if_neg (by simp), if_neg (by simp)]
    have hT : ∀ v ∈ vs, Looks (model prog w) s.heap (typeOf v) (Value.type "tuple") := fun v hv => by
      obtain ⟨d, hd, as, r⟩ := e.left v hv
      obtain ⟨xs, rfl⟩ := ht d hd
      cases r with
      | @tuple a o its n _ _ h1 h2 h3 h4 =>
        rw [← h2]
        exact (Looks.ld h1).andThen .now
    rw [oneTypeOnly'_eq, List.mapM_toArray, map_eq_pure_bind]
    refine wpAny_bind (wpAny_bind (wpAny_bind (kas_mapM (r := Value.type "tuple") _ (fun v hv Q' hq => (hT v hv).here hq) (wpAny_pure ?_))))
    have hall : ((List.map (fun _ => Value.type "tuple") vs).toArray.all fun x => x == Value.type "tuple") = true := by
      simp only [List.all_toArray, List.all_map, List.all_eq_true]
      intro _ _
      exact beq_self_eq_true _
    have hz : (List.map (fun _ => Value.type "tuple") vs).toArray[0]? = some (Value.type "tuple") := by
      cases vs with
      | nil => simp at h2
      | cons _ _ => simp
    rw [hz]
    simp only [hall, if_true]
    exact wpAny_pure (wpAny_pure hq)
theorem sorted_tup0 {β : Type} {vs : List Value} {bs : List β} {enc : β → PyData} {R : Value → β → Prop} {l : Addr} {Q : Value → Shared → Prop} (hl : s.heap.IsList l vs.toArray) (e : EachIs R vs bs) (er : EachIs (fun v b => ∃ as, Reads s.heap v (enc b) as) vs bs)
    (hal : AllAlike (bs.map enc)) {r0 : List PyData} (h0 : bs.map enc = .tuple [] :: r0) (ht : ∀ d ∈ bs.map enc, ∃ xs, d = .tuple xs) (hL : bs.length ≤ sizeLine) (hu : ∀ b, b ∈ bs → A.units + 2 + (enc b).depth < cLine)
    (h : ∀ out, out.length = bs.length → EachIs R out (bs.mergeSort (dataLe false enc)) → Q (.ref (s.heap.objs.size + 1)) { s with heap := sortedAll s.heap vs (List.toArray out) }) : wpAny (model prog w) A (call (.builtin "sorted") [.ref l]) Q E s := by
  have er' : EachIs (fun v b => ∃ as, Reads (sortingHeap (copyHeap s.heap vs) (s.heap.objs.size + 1) vs) v (enc b) as) vs bs := er.mono fun _ _ ⟨as, r⟩ => ⟨as, PyProof.Rows.Reads.keeps (fun _ _ => sorting_copy_old) r⟩
  exact sorted_vals hl (sortsAt_tup0 (s := { s with heap := sortingHeap (copyHeap s.heap vs) (s.heap.objs.size + 1) vs }) (each_map (R := fun v d => ∃ as, Reads (sortingHeap (copyHeap s.heap vs) (s.heap.objs.size + 1) vs) v d as) enc er') hal h0 ht (bound_map hu)) (by rw [e.length]; exact hL)
    (h _ (by rw [sortVals_length false rfl]; exact e.length) (sortVals_data false e er' hal))
end
/-- sorted(xs) of such -/
def rSortT (K : PySem.W.Frag) : List V → Hp → VK → Prop := fun vs H Q => ∃ (a : Addr) (xs : List V) (ds : List D) (mg : Str → Option Value) (F : Addr → Prop) (B : Nat → Option Addr), vs = [V.ref a] ∧ SqL K H a xs ∧ RDs K mg F B H ds xs ∧ sortOk ds = true ∧
  ∀ (zs : List V) (p : Addr), RDs K mg F B H (sortD ds) zs → H p = none → Q (.ref p) (upd H p (.lst zs))
section
variable {K : PySem.W.Frag} {mg : Str → Option Value} {F : Addr → Prop} {B : Nat → Option Addr} {H : Hp}
theorem pys_map : ∀ ds : List D, pys ds = ds.map py
  | [] => rfl
  | d :: ds => by
    show py d :: pys ds = _
    rw [pys_map ds]
    rfl
theorem depth_le {n : Nat} : ∀ {ds : List D}, PyData.depthAll (pys ds) ≤ n → ∀ d ∈ ds, (py d).depth ≤ n
  | [], _, d, h => nomatch h
  | x :: ds, q, d, h => by
    have e : PyData.depthAll (pys (x :: ds)) = max (py x).depth (PyData.depthAll (pys ds)) := by
      show PyData.depthAll (py x :: pys ds) = _
      rw [PyData.depthAll]
    rw [e] at q
    rcases List.mem_cons.mp h with rfl | h
    · omega
    · exact depth_le (by omega) d h
theorem each_in {X : L2.Cx} {pins : List (Addr × Obj)} {σ : L2.St} {s : Shared} (I : Inv X pins σ H s) : ∀ {ds : List D} {xs : List V} {its : List Value}, RDs X.K mg F B H ds xs → plains 8 ds = true → Vals xs its →
    EachIs (fun (v : Value) (b : D × V) => RelV b.2 v ∧ RD X.K mg F B H b.1 b.2) its (ds.zip xs) ∧ EachIs (fun (v : Value) (b : D × V) => ∃ as, Reads s.heap v (py b.1) as) its (ds.zip xs)
  | _, _, _, .nil, _, .nil => ⟨.nil, .nil⟩
  | _, _, _, .cons r1 r2, p, .cons v1 v2 => by
    unfold plains at p
    obtain ⟨p1, p2⟩ := Bool.and_eq_true_iff.mp p
    obtain ⟨q1, q2⟩ := each_in I r2 p2 v2
    exact ⟨.cons ⟨v1, r1⟩ q1, .cons (Dp.reads I _ _ _ (r1.dp 8 _ _ p1).1 v1) q2⟩
theorem each_vals : ∀ {us : List Value} {bs : List (D × V)}, EachIs (fun (v : Value) (b : D × V) => RelV b.2 v ∧ RD K mg F B H b.1 b.2) us bs → Vals (bs.map (·.2)) us ∧ RDs K mg F B H (bs.map (·.1)) (bs.map (·.2))
  | _, _, .nil => ⟨.nil, .nil⟩
  | _, _, .cons h e => ⟨.cons h.1 (each_vals e).1, .cons h.2 (each_vals e).2⟩
theorem zip_fst {α β : Type} : ∀ {as : List α} {bs : List β}, as.length = bs.length → (as.zip bs).map (·.1) = as
  | [], [], _ => rfl
  | [], _ :: _, h => by cases h
  | _ :: _, [], h => by cases h
  | a :: as, b :: bs, h => by
    show a :: (as.zip bs).map (·.1) = _
    rw [zip_fst (by simpa using h)]
theorem cr_sortT {X : L2.Cx} (hu : X.A.units + 64 < cLine) : CallR X (.builtin "sorted") (rSortT X.K) := by
  intro pins s σ H vs us Q I r h
  obtain ⟨a, xs, ds, mg, F, B, rfl, hs, hr, ok, q⟩ := h
  obtain ⟨its, rv, hl, _⟩ := I.list hs
  rw [Vals.ref1 r]
  unfold sortOk at ok
  obtain ⟨k1, ok⟩ := Bool.and_eq_true_iff.mp ok
  obtain ⟨k2, ok⟩ := Bool.and_eq_true_iff.mp ok
  obtain ⟨k3, ok⟩ := Bool.and_eq_true_iff.mp ok
  obtain ⟨k4, k5⟩ := Bool.and_eq_true_iff.mp ok
  have k5 := of_decide_eq_true k5
  have hlen := hr.length
  obtain ⟨e1, e2⟩ := each_in I hr k3 rv
  have fst : ((ds.zip xs).map fun b => py b.1) = ds.map py := by
    have := congrArg (List.map py) (zip_fst hlen)
    rw [List.map_map] at this
    exact this
  have zl : (ds.zip xs).length = ds.length := by rw [List.length_zip, hlen, Nat.min_self]
  obtain ⟨r0, er0⟩ : ∃ r0, ds = .tup [] :: r0 := by
    unfold emptyHd at k1
    split at k1
    · exact ⟨_, rfl⟩
    · cases k1
  refine sorted_tup0 (enc := fun b : D × V => py b.1) (r0 := r0.map py) hl.isList e1 e2 ?_ ?_ ?_ ?_ ?_ fun out ol oe => ?_
  · rw [fst]
    intro d hd d' hd'
    obtain ⟨x, hx, rfl⟩ := List.mem_map.mp hd
    obtain ⟨y, hy, rfl⟩ := List.mem_map.mp hd'
    exact List.all_eq_true.mp (List.all_eq_true.mp k4 x hx) y hy
  · rw [fst, er0]
    rfl
  · rw [fst]
    intro d hd
    obtain ⟨x, hx, rfl⟩ := List.mem_map.mp hd
    have := List.all_eq_true.mp k2 x hx
    cases x with
    | tup es => exact ⟨_, rfl⟩
    | _ => cases this
  · rw [zl, ← szL_eq]
    exact k5
  · intro b hb
    have : b.1 ∈ ds := (List.of_mem_zip (show (b.1, b.2) ∈ ds.zip xs from hb)).1
    have := depth_le (hr.dp 8 _ _ k3).2.2 b.1 this
    omega
  · obtain ⟨v1, v2⟩ := each_vals oe
    have em : ((ds.zip xs).mergeSort (dataLe false fun b : D × V => py b.1)).map (·.1) = sortD ds := by
      unfold sortD
      have := List.map_mergeSort (r := dataLe false fun b : D × V => py b.1) (s := fun a b => !dataLt (py b) (py a)) (f := fun b : D × V => b.1) (l := ds.zip xs) (fun a _ b _ => rfl)
      rw [this]
      rw [show List.map (fun b : D × V => b.1) (ds.zip xs) = ds from zip_fst hlen]
    rw [em] at v2
    obtain ⟨ep, he'⟩ := PyProof.Rows.sortedAll_at s.heap its out.toArray
    have lz : (((ds.zip xs).mergeSort (dataLe false fun b : D × V => py b.1)).map (·.2)).length ≤ sizeLine := by
      rw [List.length_map, List.length_mergeSort, zl, ← szL_eq]
      exact k5
    exact ⟨.ref _, upd H (s.heap.objs.size + 1) (.lst _), I.laid (t' := s.toks) (fun _ _ => PyProof.Rows.sortedAll_old) (Nat.le_succ _) ⟨lz, out, ep, v1, he'⟩, rfl, q _ _ v2 (I.hok.fresh (Nat.le_succ _))⟩
end
end Z
end

section
namespace Z
open PySem PySem.Spec PyProof.Rows L2

section
variable (K : PySem.W.Frag) (mg : Str → Option Value) (F : Addr → Prop) (B : Nat → Option Addr) (H : Hp)
inductive WLs : List D → List V → Prop where
  | nil : WLs [] []
  | cons {x : D} {v : V} {xs : List D} {vs : List V} : WL K mg F B H x v → WLs xs vs → WLs (x :: xs) (v :: vs)
end
section
variable {K : PySem.W.Frag} {mg : Str → Option Value} {F : Addr → Prop} {B B' : Nat → Option Addr} {H H' : Hp} {ow : Nat → Option Addr} {ρ : Env} {h : LH} {σ : L2.St}
theorem WLs.one {x : D} {vs : List V} (w : WLs K mg F B H [x] vs) : ∃ v, vs = [v] ∧ WL K mg F B H x v := by
  cases w with
  | cons r t => cases t; exact ⟨_, rfl, r⟩
theorem WLs.two {x y : D} {vs : List V} (w : WLs K mg F B H [x, y] vs) : ∃ v u, vs = [v, u] ∧ WL K mg F B H x v ∧ WL K mg F B H y u := by
  cases w with
  | cons r t =>
    obtain ⟨u, rfl, q⟩ := t.one
    exact ⟨_, u, rfl, r, q⟩
theorem WLs.ext {ds : List D} {vs : List V} (w : WLs K mg F B H ds vs) (x : Ext E0 B B' H H') (nb : Cells B H) : WLs K mg F B' H' ds vs := by
  induction w with
  | nil => exact .nil
  | cons r _ ih => exact .cons (r.ext x nb) ih

/-! ### built-in functions -/
def biV : Bi → Value
  | .len => .builtin "len" | .abs => .builtin "abs" | .int => .type "int" | .str => .type "str" | .list => .type "list" | .tuple => .type "tuple"
  | .sorted => .builtin "sorted" | .all => .builtin "all" | .any => .builtin "any" | .max => .builtin "max" | .min => .builtin "min" | .set => .type "set"
def biN : Bi → String
  | .len => "len" | .abs => "abs" | .int => "int" | .str => "str" | .list => "list" | .tuple => "tuple"
  | .sorted => "sorted" | .all => "all" | .any => "any" | .max => "max" | .min => "min" | .set => "set"
theorem biBoot : ∀ b : Bi, bootBuiltins (biN b) = some (biV b) := by
  intro b; cases b <;> decide +kernel
abbrev R1 := List V → Hp → VK → Prop
def rBi (K : PySem.W.Frag) : Bi → R1
  | .len => fun xs H Q => (∃ z, xs = [.str z] ∧ z.length ≤ sizeLine ∧ Q (.int z.length) H) ∨ (∃ p ys, xs = [.ref p] ∧ (SqL K H p ys ∨ SqT K H p ys) ∧ Q (.int ys.length) H)
  | .abs => fun xs H Q => ∃ i, xs = [.int i] ∧ Q (.int (if i < 0 then -i else i)) H
  | .int => fun xs H Q => (∃ i, xs = [.int i] ∧ Q (.int i) H) ∨ ∃ k, xs = [.bl k] ∧ Q (.int (if k then 1 else 0)) H
  | .list => fun xs H Q => ∃ p ys, xs = [.ref p] ∧ (SqL K H p ys ∨ SqT K H p ys) ∧ ∀ l, H l = none → Q (.ref l) (upd H l (.lst ys))
  | .tuple => fun xs H Q => ∃ p ys, xs = [.ref p] ∧ ((SqL K H p ys ∧ ∀ l, H l = none → Q (.ref l) (upd H l (.tup ys))) ∨ (SqT K H p ys ∧ Q (.ref p) H))
  | .all => rAll K
  | .any => rAny K
  | .max => fun xs H Q => ∃ i j, xs = [.int i, .int j] ∧ Q (.int (if j > i then j else i)) H
  | .min => fun xs H Q => ∃ i j, xs = [.int i, .int j] ∧ Q (.int (if j < i then j else i)) H
  | .sorted => fun xs H Q => rSortedS K xs H Q ∨ rSortT K xs H Q
  | _ => fun _ _ _ => False
theorem call_never {X : L2.Cx} {f : Value} : CallR X f (fun _ _ _ => False) := fun _ _ _ _ _ _ _ _ _ h => h.elim
theorem cr_bi (X : L2.Cx) (hc : X.calm = true) (hu : X.A.units + 64 < cLine) : ∀ b, CallR X (biV b) (rBi X.K b)
  | .len => L2.CallR.or call_len_str call_len_seq
  | .abs => call_abs
  | .int => call_int1
  | .str => call_never
  | .list => call_list_of
  | .tuple => call_tuple_of
  | .sorted => L2.CallR.or cr_sortedS (cr_sortT hu)
  | .all => cr_all hc
  | .any => cr_any hc
  | .max => call_max2 hc
  | .min => call_min2 hc
  | .set => call_never
theorem RDs.bools : ∀ {ds : List D} {vs : List V} {bs : List Bool}, RDs K mg F B H ds vs → boolsOf ds = some bs → vs = bs.map V.bl
  | _, _, _, .nil, e => by
    cases (show some [] = some _ from e); rfl
  | _, _, bs, .cons r t, e => by
    cases r with
    | bl b =>
      unfold boolsOf at e
      cases q : boolsOf _ with
      | none => rw [q] at e; cases e
      | some cs =>
        rw [q] at e
        cases (show some (b :: cs) = some bs from e)
        rw [RDs.bools t q]; rfl
    | _ => cases e
theorem RDs.strs : ∀ {ds : List D} {vs : List V} {ss : List (List Nat)}, RDs K mg F B H ds vs → strsOf ds = some ss → vs = (ss.map str).map V.str ∧ ∀ s ∈ ss, okS s = true
  | _, _, _, .nil, e => by
    cases (show some [] = some _ from e)
    exact ⟨rfl, fun _ z => nomatch z⟩
  | _, _, ss, .cons r t, e => by
    cases r with
    | str s o =>
      unfold strsOf at e
      cases q : strsOf _ with
      | none => rw [q] at e; cases e
      | some cs =>
        rw [q] at e
        cases (show some (s :: cs) = some ss from e)
        obtain ⟨e1, e2⟩ := RDs.strs t q
        refine ⟨by rw [e1]; rfl, fun z hz => ?_⟩
        rcases List.mem_cons.mp hz with rfl | hz
        · exact o
        · exact e2 z hz
    | _ => cases e
theorem RDs.ofStrs : ∀ {ss : List (List Nat)}, (∀ s ∈ ss, okS s = true) → RDs K mg F B H (ss.map D.str) ((ss.map str).map V.str)
  | [], _ => .nil
  | s :: r, o => .cons (.str s (o s List.mem_cons_self)) (RDs.ofStrs fun z hz => o z (List.mem_cons_of_mem _ hz))
end
end Z
end

section
namespace Z
open PySem PySem.Spec PyProof.Rows L2

/-! ### weaker readings -/
section
variable {X : L2.Cx}
theorem peW {e : Expr} {t t' : TE} (h : PE X e t) (w : ∀ σ H Q, t' σ H Q → t σ H Q) : PE X e t' := ⟨fun p s σ H Q I q => h.run p s σ H Q I (w _ _ _ q)⟩
theorem ptW {e : Expr} {t t' : TT} (h : PT X e t) (w : ∀ σ H Q, t' σ H Q → t σ H Q) : PT X e t' := ⟨fun p s σ H Q I q => h.run p s σ H Q I (w _ _ _ q)⟩
theorem pwW {e : Expr} {t t' : TT} (h : PW X e t) (w : ∀ σ H Q, t' σ H Q → t σ H Q) : PW X e t' := ⟨fun wh p s σ H Q I q => h.run wh p s σ H Q I (w _ _ _ q)⟩
theorem paW {e : List Expr} {t t' : TA} (h : PA X e t) (w : ∀ σ H Q, t' σ H Q → t σ H Q) : PA X e t' := ⟨fun ps p s σ H Q I q => h.run ps p s σ H Q I (w _ _ _ q)⟩
theorem psW {e : Stmt} {t t' : TS} (h : PS X e t) (w : ∀ D σ H, t' D σ H → t D σ H) : PS X e t' := ⟨fun p s σ H D I q => h.run p s σ H D I (w _ _ _ q)⟩
theorem pssW {e : List Stmt} {t t' : TS} (h : PSs X e t) (w : ∀ D σ H, t' D σ H → t D σ H) : PSs X e t' := ⟨fun p s σ H D I q => h.run p s σ H D I (w _ _ _ q)⟩
theorem piW {a b : Expr} {t t' : TI} (h : PI X a b t) (w : ∀ σ H R, t' σ H R → t σ H R) : PI X a b t' := ⟨fun p s σ H Q I q => h.run p s σ H Q I (w _ _ _ q)⟩
theorem pgW {e : Expr} {t t' : TG} (h : PG X e t) (w : ∀ v σ H Q, t' v σ H Q → t v σ H Q) : PG X e t' := ⟨fun p s σ H v u Q I r q => h.run p s σ H v u Q I r (w _ _ _ _ q)⟩
theorem ptsW {e : List Expr} {t t' : TT} (h : PTs X e t) (w : ∀ σ H Q, t' σ H Q → t σ H Q) : PTs X e t' := ⟨fun p s σ H Q I q => h.run p s σ H Q I (w _ _ _ q)⟩
theorem poW {e : Option Expr} {t t' : TO} (h : PO X e t) (w : ∀ σ H Q, t' σ H Q → t σ H Q) : PO X e t' := ⟨fun p s σ H Q I q => h.run p s σ H Q I (w _ _ _ q)⟩
end

/-! ### the readings of our language -/
section
variable (K : PySem.W.Frag) (mg : Str → Option Value)
/-- the fields of an error -/
def FR (F : Addr → Prop) (B : Nat → Option Addr) (H : Hp) (fs : List (Str × D)) (vs : List (Str × V)) : Prop := fs.map (·.1) = vs.map (·.1) ∧ RDs K mg F B H (fs.map (·.2)) (vs.map (·.2))
/-- what must be where an error flies -/
def EX (F : Addr → Prop) (B : Nat → Option Addr) (H : Hp) (W : XK) : Str → List (Str × D) → LH → Prop := fun c fs h' =>
  ∀ B' H' C dd vs, Ext E0 B B' H H' → HR K mg F B' h' H' → mg c = some (.ref C) → H' dd = some (.xd vs) → FR K mg F B' H' fs vs → W (.ref C) (some dd) H'
variable (c : Cx) (W : WX)
def tRd {α : Type} (m : Env → M α) (P : (Addr → Prop) → (Nat → Option Addr) → (Nat → Option Addr) → LH → Hp → Hp → α → V → Prop) : TE := fun σ H Q => ∃ F B ow ρ h, SR K mg F B ow ρ h σ H ∧
  (m ρ h).post (fun a h' => ∀ B' H' v, Ext E0 B B' H H' → HR K mg (Ft F ow) B' h' H' → P F B' ow h' H H' a v → Q v H') (EX K mg (Ft F ow) B H fun C d H' => W C d σ H')
def tR (e : E) : TE := tRd K mg W (denR c e) fun F B ow h H0 H rv v => RR K mg F B ow h H0 H rv v
def tW (e : E) : TE := tRd K mg W (fun ρ => bnd (denR c e ρ) fun r => pur (wdg r)) fun F B ow h H0 H d v => WL K mg (Ft F ow) B H d v
def tD (e : E) : TE := tRd K mg W (fun ρ => bnd (denR c e ρ) fun r => opt (dg r)) fun F B ow h H0 H d v => RD K mg (Ft F ow) B H d v
def tTd {α : Type} (m : Env → M α) : L2.St → Hp → (α → Hp → Prop) → Prop := fun σ H Q => ∃ F B ow ρ h, SR K mg F B ow ρ h σ H ∧
  (m ρ h).post (fun a h' => ∀ B' H', Ext E0 B B' H H' → HR K mg (Ft F ow) B' h' H' → Q a H') (EX K mg (Ft F ow) B H fun C d H' => W C d σ H')
def tT (t : T) : TT := tTd K mg W (denT c t)
def tTs (ts : Ts) : TT := tTd K mg W (denTs c ts)
def tTo (ts : Ts) : TT := tTd K mg W (denTo c ts)
def tOp' (o : Op) : TO := tTd K mg W (denOp c o)
def tAd (m : Env → M (List D)) (P : (Addr → Prop) → (Nat → Option Addr) → Hp → List D → List V → Prop) : TA := fun σ H Q => ∃ F B ow ρ h, SR K mg F B ow ρ h σ H ∧
  (m ρ h).post (fun a h' => ∀ B' H' vs, Ext E0 B B' H H' → HR K mg (Ft F ow) B' h' H' → P (Ft F ow) B' H' a vs → Q vs H') (EX K mg (Ft F ow) B H fun C d H' => W C d σ H')
def tEs (es : Es) : TA := tAd K mg W (denEs c es) fun F B H ds vs => RDs K mg F B H ds vs
def tWs (es : Es) : TA := tAd K mg W (denWs c es) fun F B H ds vs => WLs K mg F B H ds vs
/-- what a loop walks -/
structure ItOk (J : L2.It) (xs : List D) (F : Addr → Prop) (B : Nat → Option Addr) (H : Hp) : Prop where
  go : ∀ P B1 H1 i, Ext P B B1 H H1 → Owns F P H → i < xs.length → J.go i H1
  yld : ∀ P B1 H1 i x H2 F1, Ext P B B1 H H1 → Owns F P H → Cells B1 H1 → (∀ a, F1 a → H a ≠ none → F a) → J.yld i H1 x H2 → i < xs.length →
    (H2 = H1 ∨ ∃ T o, H1 T = none ∧ H2 = upd H1 T o) ∧ ∃ d, xs[i]? = some d ∧ RD K mg F1 B1 H2 d x
  stop : ∀ P B1 H1 i, Ext P B B1 H H1 → Owns F P H → xs.length ≤ i → J.stop i H1
def tI (it : Z.It) : TI := fun σ H R => ∃ F B ow ρ h, SR K mg F B ow ρ h σ H ∧
  (denIt c it ρ h).post (fun xs h' => ∀ B' H' J, Ext E0 B B' H H' → HR K mg (Ft F ow) B' h' H' → ItOk K mg J xs (Ft F ow) B' H' → R J H') (EX K mg (Ft F ow) B H fun C d H' => W C d σ H')
end
section
variable {K : PySem.W.Frag} {mg : Str → Option Value} {F : Addr → Prop} {B B' : Nat → Option Addr} {H H' : Hp} {ow : Nat → Option Addr} {ρ : Env} {h h' : LH} {σ : L2.St} {W : WX} {c : Cx}
theorem EX.ext {F : Addr → Prop} {W : XK} (x : Ext E0 B B' H H') {n : Str} {fs : List (Str × D)} {h1 : LH} (q : EX K mg F B H W n fs h1) : EX K mg F B' H' W n fs h1 :=
  fun B2 H2 C dd vs y hr e1 e2 e3 => q B2 H2 C dd vs (x.seq y) hr e1 e2 e3
/-- ONE STEP: a part's reading, then the rest -/
theorem tRd_step {α β : Type} {m : Env → M α} {P : (Addr → Prop) → (Nat → Option Addr) → (Nat → Option Addr) → LH → Hp → Hp → α → V → Prop} {k : α → M β} {Q : β → LH → Prop} {R : VK} (s : SR K mg F B ow ρ h σ H)
    (p : (bnd (m ρ) k h).post Q (EX K mg (Ft F ow) B H fun C d H' => W C d σ H'))
    (go : ∀ a h1 B1 H1 v, Ext E0 B B1 H H1 → SR K mg F B1 ow ρ h1 σ H1 → P F B1 ow h1 H H1 a v → (k a h1).post Q (EX K mg (Ft F ow) B1 H1 fun C d H' => W C d σ H') → R v H1) : tRd K mg W m P σ H R :=
  ⟨F, B, ow, ρ, h, s, post_mono (post_bnd.1 p) (fun a h1 q B1 H1 v x hr r => go a h1 B1 H1 v x (s.ext x hr) r (post_mono q (fun _ _ z => z) fun _ _ _ z => z.ext x)) fun _ _ _ z => z⟩
theorem tTd_step {α β : Type} {m : Env → M α} {k : α → M β} {Q : β → LH → Prop} {R : α → Hp → Prop} (s : SR K mg F B ow ρ h σ H)
    (p : (bnd (m ρ) k h).post Q (EX K mg (Ft F ow) B H fun C d H' => W C d σ H'))
    (go : ∀ a h1 B1 H1, Ext E0 B B1 H H1 → SR K mg F B1 ow ρ h1 σ H1 → (k a h1).post Q (EX K mg (Ft F ow) B1 H1 fun C d H' => W C d σ H') → R a H1) : tTd K mg W m σ H R :=
  ⟨F, B, ow, ρ, h, s, post_mono (post_bnd.1 p) (fun a h1 q B1 H1 x hr => go a h1 B1 H1 x (s.ext x hr) (post_mono q (fun _ _ z => z) fun _ _ _ z => z.ext x)) fun _ _ _ z => z⟩
theorem tAd_step {β : Type} {m : Env → M (List D)} {P : (Addr → Prop) → (Nat → Option Addr) → Hp → List D → List V → Prop} {k : List D → M β} {Q : β → LH → Prop} {R : List V → Hp → Prop} (s : SR K mg F B ow ρ h σ H)
    (p : (bnd (m ρ) k h).post Q (EX K mg (Ft F ow) B H fun C d H' => W C d σ H'))
    (go : ∀ a h1 B1 H1 vs, Ext E0 B B1 H H1 → SR K mg F B1 ow ρ h1 σ H1 → P (Ft F ow) B1 H1 a vs → (k a h1).post Q (EX K mg (Ft F ow) B1 H1 fun C d H' => W C d σ H') → R vs H1) : tAd K mg W m P σ H R :=
  ⟨F, B, ow, ρ, h, s, post_mono (post_bnd.1 p) (fun a h1 q B1 H1 vs x hr r => go a h1 B1 H1 vs x (s.ext x hr) r (post_mono q (fun _ _ z => z) fun _ _ _ z => z.ext x)) fun _ _ _ z => z⟩
/-- a binding at the head moves into the reading -/
theorem bnd_assoc {α β γ : Type} {m : M α} {f : α → M β} {g : β → M γ} : bnd (bnd m f) g = bnd m fun a => bnd (f a) g := by
  funext h
  unfold bnd
  cases m h <;> rfl
theorem bnd_pur {α β : Type} {a : α} {f : α → M β} : bnd (pur a) f = f a := rfl
theorem tW_of {X : L2.Cx} {a : Expr} {e : E} (hp : PE X a (tR X.K X.mg c W e)) : PE X a (tW X.K X.mg c W e) := peW hp fun σ H Q ⟨F, B, ow, ρ, h, s, p⟩ =>
  ⟨F, B, ow, ρ, h, s, post_mono (post_bnd.1 p) (fun _ _ q B' H' v x hr r => q B' H' v x hr (r.wdg (s.ext x hr))) fun _ _ _ z => z⟩
theorem tD_of {X : L2.Cx} {a : Expr} {e : E} (hp : PE X a (tR X.K X.mg c W e)) : PE X a (tD X.K X.mg c W e) := peW hp fun σ H Q ⟨F, B, ow, ρ, h, s, p⟩ =>
  ⟨F, B, ow, ρ, h, s, post_mono (post_bnd.1 p) (fun rv _ q B' H' v x hr r => by
    obtain ⟨d, e1, q⟩ := post_opt q
    exact q B' H' v x hr (r.dg e1)) fun _ _ _ z => z⟩
/-- from the reading of a whole to a step over its first part, read weakly -/
theorem stepW {β : Type} {e : E} {k : Rv → M β} {k' : D → M β} {Q : β → LH → Prop} {R : VK} (s : SR K mg F B ow ρ h σ H) (hk : ∀ r, k r = k' (wdg r))
    (p : (bnd (denR c e ρ) k h).post Q (EX K mg (Ft F ow) B H fun C d H' => W C d σ H'))
    (go : ∀ d h1 B1 H1 v, Ext E0 B B1 H H1 → SR K mg F B1 ow ρ h1 σ H1 → WL K mg (Ft F ow) B1 H1 d v → (k' d h1).post Q (EX K mg (Ft F ow) B1 H1 fun C d H' => W C d σ H') → R v H1) : tW K mg c W e σ H R := by
  have e1 : bnd (denR c e ρ) k = bnd (bnd (denR c e ρ) fun r => pur (wdg r)) k' := by
    rw [bnd_assoc]
    exact congrArg _ (funext fun r => (hk r).trans bnd_pur.symm)
  rw [e1] at p
  exact tRd_step s p go
theorem stepD {β : Type} {e : E} {k : Rv → M β} {k' : D → M β} {Q : β → LH → Prop} {R : VK} (s : SR K mg F B ow ρ h σ H) (hk : ∀ r, k r = bnd (opt (dg r)) k')
    (p : (bnd (denR c e ρ) k h).post Q (EX K mg (Ft F ow) B H fun C d H' => W C d σ H'))
    (go : ∀ d h1 B1 H1 v, Ext E0 B B1 H H1 → SR K mg F B1 ow ρ h1 σ H1 → RD K mg (Ft F ow) B1 H1 d v → (k' d h1).post Q (EX K mg (Ft F ow) B1 H1 fun C d H' => W C d σ H') → R v H1) : tD K mg c W e σ H R := by
  have e1 : bnd (denR c e ρ) k = bnd (bnd (denR c e ρ) fun r => opt (dg r)) k' := by
    rw [bnd_assoc]
    exact congrArg _ (funext hk)
  rw [e1] at p
  exact tRd_step s p go
theorem WL.extS {d : D} {v : V} (w : WL K mg (Ft F ow) B H d v) (s : SR K mg F B ow ρ h σ H) (x : Ext E0 B B' H H') : WL K mg (Ft F ow) B' H' d v := w.ext x s.heap.cells
/-- behind the last step: what is wanted of the result, told from the start -/
theorem contOf {R : VK} {rv : Rv} {h1 : LH} {H1 : Hp} {B1 : Nat → Option Addr} (x : Ext E0 B B1 H H1) (q : ∀ B' H' v, Ext E0 B B' H H' → HR K mg (Ft F ow) B' h1 H' → RR K mg F B' ow h1 H H' rv v → R v H') : Cont K mg F B1 ow h1 H1 rv R := by
  intro B' H' v y r hr
  refine q B' H' v (x.seq y) hr ?_
  cases rv with
  | v d => exact r
  | fr xs =>
    obtain ⟨a, vs, e1, e2, e3⟩ := r
    refine ⟨a, vs, e1, ?_, e3⟩
    cases z : H a with
    | none => rfl
    | some o => exact absurd e2 (x.dom a (by rw [z]; exact fun w => nomatch w))
  | bw xs => exact r
end
end Z
end

section
namespace Z
open PySem PySem.Spec PyProof.Rows L2

/-! ### is this text that program? -/
structure Tab where
  fs : List Fn
  gl : List (Str × D)
def Tab.glo (t : Tab) (x : Str) : Option D := t.gl.lookup x
def okN (x : Str) : Bool := !(x == ("__debug__" : Str)) && !(x == ("__classdict__" : Str)) && !(x == ("__name__" : Str))
def visB (sc : Scope) (x : Str) : Bool := match sc.names.lookup x with
  | some .local => true
  | some .cell => true
  | some .free => true
  | _ => false
def locB (sc : Scope) (x : Str) : Bool := match sc.names.lookup x with
  | some .local => true
  | some .cell => true
  | _ => false
def isLoc (sc : Scope) (x : Str) : Bool := match sc.names.lookup x with
  | some .local => true
  | _ => false
def glB (sc : Scope) (x : Str) : Bool := match sc.names.lookup x with
  | some .globalImplicit => true
  | _ => false
def atN (N : List Str) (i : Nat) (x : Str) : Bool := decide (N[i]? = some x)
/-- a test that is not walked by its own form -/
def plainT : Expr → Bool
  | .Name _ _ => true
  | .Call _ _ _ _ => true
  | .Constant _ _ _ => true
  | .Subscript _ _ _ => true
  | .Attribute _ _ _ => true
  | _ => false
def tyNames : List String := ["bool", "int", "str", "list", "tuple", "dict"]
def tyOfN : List Expr → List String → Bool
  | [], [] => true
  | .Name x _ :: es, c :: cs => decide (x = (c : Str)) && tyOfN es cs
  | _, _ => false
def glAll (sc : Scope) : List String → Bool
  | [] => true
  | c :: cs => glB sc c && glAll sc cs
def mtN : Mt → String
  | .join => "join" | .split => "split" | .replace => "replace"
mutual
/-- targets: in a def (blk := false) or in a comprehension's block of the scope sc, own slots ws -/
def ckTg (N : List Str) (sc : Scope) (ws : Option (List Nat)) : Tg → Expr → Bool
  | .nm i, .Name x _ => atN N i x && locB sc x && (match ws with
    | none => true
    | some l => l.contains i)
  | .tp l, .Tuple es _ _ => ckTgs N sc ws l es
  | .lp l, .Tuple es _ _ => ckTgs N sc ws l es
  | _, _ => false
def ckTgs (N : List Str) (sc : Scope) (ws : Option (List Nat)) : Tgs → List Expr → Bool
  | .nil, [] => true
  | .cons t l, e :: es => ckTg N sc ws t e && ckTgs N sc ws l es
  | _, _ => false
end
def ownB (N : List Str) : List Nat → List (Str × Nat)
  | [] => []
  | i :: r => (N.getD i Str.empty, i) :: ownB N r
def notStar : Expr → Bool
  | .Starred _ _ => false
  | _ => true
def notSet : Expr → Bool
  | .Set _ _ _ => false
  | _ => true
def notSl : Expr → Bool
  | .Slice _ _ _ _ => false
  | _ => true
def notCall : Expr → Bool
  | .Call _ _ _ _ => false
  | _ => true
def isTup : Expr → Bool
  | .Tuple _ _ _ => true
  | _ => false
mutual
def ckE (t : Tab) (N : List Str) (sc : Scope) : E → Expr → Bool
  | .var i, .Name x _ => atN N i x && visB sc x && okN x
  | .own i, .Name x _ => atN N i x && visB sc x && okN x
  | .int k, .Constant (.int j) _ _ => decide (k = j)
  | .neg a, .UnaryOp .USub x _ => ckE t N sc a x
  | .bl b, .Constant (.bool c) _ _ => b == c
  | .non, .Constant .none _ _ => true
  | .str s, .Constant (.str x) _ _ => decide (x = str s) && okS s
  | .glo x, .Name y _ => decide (x = y) && glB sc y && okN y
  | .tup es, .Tuple as _ _ => ckEs t N sc es as
  | .lst es, .List as _ => ckEs t N sc es as
  | .bin o a b, .BinOp l op r _ => decide (op = bopOf o) && ckE t N sc a l && ckE t N sc b r
  | .cmp o a b, .Compare l [op] [r] _ => decide (op = copOf o) && !behindInMarks op r && ckE t N sc a l && ckE t N sc b r
  | .chain o p a b d, .Compare l [op, op'] [r, r'] _ => decide (op = copOf o) && decide (op' = copOf p) && !lastMarks [op, op'] [r, r'] && ckE t N sc a l && ckE t N sc b r && ckE t N sc d r'
  | .not a, .UnaryOp .Not x _ => ckE t N sc a x
  | .and es, .BoolOp .And as _ => ckEs t N sc es as
  | .or es, .BoolOp .Or as _ => ckEs t N sc es as
  | .ifE c a b, .IfExp x y z _ => ckT t N sc c x && ckE t N sc a y && ckE t N sc b z
  | .idx a i, .Subscript x y _ => ckE t N sc a x && ckE t N sc i y && notSl y
  | .sl a lo hi, .Subscript x (.Slice l u none _) _ => ckE t N sc a x && ckOp t N sc lo l && ckOp t N sc hi u
  | .call f es, .Call (.Name x _) (a :: as) [] _ => (match t.fs[f]? with
    | some fn => decide (fn.name = x) && decide (as.length + 1 ≤ fn.np) && decide (fn.np ≤ as.length + 1 + fn.dfl.length)
    | none => false) && glB sc x && okN x && ckEs t N sc es (a :: as)
  | .bi b es, .Call (.Name x _) (a :: as) [] _ => decide (x = (biN b : Str)) && glB sc x && ckEs t N sc es (a :: as)
  | .sset a, .Call (.Name x _) [.Call (.Name y _) [b] [] _] [] _ => decide (x = ("sorted" : Str)) && decide (y = ("set" : Str)) && glB sc x && glB sc y && notStar b && ckE t N sc a b
  | .isi a cs, .Call (.Name x _) [y, .Name z _] [] _ => decide (x = ("isinstance" : Str)) && glB sc x && notStar y && ckE t N sc a y && (match cs with
    | [c] => decide (z = (c : Str)) && glB sc z && tyNames.contains c
    | _ => false)
  | .isi a cs, .Call (.Name x _) [y, .Tuple zs _ _] [] _ => decide (x = ("isinstance" : Str)) && glB sc x && notStar y && ckE t N sc a y && tyOfN zs cs && glAll sc cs && decide (cs.length ≤ 10) && cs.all tyNames.contains
  | .mth m a es, .Call (.Attribute o nm apos) ys [] pos => (match m with
    | .join => decide (ys.length = 1)
    | _ => false) && decide (nm = (mtN m : Str)) && (apos.endLine == pos.line) && notCall o && ckE t N sc a o && ckEs t N sc es ys
  | .comp it tg ifs elt ws, .ListComp el [⟨tg', itr, cs, 0⟩] scope _ => ckIt t N sc it tg' itr && notSet itr && blkC N sc scope (ownB N ws) && ckTg N scope (some ws) tg tg' && ckTs1 t N (relS scope sc) ifs cs && ckE t N (relS scope sc) elt el
  | _, _ => false
def ckOp (t : Tab) (N : List Str) (sc : Scope) : Op → Option Expr → Bool
  | .no, none => true
  | .yes e, some x => ckE t N sc e x
  | _, _ => false
def ckEs (t : Tab) (N : List Str) (sc : Scope) : Es → List Expr → Bool
  | .nil, [] => true
  | .cons e es, a :: as => notStar a && ckE t N sc e a && ckEs t N sc es as
  | _, _ => false
def ckT (t : Tab) (N : List Str) (sc : Scope) : T → Expr → Bool
  | .e e, x => plainT x && ckE t N sc e x
  | .cmp o a b, .Compare l [op] [r] _ => decide (op = copOf o) && !behindInMarks op r && ckE t N sc a l && ckE t N sc b r
  | .chain o p a b d, .Compare l [op, op'] [r, r'] _ => decide (op = copOf o) && decide (op' = copOf p) && !lastMarks [op, op'] [r, r'] && ckE t N sc a l && ckE t N sc b r && ckE t N sc d r'
  | .not c, .UnaryOp .Not x _ => ckT t N sc c x
  | .and ts, .BoolOp .And (a :: as) _ => ckTs t N sc ts (a :: as)
  | .or ts, .BoolOp .Or (a :: as) _ => ckTs t N sc ts (a :: as)
  | _, _ => false
def ckTs (t : Tab) (N : List Str) (sc : Scope) : Ts → List Expr → Bool
  | .nil, [] => true
  | .cons e es, a :: as => ckT t N sc e a && ckTs t N sc es as
  | _, _ => false
/-- the tests of a comprehension: none or one -/
def ckTs1 (t : Tab) (N : List Str) (sc : Scope) : Ts → List Expr → Bool
  | .nil, [] => true
  | .cons e .nil, [a] => ckT t N sc e a
  | _, _ => false
def ckIt (t : Tab) (N : List Str) (sc : Scope) : Z.It → Expr → Expr → Bool
  | .seq e, _, x => ckE t N sc e x
  | .rng e, _, .Call (.Name x _) [a] [] _ => decide (x = ("range" : Str)) && glB sc x && notStar a && ckE t N sc e a
  | .rng2 d e, _, .Call (.Name x _) [a, b] [] _ => decide (x = ("range" : Str)) && glB sc x && notStar a && notStar b && ckE t N sc d a && ckE t N sc e b
  | .zip d e, g, .Call (.Name x _) [a, b] [] _ => isTup g && decide (x = ("zip" : Str)) && glB sc x && notStar a && notStar b && ckE t N sc d a && ckE t N sc e b
  | .enum e, g, .Call (.Name x _) [a] [] _ => isTup g && decide (x = ("enumerate" : Str)) && glB sc x && notStar a && ckE t N sc e a
  | _, _, _ => false
end

/-! ### where one stands -/
/-- the def f of the table is there, at the level n -/
structure FnAt (K : PySem.W.Frag) (mg : Str → Option Value) (prog : Program) (w : World) (base : Heap) (n : Nat) (fn : Fn) (m : List D → M Rv) : Prop where
  ex : ∃ (a : Addr) (fd : FuncData), mg fn.name = some (.ref a) ∧ PySem.W.keepIn K (.ref a) = true ∧
    FnOk prog w K mg base (L2.CX prog w) n a fd (fn.ns.take fn.np) (fun vs H Q E => vs.length = (fn.ns.take fn.np).length ∧ ∃ F B h ds, (∀ b, F b → H b ≠ none) ∧ HR K mg F B h H ∧ RDs K mg F B H ds vs ∧
      (m ds h).post (fun rv h' => ∀ B' H' v, Ext Z.E0 B B' H H' → HR K mg F B' h' H' → RR K mg F B' (fun _ => none) h' H H' rv v → Q v H') (EX K mg F B H E)) ∧
    ∀ k, k ≤ fn.np → fn.np ≤ k + fn.dfl.length → ∃ (dvs : List V) (ds : List Value), Vals dvs ds ∧ Binds K fd (fn.ns.take fn.np) ds ∧ (∀ F B H, RDs K mg F B H (fn.dfl.drop (fn.dfl.length + k - fn.np)) dvs) ∧ (fn.ns.take fn.np).length = fn.np
structure XOk (t : Tab) (wf : Nat) (N : List Str) (n : Nat) (X : L2.Cx) (sc : Scope) (W : WX) : Prop where
  hN : X.N = N
  nd : N.Nodup
  hs : X.env.scope = sc
  kd : sc.kind = .function
  calm : X.calm = true
  room : Room n X.A
  tk : Takes X W
  po : PassesOwn (model X.prog X.w) X.A X.env X.xe
  fns : ∀ (f : Nat) fn, t.fs[f]? = some fn → FnAt X.K X.mg X.prog X.w X.base n fn (run t.fs t.glo wf n f)
  glos : ∀ x d, t.glo x = some d → ∃ u v, X.mg x = some u ∧ RelV v u ∧ ∀ F B H, RD X.K X.mg F B H d v
  bis : ∀ b : Bi, X.mg (biN b) = none
  bix : ∀ x : Str, x ∈ (["isinstance", "range", "zip", "enumerate", "bool", "NoneType", "dict"] : List String).map Str.ofString → X.mg x = none
end Z
end

section
namespace Z
open PySem PySem.Spec PyProof.Rows L2

/-! ### small things about the text -/
theorem star_cons {env : PySem.Env} {e : Expr} {es : List Expr} (h : notStar e = true) : starEach (e :: es) env = (false, eval e env) :: starEach es env := by
  cases e <;> first | rfl | cases h
theorem star_plain {env : PySem.Env} {pos : Pos} : ∀ {es : List Expr}, (∀ e ∈ es, notStar e = true) → (backTo pos (starEach es env)).any (·.1) = false
  | [], _ => rfl
  | e :: es, h => by
    rw [star_cons (h e List.mem_cons_self)]
    show (false || (backTo pos (starEach es env)).any (·.1)) = false
    rw [star_plain fun x hx => h x (List.mem_cons_of_mem _ hx)]
    rfl
theorem and2 {a b : Bool} (h : (a && b) = true) : a = true ∧ b = true := Bool.and_eq_true_iff.mp h
section
variable {X : L2.Cx} {sc : Scope} {x : Str}
theorem vis_of (hs : X.env.scope = sc) (h : visB sc x = true) : Vis X.env.scope x := by
  rw [hs]
  unfold visB at h
  split at h
  · next e => exact .inl e
  · next e => exact .inr (.inl e)
  · next e => exact .inr (.inr e)
  · cases h
theorem loc_of (hs : X.env.scope = sc) (h : locB sc x = true) : Loc X.env.scope x := by
  rw [hs]
  unfold locB at h
  split at h
  · next e => exact .inl e
  · next e => exact .inr e
  · cases h
theorem gl_of (hs : X.env.scope = sc) (h : glB sc x = true) : Gl X x := by
  unfold glB at h
  split at h
  · next e =>
    show X.env.scope.names.lookup x = _
    rw [hs]
    exact e
  · cases h
theorem okN_d (h : okN x = true) : (x == ("__debug__" : Str)) = false ∧ (x == ("__classdict__" : Str)) = false ∧ x ≠ "__name__" := by
  unfold okN at h
  obtain ⟨h1, h2⟩ := and2 h
  obtain ⟨h3, h4⟩ := and2 h1
  refine ⟨by simpa using h3, by simpa using h4, ?_⟩
  intro e
  rw [e] at h2
  revert h2
  decide +kernel
end
theorem plain_he {e : Expr} {env : PySem.Env} (h : plainT e = true) : ∀ whole, isTrue e env whole = (do let v ← whole; standAt e.pos; holding [v] (truthy v)) := by
  cases e <;> first | (intro _; rfl) | cases h

/-! ### soundness -/
section
variable {t : Tab} {wf : Nat} {N : List Str} {n : Nat}
abbrev cxt (t : Tab) (wf n : Nat) : Cx := ⟨run t.fs t.glo wf n, t.glo, wf⟩
section
variable {X : L2.Cx} {sc : Scope} {W : WX} {F : Addr → Prop} {B B' : Nat → Option Addr} {H H' : Hp} {ow : Nat → Option Addr} {ρ : Env} {h h' : LH} {σ : L2.St}
theorem get_slot {i : Nat} {s : Slot} (e : get ρ i = s) (ne : s ≠ .emp) : ρ[i]? = some s := by
  unfold get at e
  split at e
  · next q => rw [q, e]
  · exact absurd e.symm ne
theorem s_var (ok : XOk t wf N n X sc W) {i : Nat} {x : Str} {pos : Pos} (h1 : atN N i x = true) (h2 : visB sc x = true) (h3 : okN x = true) : PE X (.Name x pos) (tR X.K X.mg (cxt t wf n) W (.var i)) := by
  obtain ⟨d1, d2, _⟩ := okN_d h3
  refine peW (pe_var (i := i) (by rw [ok.hN]; exact of_decide_eq_true h1) (vis_of ok.hs h2) d1 d2) fun σ H Q ⟨F, B, ow, ρ, h, s, p⟩ => ?_
  unfold denR at p
  cases e : get ρ i with
  | val d =>
    rw [e] at p
    obtain ⟨v, e1, r⟩ := s.val i d (get_slot e fun z => nomatch z)
    exact ⟨v, e1, p B H v Ext.rfl' s.heap r⟩
  | emp => rw [e] at p; exact p.elim
  | own _ => rw [e] at p; exact p.elim
theorem s_own (ok : XOk t wf N n X sc W) {i : Nat} {x : Str} {pos : Pos} (h1 : atN N i x = true) (h2 : visB sc x = true) (h3 : okN x = true) : PE X (.Name x pos) (tR X.K X.mg (cxt t wf n) W (.own i)) := by
  obtain ⟨d1, d2, _⟩ := okN_d h3
  refine peW (pe_var (i := i) (by rw [ok.hN]; exact of_decide_eq_true h1) (vis_of ok.hs h2) d1 d2) fun σ H Q ⟨F, B, ow, ρ, h, s, p⟩ => ?_
  unfold denR at p
  cases e : get ρ i with
  | own xs =>
    rw [e] at p
    obtain ⟨a, vs, e1, e2, e3, r⟩ := s.own i xs (get_slot e fun z => nomatch z)
    exact ⟨_, e2, p B H _ Ext.rfl' s.heap ⟨i, a, vs, rfl, e1, e3, r⟩⟩
  | emp => rw [e] at p; exact p.elim
  | val _ => rw [e] at p; exact p.elim
theorem s_const {a : Expr} {e : E} {d : D} {v : V} (hp : PE X a (tC v)) (hd : ∀ c ρ, denR c e ρ = pur (.v d)) (hr : ∀ F B H, RD X.K X.mg F B H d v) : PE X a (tR X.K X.mg (cxt t wf n) W e) := by
  refine peW hp fun σ H Q ⟨F, B, ow, ρ, h, s, p⟩ => ?_
  rw [hd] at p
  exact p B H v Ext.rfl' s.heap (hr _ _ _)
theorem s_glo (ok : XOk t wf N n X sc W) {x : Str} {pos : Pos} (h2 : glB sc x = true) (h3 : okN x = true) : PE X (.Name x pos) (tR X.K X.mg (cxt t wf n) W (.glo x)) := by
  obtain ⟨d1, d2, _⟩ := okN_d h3
  cases q : t.glo x with
  | none =>
    refine ⟨fun pins s σ H Q I ⟨F, B, ow, ρ, h, s', p⟩ => ?_⟩
    unfold denR at p
    have : ((cxt t wf n).glo x) = none := q
    rw [this] at p
    exact p.elim
  | some d =>
    obtain ⟨u, v, e1, e2, e3⟩ := ok.glos x d q
    refine peW (pe_glob (gl_of ok.hs h2) e1 e2 d1) fun σ H Q ⟨F, B, ow, ρ, h, s, p⟩ => ?_
    unfold denR at p
    have : ((cxt t wf n).glo x) = some d := q
    rw [this] at p
    exact p B H v Ext.rfl' s.heap (e3 _ _ _)
theorem s_bin (ok : XOk t wf N n X sc W) {o : Bop} {a b : E} {l r : Expr} {pos : Pos} (ha : PE X l (tR X.K X.mg (cxt t wf n) W a)) (hb : PE X r (tR X.K X.mg (cxt t wf n) W b)) :
    PE X (.BinOp l (bopOf o) r pos) (tR X.K X.mg (cxt t wf n) W (.bin o a b)) := by
  refine peW (pe_op (op_b X o) (tW_of ha) (tW_of hb)) fun σ H Q ⟨F, B, ow, ρ, h, s, p⟩ => ?_
  unfold denR at p
  refine stepW s (k' := fun x => bnd (denR (cxt t wf n) b ρ) fun y => opt (binD o x (wdg y))) (fun _ => rfl) p fun d h1 B1 H1 v x1 s1 w1 p1 => ?_
  refine stepW s1 (k' := fun y => opt (binD o d y)) (fun _ => rfl) p1 fun e h2 B2 H2 u x2 s2 w2 p2 => ?_
  obtain ⟨rv, q1, q2⟩ := post_opt p2
  exact bin_ok s2 (w1.extS s1 x2) w2 q1 (contOf (x1.seq x2) q2)
theorem s_cmp (ok : XOk t wf N n X sc W) {o : Cop} {a b : E} {l r : Expr} {pos : Pos} (ha : PE X l (tR X.K X.mg (cxt t wf n) W a)) (hb : PE X r (tR X.K X.mg (cxt t wf n) W b)) (hm : behindInMarks (copOf o) r = false) :
    PE X (.Compare l [copOf o] [r] pos) (tR X.K X.mg (cxt t wf n) W (.cmp o a b)) := by
  refine peW (pe_cmpR (op_c X ok.room.units o) (tW_of ha) (tW_of hb) hm) fun σ H Q ⟨F, B, ow, ρ, h, s, p⟩ => ?_
  unfold denR at p
  refine stepW s (k' := fun x => bnd (denR (cxt t wf n) b ρ) fun y => rd fun h => (cmpD h o x (wdg y)).map fun k => Rv.v (D.bl k)) (fun _ => rfl) p fun d h1 B1 H1 v x1 s1 w1 p1 => ?_
  refine stepW s1 (k' := fun y => rd fun h => (cmpD h o d y).map fun k => Rv.v (D.bl k)) (fun _ => rfl) p1 fun e h2 B2 H2 u x2 s2 w2 p2 => ?_
  obtain ⟨rv, q1, q2⟩ := post_rd p2
  cases q : cmpD h2 o d e with
  | none => rw [q] at q1; cases q1
  | some k =>
    rw [q] at q1
    cases (show some (Rv.v (D.bl k)) = some rv from q1)
    exact cmp_ok s2 (w1.extS s1 x2) w2 q (q2 B2 H2 _ (x1.seq x2) s2.heap (.bl k))
theorem t_cmp (ok : XOk t wf N n X sc W) {o : Cop} {a b : E} {l r : Expr} {pos : Pos} (ha : PE X l (tR X.K X.mg (cxt t wf n) W a)) (hb : PE X r (tR X.K X.mg (cxt t wf n) W b)) (hm : behindInMarks (copOf o) r = false) :
    PT X (.Compare l [copOf o] [r] pos) (tT X.K X.mg (cxt t wf n) W (.cmp o a b)) := by
  refine ptW (pt_cmpR (op_c X ok.room.units o) (tW_of ha) (tW_of hb) hm) fun σ H Q ⟨F, B, ow, ρ, h, s, p⟩ => ?_
  unfold denT at p
  refine stepW s (k' := fun x => bnd (denR (cxt t wf n) b ρ) fun y => rd fun h => cmpD h o x (wdg y)) (fun _ => rfl) p fun d h1 B1 H1 v x1 s1 w1 p1 => ?_
  refine stepW s1 (k' := fun y => rd fun h => cmpD h o d y) (fun _ => rfl) p1 fun e h2 B2 H2 u x2 s2 w2 p2 => ?_
  obtain ⟨k, q1, q2⟩ := post_rd p2
  exact cmp_ok s2 (w1.extS s1 x2) w2 q1 ⟨k, rfl, q2 B2 H2 (x1.seq x2) s2.heap⟩
theorem s_chain (ok : XOk t wf N n X sc W) {o p : Cop} {a b d : E} {l r r' : Expr} {pos : Pos} (ha : PE X l (tR X.K X.mg (cxt t wf n) W a)) (hb : PE X r (tR X.K X.mg (cxt t wf n) W b)) (hd : PE X r' (tR X.K X.mg (cxt t wf n) W d))
    (hm : lastMarks [copOf o, copOf p] [r, r'] = false) : PE X (.Compare l [copOf o, copOf p] [r, r'] pos) (tR X.K X.mg (cxt t wf n) W (.chain o p a b d)) := by
  refine peW (pe_chain (op_c X ok.room.units o) (op_c X ok.room.units p) (tW_of ha) (tW_of hb) (tW_of hd) hm) fun σ H Q ⟨F, B, ow, ρ, h, s, pp⟩ => ?_
  unfold denR at pp
  refine stepW s (k' := fun x => bnd (denR (cxt t wf n) b ρ) fun y => bnd (rd fun h => cmpD h o x (wdg y)) fun k =>
      if k then bnd (denR (cxt t wf n) d ρ) fun z => rd fun h => (cmpD h p (wdg y) (wdg z)).map fun k => Rv.v (D.bl k) else pur (Rv.v (D.bl false))) (fun _ => rfl) pp fun d1 h1 B1 H1 v x1 s1 w1 p1 => ?_
  refine stepW s1 (k' := fun y => bnd (rd fun h => cmpD h o d1 y) fun k =>
      if k then bnd (denR (cxt t wf n) d ρ) fun z => rd fun h => (cmpD h p y (wdg z)).map fun k => Rv.v (D.bl k) else pur (Rv.v (D.bl false))) (fun _ => rfl) p1 fun e1 h2 B2 H2 u x2 s2 w2 p2 => ?_
  obtain ⟨k, q1, q2⟩ := post_rd (post_bnd.1 p2)
  refine cmp_ok s2 (w1.extS s1 x2) w2 q1 ⟨k, rfl, ?_⟩
  cases k with
  | false =>
    rw [if_neg Bool.false_ne_true]
    exact q2 B2 H2 _ (x1.seq x2) s2.heap (.bl false)
  | true =>
    rw [if_pos rfl]
    refine stepW s2 (k' := fun z => rd fun h => (cmpD h p e1 z).map fun k => Rv.v (D.bl k)) (fun _ => rfl) q2 fun e3 h3 B3 H3 u3 x3 s3 w3 p3 => ?_
    obtain ⟨rv, q3, q4⟩ := post_rd p3
    cases q : cmpD h3 p e1 e3 with
    | none => rw [q] at q3; cases q3
    | some k =>
      rw [q] at q3
      cases (show some (Rv.v (D.bl k)) = some rv from q3)
      exact cmp_ok s3 (w2.extS s2 x3) w3 q (q4 B3 H3 _ ((x1.seq x2).seq x3) s3.heap (.bl k))
theorem t_chain (ok : XOk t wf N n X sc W) {o p : Cop} {a b d : E} {l r r' : Expr} {pos : Pos} (ha : PE X l (tR X.K X.mg (cxt t wf n) W a)) (hb : PE X r (tR X.K X.mg (cxt t wf n) W b)) (hd : PE X r' (tR X.K X.mg (cxt t wf n) W d))
    (hm : lastMarks [copOf o, copOf p] [r, r'] = false) : PT X (.Compare l [copOf o, copOf p] [r, r'] pos) (tT X.K X.mg (cxt t wf n) W (.chain o p a b d)) := by
  refine ptW (pt_chain (op_c X ok.room.units o) (op_c X ok.room.units p) (tW_of ha) (tW_of hb) (tW_of hd) hm) fun σ H Q ⟨F, B, ow, ρ, h, s, pp⟩ => ?_
  unfold denT at pp
  refine stepW s (k' := fun x => bnd (denR (cxt t wf n) b ρ) fun y => bnd (rd fun h => cmpD h o x (wdg y)) fun k =>
      if k then bnd (denR (cxt t wf n) d ρ) fun z => rd fun h => cmpD h p (wdg y) (wdg z) else pur false) (fun _ => rfl) pp fun d1 h1 B1 H1 v x1 s1 w1 p1 => ?_
  refine stepW s1 (k' := fun y => bnd (rd fun h => cmpD h o d1 y) fun k =>
      if k then bnd (denR (cxt t wf n) d ρ) fun z => rd fun h => cmpD h p y (wdg z) else pur false) (fun _ => rfl) p1 fun e1 h2 B2 H2 u x2 s2 w2 p2 => ?_
  obtain ⟨k, q1, q2⟩ := post_rd (post_bnd.1 p2)
  refine cmp_ok s2 (w1.extS s1 x2) w2 q1 ⟨k, rfl, ?_⟩
  cases k with
  | false =>
    rw [if_neg Bool.false_ne_true]
    exact ⟨false, rfl, q2 B2 H2 (x1.seq x2) s2.heap⟩
  | true =>
    rw [if_pos rfl]
    refine stepW s2 (k' := fun z => rd fun h => cmpD h p e1 z) (fun _ => rfl) q2 fun e3 h3 B3 H3 u3 x3 s3 w3 p3 => ?_
    obtain ⟨k, q3, q4⟩ := post_rd p3
    exact cmp_ok s3 (w2.extS s2 x3) w3 q3 ⟨k, rfl, q4 B3 H3 ((x1.seq x2).seq x3) s3.heap⟩
theorem s_not {a : E} {x : Expr} {pos : Pos} (ha : PE X x (tR X.K X.mg (cxt t wf n) W a)) : PE X (.UnaryOp .Not x pos) (tR X.K X.mg (cxt t wf n) W (.not a)) := by
  refine peW (pe_not ha) fun σ H Q ⟨F, B, ow, ρ, h, s, p⟩ => ?_
  unfold denR at p
  refine tRd_step s p fun rv h1 B1 H1 v x1 s1 r1 p1 => ?_
  split at p1
  · next k =>
    cases (show RD _ _ _ _ _ (D.bl k) v from r1)
    exact ⟨k, rfl, p1 B1 H1 _ x1 s1.heap (.bl _)⟩
  · exact p1.elim
theorem s_ifE {c : T} {a b : E} {x y z : Expr} {pos : Pos} (hc : PT X x (tT X.K X.mg (cxt t wf n) W c)) (ha : PE X y (tR X.K X.mg (cxt t wf n) W a)) (hb : PE X z (tR X.K X.mg (cxt t wf n) W b)) : PE X (.IfExp x y z pos) (tR X.K X.mg (cxt t wf n) W (.ifE c a b)) := by
  refine peW (pe_ifExp hc ha hb) fun σ H Q ⟨F, B, ow, ρ, h, s, p⟩ => ?_
  unfold denR at p
  refine tTd_step s p fun k h1 B1 H1 x1 s1 p1 => ?_
  cases k with
  | true =>
    rw [if_pos rfl] at p1 ⊢
    refine ⟨F, B1, ow, ρ, h1, s1, post_mono p1 (fun rv h2 q B2 H2 v x2 hr r => contOf x1 q B2 H2 v x2 r hr) fun _ _ _ z => z⟩
  | false =>
    rw [if_neg Bool.false_ne_true] at p1 ⊢
    refine ⟨F, B1, ow, ρ, h1, s1, post_mono p1 (fun rv h2 q B2 H2 v x2 hr r => contOf x1 q B2 H2 v x2 r hr) fun _ _ _ z => z⟩
theorem s_idx {a i : E} {x y : Expr} {pos : Pos} (ha : PE X x (tR X.K X.mg (cxt t wf n) W a)) (hi : PE X y (tR X.K X.mg (cxt t wf n) W i)) (hs : PlainIx y) : PE X (.Subscript x y pos) (tR X.K X.mg (cxt t wf n) W (.idx a i)) := by
  refine peW (pe_ix ix_seq (tW_of ha) (tW_of hi) hs) fun σ H Q ⟨F, B, ow, ρ, h, s, p⟩ => ?_
  unfold denR at p
  refine stepW s (k' := fun x => bnd (denR (cxt t wf n) i ρ) fun y => rd fun h => (ixD h x (wdg y)).map Rv.v) (fun _ => rfl) p fun d h1 B1 H1 v x1 s1 w1 p1 => ?_
  refine stepW s1 (k' := fun y => rd fun h => (ixD h d y).map Rv.v) (fun _ => rfl) p1 fun e h2 B2 H2 u x2 s2 w2 p2 => ?_
  obtain ⟨rv, q1, q2⟩ := post_rd p2
  cases q : ixD h2 d e with
  | none => rw [q] at q1; cases q1
  | some k =>
    rw [q] at q1
    cases (show some (Rv.v k) = some rv from q1)
    exact ix_ok s2 (w1.extS s1 x2) w2 q (contOf (x1.seq x2) q2)
theorem s_op_no : PO X none (tOp' X.K X.mg (cxt t wf n) W .no) := by
  refine poW po_none fun σ H Q ⟨F, B, ow, ρ, h, s, p⟩ => ?_
  unfold denOp at p
  exact p B H Ext.rfl' s.heap
theorem s_op_yes {e : E} {x : Expr} (he : PE X x (tR X.K X.mg (cxt t wf n) W e)) : PO X (some x) (tOp' X.K X.mg (cxt t wf n) W (.yes e)) := by
  refine poW (po_some he) fun σ H Q ⟨F, B, ow, ρ, h, s, p⟩ => ?_
  unfold denOp at p
  refine tRd_step s p fun rv h1 B1 H1 v x1 s1 r1 p1 => ?_
  split at p1
  · next k =>
    cases (show RD _ _ _ _ _ (D.int k) v from r1)
    exact ⟨k, rfl, p1 B1 H1 x1 s1.heap⟩
  · exact p1.elim
theorem s_sl {a : E} {lo hi : Op} {x : Expr} {l u : Option Expr} {p2 pos : Pos} (ha : PE X x (tR X.K X.mg (cxt t wf n) W a)) (hl : PO X l (tOp' X.K X.mg (cxt t wf n) W lo)) (hu : PO X u (tOp' X.K X.mg (cxt t wf n) W hi)) :
    PE X (.Subscript x (.Slice l u none p2) pos) (tR X.K X.mg (cxt t wf n) W (.sl a lo hi)) := by
  refine peW (pe_slice (sl_3 X) (tW_of ha) hl hu) fun σ H Q ⟨F, B, ow, ρ, h, s, p⟩ => ?_
  unfold denR at p
  refine stepW s (k' := fun x => bnd (denOp (cxt t wf n) lo ρ) fun l => bnd (denOp (cxt t wf n) hi ρ) fun u => rd fun h => slD h x l u) (fun _ => rfl) p fun d h1 B1 H1 v x1 s1 w1 p1 => ?_
  refine tTd_step s1 p1 fun l h2 B2 H2 x2 s2 p2 => ?_
  refine tTd_step s2 p2 fun u h3 B3 H3 x3 s3 p3 => ?_
  obtain ⟨rv, q1, q2⟩ := post_rd p3
  exact sl_ok s3 ((w1.extS s1 x2).extS s2 x3) q1 (contOf ((x1.seq x2).seq x3) q2)
theorem a_nil : PA X [] (tEs X.K X.mg (cxt t wf n) W .nil) := by
  refine paW pa_nil fun σ H Q ⟨F, B, ow, ρ, h, s, p⟩ => ?_
  unfold denEs at p
  exact p B H [] Ext.rfl' s.heap .nil
theorem a_cons {e : E} {es : Es} {x : Expr} {xs : List Expr} (hn : notStar x = true) (he : PE X x (tR X.K X.mg (cxt t wf n) W e)) (ht : PA X xs (tEs X.K X.mg (cxt t wf n) W es)) : PA X (x :: xs) (tEs X.K X.mg (cxt t wf n) W (.cons e es)) := by
  refine paW (pa_cons (tD_of he) ht (star_cons hn)) fun σ H Q ⟨F, B, ow, ρ, h, s, p⟩ => ?_
  unfold denEs at p
  refine stepD s (k' := fun d => bnd (denEs (cxt t wf n) es ρ) fun ds => pur (d :: ds)) (fun _ => rfl) p fun d h1 B1 H1 v x1 s1 r1 p1 => ?_
  refine tAd_step s1 p1 fun ds h2 B2 H2 vs x2 s2 r2 p2 => ?_
  exact p2 B2 H2 (v :: vs) (x1.seq x2) s2.heap (.cons (r1.ext x2 s1.heap.cells) r2)
theorem w_nil : PA X [] (tWs X.K X.mg (cxt t wf n) W .nil) := by
  refine paW pa_nil fun σ H Q ⟨F, B, ow, ρ, h, s, p⟩ => ?_
  unfold denWs at p
  exact p B H [] Ext.rfl' s.heap .nil
theorem w_cons {e : E} {es : Es} {x : Expr} {xs : List Expr} (hn : notStar x = true) (he : PE X x (tR X.K X.mg (cxt t wf n) W e)) (ht : PA X xs (tWs X.K X.mg (cxt t wf n) W es)) : PA X (x :: xs) (tWs X.K X.mg (cxt t wf n) W (.cons e es)) := by
  refine paW (pa_cons (tW_of he) ht (star_cons hn)) fun σ H Q ⟨F, B, ow, ρ, h, s, p⟩ => ?_
  unfold denWs at p
  refine stepW s (k' := fun d => bnd (denWs (cxt t wf n) es ρ) fun ds => pur (d :: ds)) (fun _ => rfl) p fun d h1 B1 H1 v x1 s1 r1 p1 => ?_
  refine tAd_step s1 p1 fun ds h2 B2 H2 vs x2 s2 r2 p2 => ?_
  exact p2 B2 H2 (v :: vs) (x1.seq x2) s2.heap (.cons (r1.extS s1 x2) r2)
theorem s_tup {es : Es} {xs : List Expr} {k : Nat} {pos : Pos} (ha : PA X xs (tEs X.K X.mg (cxt t wf n) W es)) : PE X (.Tuple xs k pos) (tR X.K X.mg (cxt t wf n) W (.tup es)) := by
  refine peW (pe_tup ha) fun σ H Q ⟨F, B, ow, ρ, h, s, p⟩ => ?_
  unfold denR at p
  refine tAd_step s p fun ds h1 B1 H1 vs x1 s1 r1 p1 => ?_
  split at p1
  · next hl =>
    refine ⟨by rw [← r1.length, ← szL_eq]; exact hl, Cont.tup s1 (contOf x1 p1) r1⟩
  · exact p1.elim
theorem s_lst {es : Es} {xs : List Expr} {pos : Pos} (ha : PA X xs (tEs X.K X.mg (cxt t wf n) W es)) : PE X (.List xs pos) (tR X.K X.mg (cxt t wf n) W (.lst es)) := by
  refine peW (pe_lst ha) fun σ H Q ⟨F, B, ow, ρ, h, s, p⟩ => ?_
  unfold denR at p
  refine tAd_step s p fun ds h1 B1 H1 vs x1 s1 r1 p1 => ?_
  split at p1
  · next hl =>
    refine ⟨by rw [← r1.length, ← szL_eq]; exact hl, Cont.lst s1 (contOf x1 p1) r1⟩
  · exact p1.elim
end
end
end Z
end

section
namespace Z
open PySem PySem.Spec PyProof.Rows L2

/-! ### sorting of texts -/
theorem insS_perm (x : List Nat) : ∀ ys, (insS x ys).Perm (x :: ys)
  | [] => .refl _
  | y :: r => by
    unfold insS
    split
    · exact ((insS_perm x r).cons y).trans (.swap x y r)
    · exact .refl _
theorem sortS_perm : ∀ xs, (sortS xs).Perm xs
  | [] => .refl _
  | x :: r => (insS_perm x _).trans ((sortS_perm r).cons x)
theorem lt_asymm {a b : List Nat} (h : a < b) : ¬ b < a := List.lt_asymm h
theorem insS_sorted (x : List Nat) : ∀ ys : List (List Nat), ys.Pairwise (fun a b => ¬ b < a) → (insS x ys).Pairwise (fun a b => ¬ b < a)
  | [], _ => List.pairwise_singleton _ _
  | y :: r, h => by
    obtain ⟨h1, h2⟩ := List.pairwise_cons.mp h
    unfold insS
    split
    · next hlt =>
      refine List.pairwise_cons.mpr ⟨fun z hz => ?_, insS_sorted x r h2⟩
      rcases List.mem_cons.mp ((insS_perm x r).mem_iff.mp hz) with rfl | hz
      · exact lt_asymm hlt
      · exact h1 z hz
    · next hlt =>
      refine List.pairwise_cons.mpr ⟨fun z hz => ?_, h⟩
      rcases List.mem_cons.mp hz with rfl | hz
      · exact hlt
      · exact fun zx => hlt (List.lt_of_le_of_lt (List.not_lt.mp (h1 z hz)) zx)
theorem sortS_sorted : ∀ xs, (sortS xs).Pairwise (fun a b => ¬ b < a)
  | [] => .nil
  | x :: r => insS_sorted x _ (sortS_sorted r)
theorem le_antisymm' {a b : List Nat} (h1 : ¬ b < a) (h2 : ¬ a < b) : a = b := List.le_antisymm (List.not_lt.mp h1) (List.not_lt.mp h2)
theorem sortS_uniq {xs ys : List (List Nat)} (p : ys.Perm xs) (s : ys.Pairwise (fun a b => ¬ b < a)) : ys = sortS xs :=
  List.Perm.eq_of_pairwise (fun _ _ _ _ h1 h2 => le_antisymm' h1 h2) s (sortS_sorted xs) (p.trans (sortS_perm xs).symm)

/-! ### built-ins -/
section
variable {K : PySem.W.Frag} {mg : Str → Option Value} {F : Addr → Prop} {B B' : Nat → Option Addr} {H H' : Hp} {ow : Nat → Option Addr} {ρ : Env} {h h' : LH} {σ : L2.St}
theorem rising_pw : ∀ (ys : List Str) (p : Str), risingS p ys = true → (p :: ys).Pairwise (fun a b => ¬ b.cps.toList < a.cps.toList)
  | [], p, _ => List.pairwise_singleton _ _
  | x :: r, p, e => by
    unfold risingS at e
    obtain ⟨e1, e2⟩ := and2 e
    rw [ltCps_eq] at e1
    have e3 : ¬ x.cps.toList < p.cps.toList := by simpa using e1
    have ih := rising_pw r x e2
    refine List.pairwise_cons.mpr ⟨fun z hz => ?_, ih⟩
    rcases List.mem_cons.mp hz with rfl | hz
    · exact e3
    · exact List.not_lt.mpr (List.le_trans (List.not_lt.mp e3) (List.not_lt.mp ((List.pairwise_cons.mp ih).1 z hz)))
theorem sortedS_pw {ys : List Str} (e : sortedS ys = true) : ys.Pairwise (fun a b => ¬ b.cps.toList < a.cps.toList) := by
  cases ys with
  | nil => exact .nil
  | cons x r => exact rising_pw r x e
/-- a list of texts comes back from the model as it went -/
theorem strs_back {ys : List Str} {ss : List (List Nat)} (p : ys.Perm (ss.map str)) : ys = (ys.map fun z => z.cps.toList).map str := by
  rw [List.map_map]
  conv => lhs; rw [← List.map_id ys]
  refine List.map_congr_left fun z _ => ?_
  cases z
  simp
theorem RDs.ofStrs' {ys : List Str} {ss : List (List Nat)} (p : ys.Perm (ss.map str)) (e : sortedS ys = true) : ys = (sortS ss).map str := by
  rw [strs_back p]
  refine congrArg _ (sortS_uniq ?_ ?_)
  · have q := p.map fun z : Str => z.cps.toList
    rw [List.map_map] at q
    have : ss.map ((fun z : Str => z.cps.toList) ∘ str) = ss := by
      conv => rhs; rw [← List.map_id ss]
      exact List.map_congr_left fun z _ => by simp
    rw [this] at q
    exact q
  · rw [List.pairwise_map]
    exact sortedS_pw e
theorem sumLen_eq : ∀ ys : List (List Nat), ((ys.map str).map (·.length)).sum = sumLen ys
  | [] => rfl
  | y :: r => by
    rw [List.map_cons, List.map_cons, List.sum_cons, sumLen_eq r, str_len]; rfl
theorem bi_ok {b : Bi} {ds : List D} {vs : List V} {rv : Rv} {Q : VK} (s : SR K mg F B ow ρ h σ H) (w : WLs K mg (Ft F ow) B H ds vs) (e : biD h b ds = some rv) (c : Cont K mg F B ow h H rv Q) : rBi K b vs H Q := by
  unfold biD at e
  split at e
  · split at e
    · next hl =>
      cases e
      obtain ⟨v, rfl, w1⟩ := w.one
      obtain ⟨rfl, _⟩ := w1.str
      refine .inl ⟨_, rfl, by rw [str_len, ← szL_eq]; exact hl, ?_⟩
      rw [str_len]
      exact c.here s (.int _)
    · cases e
  · next a _ =>
    cases q : seqV h a with
    | none => rw [q] at e; cases e
    | some xs =>
      rw [q] at e
      cases (show some (Rv.v (D.int xs.length)) = some rv from e)
      obtain ⟨v, rfl, w1⟩ := w.one
      obtain ⟨p, ys, rfl, h1, h2⟩ := w1.seq s.heap q
      refine .inr ⟨p, ys, rfl, h1, ?_⟩
      rw [← h2.length]
      exact c.here s (.int _)
  · cases e
    obtain ⟨v, rfl, w1⟩ := w.one
    exact ⟨_, by rw [w1.int], c.here s (.int _)⟩
  · cases e
    obtain ⟨v, rfl, w1⟩ := w.one
    exact .inl ⟨_, by rw [w1.int], c.here s (.int _)⟩
  · cases e
    obtain ⟨v, rfl, w1⟩ := w.one
    exact .inr ⟨_, by rw [w1.bl], c.here s (.int _)⟩
  · next a =>
    cases q : seqV h a with
    | none => rw [q] at e; cases e
    | some xs =>
      rw [q] at e
      cases (show some (Rv.fr xs) = some rv from e)
      obtain ⟨v, rfl, w1⟩ := w.one
      obtain ⟨p, ys, rfl, h1, h2⟩ := w1.seq s.heap q
      exact ⟨p, ys, rfl, h1, c.lst s h2⟩
  · next a =>
    cases q : seqV h a with
    | none => rw [q] at e; cases e
    | some xs =>
      rw [q] at e
      cases (show some (Rv.v (D.tup xs)) = some rv from e)
      obtain ⟨v, rfl, w1⟩ := w.one
      obtain ⟨p, ys, rfl, h1, h2⟩ := w1.seq s.heap q
      refine ⟨p, ys, rfl, ?_⟩
      rcases h1 with h1 | h1
      · exact .inl ⟨h1, c.tup s h2⟩
      · exact .inr ⟨h1, c.here s (.tup h1 h2)⟩
  · next xs =>
    cases q : boolsOf xs with
    | none => rw [q] at e; cases e
    | some bs =>
      rw [q] at e
      cases (show some (Rv.v (D.bl (bs.all id))) = some rv from e)
      obtain ⟨v, rfl, w1⟩ := w.one
      obtain ⟨p, ys, rfl, h1, h2⟩ := w1.lst
      refine ⟨p, bs, rfl, ?_, c.here s (.bl _)⟩
      rw [← h2.bools q]
      exact SqL.of h1
  · next xs =>
    cases q : boolsOf xs with
    | none => rw [q] at e; cases e
    | some bs =>
      rw [q] at e
      cases (show some (Rv.v (D.bl (bs.any id))) = some rv from e)
      obtain ⟨v, rfl, w1⟩ := w.one
      obtain ⟨p, ys, rfl, h1, h2⟩ := w1.lst
      refine ⟨p, bs, rfl, ?_, c.here s (.bl _)⟩
      rw [← h2.bools q]
      exact SqL.of h1
  · cases e
    obtain ⟨v, u, rfl, w1, w2⟩ := w.two
    exact ⟨_, _, by rw [w1.int, w2.int], c.here s (.int _)⟩
  · cases e
    obtain ⟨v, u, rfl, w1, w2⟩ := w.two
    exact ⟨_, _, by rw [w1.int, w2.int], c.here s (.int _)⟩
  · next a =>
    cases q : lstV h a with
    | none => rw [q] at e; cases e
    | some xs =>
      rw [q] at e
      cases q2 : strsOf xs with
      | none =>
        have e : (match strsOf xs with
          | some ys => if ys.length < 64 then some (Rv.fr ((sortS ys).map D.str)) else none
          | none => if sortOk xs then some (Rv.fr (sortD xs)) else none) = some rv := e
        rw [q2] at e
        have e : (if sortOk xs then some (Rv.fr (sortD xs)) else none) = some rv := e
        split at e
        · next hl =>
          cases e
          obtain ⟨v, rfl, w1⟩ := w.one
          obtain ⟨p, ys, rfl, h1, h2⟩ := w1.lstq s.heap q
          exact .inr ⟨p, ys, xs, mg, _, B, rfl, h1, h2, hl, fun zs r hz hr => c.lst s hz r hr⟩
        · cases e
      | some ss =>
        have e : (match strsOf xs with
          | some ys => if ys.length < 64 then some (Rv.fr ((sortS ys).map D.str)) else none
          | none => if sortOk xs then some (Rv.fr (sortD xs)) else none) = some rv := e
        rw [q2] at e
        have e : (if ss.length < 64 then some (Rv.fr ((sortS ss).map D.str)) else none) = some rv := e
        split at e
        · next hl =>
          cases e
          obtain ⟨v, rfl, w1⟩ := w.one
          obtain ⟨p, ys, rfl, h1, h2⟩ := w1.lstq s.heap q
          obtain ⟨e1, e2⟩ := h2.strs q2
          subst e1
          refine .inl ⟨p, ss.map str, rfl, h1, by rw [List.length_map]; exact hl, fun zs r pm so hr => ?_⟩
          rw [RDs.ofStrs' pm so]
          exact c.lst s (RDs.ofStrs fun z hz => e2 z ((sortS_perm ss).mem_iff.mp hz)) r hr
        · cases e
  · cases e
theorem joinS_eq (z : List Nat) : ∀ ys : List (List Nat), PySem.Str.join (str z) (ys.map str) = str (joinS z ys)
  | [] => rfl
  | [x] => rfl
  | x :: y :: r => by
    have ih := joinS_eq z (y :: r)
    show str x ++ str z ++ PySem.Str.join (str z) ((y :: r).map str) = _
    rw [ih, str_app, str_app]
    rfl
theorem joinS_ok {z : List Nat} (oz : okS z = true) : ∀ {ys : List (List Nat)}, (∀ y ∈ ys, okS y = true) → okS (joinS z ys) = true
  | [], _ => rfl
  | [x], h => h x List.mem_cons_self
  | x :: y :: r, h => okS_append (okS_append (h x List.mem_cons_self) oz) (joinS_ok (ys := y :: r) oz fun w hw => h w (List.mem_cons_of_mem _ hw))
end
end Z
end

section
namespace Z
open PySem PySem.Spec PyProof.Rows L2

/-! ### sets of texts -/
/-- a row's text -/
def sK (e : Int × Value) : Str := match e.2 with
  | .str x _ => x
  | _ => Str.empty
def StrE (w : World) (e : Int × Value) : Prop := ∃ (x : Str) (tk : Tok), e.2 = .str x tk ∧ e.1 = hashStr w x
/-- the set at a, of the texts xs (some perhaps twice) -/
def SetS (w : World) (h : Heap) (a : Addr) (xs : List Str) : Prop := ∃ o es ep t, h.get? a = some o ∧ o.ExactSet ∧ o.data = .set es ep t ∧ (∀ e ∈ es.toList, StrE w e) ∧ (es.toList.map sK).Nodup ∧
  (∀ k, k ∈ xs ↔ k ∈ es.toList.map sK) ∧ es.size ≤ xs.length ∧ t.fits es.size = true ∧ Ris t.place.toList ∧ (w.params.followText "set-order" = true ∨ t.led = true)
section
variable {P : Program} {w : World} {h h' : Heap} {a : Addr} {xs : List Str}
theorem SetS.keep (R : SetS w h a xs) (k : ∀ o, h.get? a = some o → h'.get? a = some o) : SetS w h' a xs := by
  obtain ⟨o, es, ep, t, ho, rest⟩ := R
  exact ⟨o, es, ep, t, k o ho, rest⟩
theorem elems_str {l : List (Int × Value)} (g : ∀ e ∈ l, StrE w e) : ElemsOf (PySem.strKind P w) l := by
  intro e he
  obtain ⟨x, tk, e1, e2⟩ := g e he
  exact ⟨⟨x, by rw [e1]; exact PySem.strKind_is P w x tk, e2⟩, by rw [e1]; rfl⟩
theorem is_str {e : Int × Value} (g : StrE w e) (k : Str) : (PySem.strKind P w).is k e.2 = true ↔ sK e = k := by
  obtain ⟨x, tk, e1, _⟩ := g
  unfold sK
  rw [e1]
  constructor
  · intro z
    have z : Value.isStrOf k (Value.str x tk) = true := z
    obtain ⟨t2, z2⟩ := Value.isStrOf_shape z
    injection z2
  · intro z
    have z : x = k := z
    rw [← z]
    exact PySem.strKind_is P w x tk
theorem mem_str {l : List (Int × Value)} (g : ∀ e ∈ l, StrE w e) (k : Str) : k ∈ l.map sK ↔ ∃ e ∈ l, (PySem.strKind P w).is k e.2 = true := by
  rw [List.mem_map]
  exact ⟨fun ⟨e, he, q⟩ => ⟨e, he, (is_str (g e he) k).2 q⟩, fun ⟨e, he, q⟩ => ⟨e, he, (is_str (g e he) k).1 q⟩⟩
end
section
variable {P : Program} {w : World} {A : Around} {E : Value → Shared → Prop} {s : Shared} {a : Addr} {xs : List Str}
/-- the new rows are stored, laid anew where the table is full -/
theorem setS_tail {g : Bool → Sem Unit} (hg : ∀ (b : Bool) (s1 : Shared) (Q' : Unit → Shared → Prop), Q' () s1 → wpAny (model P w) A (g b) Q' E s1) {o : Obj} {es : Array (Int × Value)} {ep : Nat} {t : SetTable}
    (ho : s.heap.get? a = some o) (hx : o.ExactSet) (hd : o.data = .set es ep t) {fs : Array (Int × Value)} {t2 : SetTable} {ys : List Str} (gd : ∀ e ∈ fs.toList, StrE w e) (nd : (fs.toList.map sK).Nodup)
    (mm : ∀ k, k ∈ ys ↔ k ∈ fs.toList.map sK) (hlen : fs.size ≤ ys.length) (hb : ys.length < scanBound) (hf : t2.fits fs.size = true) (hr : Ris t2.place.toList) (hl : w.params.followText "set-order" = true ∨ t2.led = true) {wd : Bool}
    {R : Option Bool → Shared → Prop} (hR : ∀ h', Heap.SameBut a s.heap h' → SetS w h' a ys → R (some true) { s with heap := h' }) :
    wpAny (model P w) A (do
        storeSet a fs t2
        if (!wd && t2.tooFull) = true then do
            g (relayAll t2 fs (SetTable.grown fs.size)).2.2
            storeSet a (relayAll t2 fs (SetTable.grown fs.size)).1 (relayAll t2 fs (SetTable.grown fs.size)).2.1
            pure (some true)
          else pure (some true)) R E s := by
  have room : fs.size < scanBound := Nat.lt_of_le_of_lt hlen hb
  refine wpAny_bind (wpAny_storeSet_of ho hd ?_ (fits_of_scanBound room))
  have o1 := store_at (es' := fs) (t' := t2) ho hd
  have sb := Heap.SameBut.update s.heap a (Obj.putSet fs t2)
  split
  · have q1 := relayAll_perm t2 fs (SetTable.grown fs.size)
    have q2 := relayAll_fits t2 fs (SetTable.grown fs.size)
    have q3 := relayAll_ris t2 fs (SetTable.grown fs.size)
    have q4 := relayAll_led t2 fs (SetTable.grown fs.size)
    generalize relayAll t2 fs (SetTable.grown fs.size) = Z0 at q1 q2 q3 q4 ⊢
    obtain ⟨gs, t3, gv⟩ := Z0
    dsimp only at q1 q2 q3 q4 ⊢
    have sz : gs.size = fs.size := by rw [← Array.length_toList, q1.length_eq, Array.length_toList]
    refine wpAny_bind (hg _ _ _ ?_)
    refine wpAny_bind (wpAny_storeSet_of o1 rfl ?_ (fits_of_scanBound (by rw [sz]; exact room)))
    have o2 := store_at (es' := gs) (t' := t3) o1 rfl
    refine wpAny_pure (hR _ (sb.trans (Heap.SameBut.update _ a _)) ⟨_, gs, _, t3, o2, hx, rfl, ?_, ?_, ?_, by rw [sz]; exact hlen, q2, q3, hl.imp id fun z => by rw [q4]; exact z⟩)
    · exact fun e he => gd e (q1.mem_iff.mp he)
    · exact (q1.map sK).nodup_iff.mpr nd
    · exact fun k => (mm k).trans (q1.map sK).mem_iff.symm
  · exact wpAny_pure (hR _ sb ⟨_, fs, _, t2, o1, hx, rfl, gd, nd, mm, hlen, hf, hr, hl⟩)
theorem setS_add {k : Str} {tk : Tok} {Q : Bool → Shared → Prop} (R : SetS w s.heap a xs) (room : xs.length + 1 < scanBound) (hQ : ∀ b h', Heap.SameBut a s.heap h' → SetS w h' a (xs ++ [k]) → Q b { s with heap := h' }) :
    wpAny (model P w) A (setAddHashed a (.str k tk) ((PySem.strKind P w).hash k)) Q E s := by
  obtain ⟨o, es, ep, t, ho, hx, hd, g, nd, mm, hlen, hf, hr, hl⟩ := R
  have hb : es.size < scanBound := by omega
  have hkey : (PySem.strKind P w).is k (.str k tk) = true := PySem.strKind_is P w k tk
  have hsc : (Value.str k tk).scannable = true := rfl
  have hel : ElemsOf (PySem.strKind P w) es.toList := elems_str g
  unfold setAddHashed setAddHashedIn
  refine wpAny_holding (wpAny_bind (wpAny_setState_of ho hd hf ?_))
  dsimp only
  rw [byScan_of hsc hb hel]
  simp only [↓reduceIte]
  unfold setAddByScan
  refine wpAny_bind (wpAny_bind (wpAny_rule (wpAny_bind (wpAny_setScan_of hkey ho hd hf hel ?_))))
  cases hfi : List.findIdx? (fun e => (PySem.strKind P w).is k e.2) es.toList with
  | some j =>
    dsimp only
    obtain ⟨hj, pj, _⟩ := List.findIdx?_eq_some_iff_getElem.mp hfi
    have hin : k ∈ xs := (mm k).2 ((mem_str (P := P) g k).2 ⟨es.toList[j], List.getElem_mem hj, pj⟩)
    refine wpAny_pure (wpAny_pure (hQ _ s.heap (Heap.SameBut.refl a s.heap) ⟨o, es, ep, t, ho, hx, hd, g, nd, fun i => ?_, ?_, hf, hr, hl⟩))
    · rw [List.mem_append, List.mem_singleton, ← mm i]
      exact ⟨fun z => z.elim id fun e => by rw [e]; exact hin, .inl⟩
    · rw [List.length_append, List.length_singleton]
      omega
  | none =>
    dsimp only
    have hnk : k ∉ es.toList.map sK := fun z => by
      obtain ⟨e, he, q⟩ := (mem_str (P := P) g k).1 z
      have c := List.findIdx?_eq_none_iff.mp hfi e he
      rw [q] at c
      cases c
    have gw : ∀ (b : Bool) {s1 : Shared} {Q' : Unit → Shared → Prop}, Q' () s1 → wpAny (model P w) A (match b with | true => rule "set.scan.the-table-gave-way" | false => pure ()) Q' E s1 := by
      intro b s1 Q' q
      cases b
      · exact wpAny_pure q
      · exact wpAny_rule q
    have q1 := layNew_perm t es ((PySem.strKind P w).hash k) (.str k tk)
    have q2 := layNew_fits t es ((PySem.strKind P w).hash k) (.str k tk)
    have q3 := layNew_ris t es ((PySem.strKind P w).hash k) (.str k tk) hr
    have q4 := layNew_led t es ((PySem.strKind P w).hash k) (.str k tk)
    generalize layNew t es ((PySem.strKind P w).hash k) (.str k tk) = Z0 at q1 q2 q3 q4 ⊢
    obtain ⟨fs, t1, wd, gv⟩ := Z0
    dsimp only at q1 q2 q3 q4 ⊢
    rw [Array.toList_push] at q1
    have pc : fs.toList.Perm (((PySem.strKind P w).hash k, Value.str k tk) :: es.toList) := q1.trans (List.perm_append_singleton _ _)
    have pk : (fs.toList.map sK).Perm (k :: es.toList.map sK) := pc.map sK
    have gd : ∀ e ∈ fs.toList, StrE w e := fun e he => (List.mem_cons.mp (pc.mem_iff.mp he)).elim (fun z => by rw [z]; exact ⟨k, tk, rfl, rfl⟩) (g e)
    have nd1 : (fs.toList.map sK).Nodup := pk.nodup_iff.mpr (List.nodup_cons.mpr ⟨hnk, nd⟩)
    have m1 : ∀ i, i ∈ xs ++ [k] ↔ i ∈ fs.toList.map sK := fun i => by
      rw [List.mem_append, List.mem_singleton, mm i, pk.mem_iff, List.mem_cons]
      exact Or.comm
    have sz : fs.size ≤ (xs ++ [k]).length := by
      rw [← Array.length_toList, pc.length_eq, List.length_cons, Array.length_toList, List.length_append, List.length_singleton]
      omega
    have hb1 : (xs ++ [k]).length < scanBound := by rw [List.length_append, List.length_singleton]; exact room
    have hled : w.params.followText "set-order" = true ∨ t1.led = true := hl.imp id fun z => by rw [q4]; exact z
    refine wpAny_bind (gw _ ?_)
    split
    · refine wpAny_bind ?_
      rw [hashByValue_scannable 8 hsc]
      refine wpAny_pure (setS_tail ?_ ho hx hd gd nd1 m1 sz hb1 ?_ ?_ ?_ ?_)
      · intro b s1 Q' q
        cases b
        · exact wpAny_pure q
        · exact wpAny_rule q
      · first | exact q2 | (split <;> first | exact q2 | exact SetTable.fits_plain_off q2)
      · first | exact q3 | (split <;> exact q3)
      · first | exact hled | (split <;> exact hled)
      · intro h' sb r
        dsimp only
        exact wpAny_pure (hQ _ h' sb r)
    · refine wpAny_bind (wpAny_pure ?_)
      simp only [↓reduceIte]
      refine setS_tail ?_ ho hx hd gd nd1 m1 sz hb1 q2 q3 hled ?_
      · intro b s1 Q' q
        cases b
        · exact wpAny_pure q
        · exact wpAny_rule q
      · intro h' sb r
        dsimp only
        exact wpAny_pure (hQ _ h' sb r)
/-- the loop of set(..) over a walk of texts -/
theorem setS_loop {I : Addr} {fp wr : List Addr} {G : Array GenState → Array GenState → Prop} {n : Nat} {Pv : Nat → Value → Prop} {St : Nat → Shared → Prop} {R : Result → Shared → Prop} (W : WalksS P w A.in1 I fp wr G n Pv St) (S : Addr) (hSf : S ∉ fp)
    (xs : List Str) (hn : n = xs.length) (hb : xs.length + 1 < scanBound) (hval : ∀ i v, Pv i v → ∃ k t, xs[i]? = some k ∧ v = .str k t) : ∀ (k i : Nat) (s : Shared), n - i = k → i ≤ n → St i s → SetS w s.heap S (xs.take i) →
      (∀ s', Moved (S :: wr) G s s' → SetS w s'.heap S xs → R (.ok (.ret .none)) s') → codeAny (model P w) A (.builtin "set.update.loop" ⟨[.ref S, .ref I], []⟩) R s := by
  have nw : S ∉ wr := fun z => hSf (W.sub _ z)
  have sub : ∀ b ∈ wr, b ∈ S :: wr := fun b => List.mem_cons_of_mem _
  intro k
  induction k with
  | zero =>
    intro i s hk hi st hS hR
    obtain rfl : i = n := by omega
    refine codeAny_builtin PyProof.Rows.F.entry_set_update_loop ?_
    rw [Around.under_plainId PyProof.Rows.F.plain_set_update_loop _]
    show wpAny _ A.in1 (pyNext (.ref I) >>= _) _ _ s
    refine wpAny_bind (W.done s _ _ st fun s1 hm => ?_)
    rw [List.take_of_length_le (Nat.le_of_eq hn.symm)] at hS
    exact wpAny_pure (hR s1 (hm.mono sub) (hS.keep fun o e => hm.heap S o nw e))
  | succ k ih =>
    intro i s hk hi st hS hR
    have hlt : i < n := by omega
    refine codeAny_builtin PyProof.Rows.F.entry_set_update_loop ?_
    rw [Around.under_plainId PyProof.Rows.F.plain_set_update_loop _]
    show wpAny _ A.in1 (pyNext (.ref I) >>= _) _ _ s
    refine wpAny_bind (W.item i s _ _ hlt st fun v s1 hP st1 hm => ?_)
    obtain ⟨z, t, hz, rfl⟩ := hval i v hP
    have hS1 : SetS w s1.heap S (xs.take i) := hS.keep fun o e => hm.heap S o nw e
    show wpAny _ A.in1 (holding [Value.str z t] (setAdd S (.str z t)) >>= _) _ _ s1
    refine wpAny_bind (wpAny_holding ?_)
    unfold setAdd
    refine wpAny_holding (wpAny_bind ((PySem.strKind P w).pyHash (k := z) (PySem.strKind_is _ _ _ _) ?_))
    refine setS_add (s := { s1 with toks := s1.toks + 1 }) hS1 (by rw [List.length_take]; omega) fun b h' sb hS2 => ?_
    have hS3 : SetS w h' S (xs.take (i + 1)) := by
      rw [List.take_add_one, hz]
      exact hS2
    refine wpAny_pure ⟨plainId_quiet PyProof.Rows.F.plain_set_update_loop _, ih (i + 1) _ (by omega) hlt (W.frame _ s1 _ _ st1 (Nat.le_succ _) fun b hb o e => ?_) hS3 fun s2 hm2 hS4 => ?_⟩
    · rw [sb.2 b fun z => hSf (by rw [← z]; exact hb)]
      exact e
    · refine hR s2 (Moved.trans W.gtrans ((hm.mono sub).then_heap (Nat.le_succ _) fun b o hb e => ?_) hm2) hS4
      rw [sb.2 b fun z => hb (by rw [z]; exact List.mem_cons_self)]
      exact e
/-- a new set -/
abbrev set0 (w : World) : Obj := { cls := .type "set", dict := none, data := .set #[] 0 (.fresh 0 0 (!w.params.followText "set-order")) }
theorem setS_new {w : World} {h : Heap} {a : Addr} (ho : h.get? a = some (set0 w)) : SetS w h a [] := by
  refine ⟨_, #[], 0, _, ho, ⟨rfl, rfl, rfl⟩, rfl, ?_, ?_, ?_, Nat.le_refl _, rfl, List.Pairwise.nil, ?_⟩
  · intro e he
    simp at he
  · simp
  · intro k
    simp
  · show _ ∨ (!w.params.followText "set-order") = true
    cases w.params.followText "set-order"
    · exact .inr rfl
    · exact .inl rfl
set_option maxRecDepth 100000 in
set_option maxHeartbeats 6400000 in
/-- set(xs), xs a list of texts -/
theorem call_setS {l : Addr} {items : Array Value} (xs : List Str) {Q : Value → Shared → Prop} (hh : A.handled = none) (hl : s.heap.IsList l items) (hit : PyProof.Rows.StrsAre items.toList xs) (hb : xs.length + 1 < scanBound)
    (hQ : ∀ (h' : Heap) (tk : Nat), SetS w h' s.heap.objs.size xs → (∀ b o, s.heap.get? b = some o → h'.get? b = some o) → Q (.ref s.heap.objs.size) { s with heap := h', toks := tk }) : wpAny (model P w) A (call (.type "set") [.ref l]) Q E s := by
  have hsz : items.size = xs.length := by rw [← Array.length_toList]; exact PyProof.Rows.StrsAre.length hit
  obtain ⟨c, tl, hmro⟩ := PySem.F.called_set.mro
  have hmade := PySem.F.called_set.made
  have hsub := PySem.F.called_set.sub
  refine wpAny_call (codeAny_of_tree ?_)
  show wpAny _ _ (callAny (.type "set") _) _ _ _
  refine wpAny_pure ⟨Code.quiet_builtin _ (by decide +kernel), codeAny_builtin PySem.F.entry_type_call ?_⟩
  rw [Around.under_plain (weight_type_call_type "set" [.ref l] []) rfl]
  have nt := PySem.F.called_set.notType
  have cc := PySem.F.called_set.canCreate
  have tc := PySem.F.typeCall_set_1 (.ref l)
  repeat (any_goals (first | assumption | wp_step))
  refine codeAny_mono (code_set_led1 (.ref l) (E := E) (Q₁ := fun ob s1 => ob = .ref s.heap.objs.size ∧ s1 = { s with heap := s.heap.push (set0 w) }) ⟨rfl, rfl⟩) fun r s1 hr => ?_
  cases r with
  | error e => exact hr
  | ok fl =>
    cases fl with
    | ret ob =>
      obtain ⟨rfl, rfl⟩ := hr
      have at0 : (s.heap.push (set0 w)).get? s.heap.objs.size = some (set0 w) := Heap.get?_push_size _ rfl
      have ty0 : Shared.TypeIs { s with heap := s.heap.push (set0 w) } (.ref s.heap.objs.size) "set" := ⟨_, at0, rfl⟩
      have lk := PySem.F.called_set.init.lookup
      have bd := PySem.F.called_set.init.bind (.ref s.heap.objs.size)
      repeat (any_goals (first | assumption | wp_step))
      refine codeAny_mono (codeAny_call_builtin (R := wants (fun r s2 => r = .none ∧ ∃ h' tk, s2 = { s with heap := h', toks := tk } ∧ SetS w h' s.heap.objs.size xs ∧ ∀ b o, s.heap.get? b = some o → h'.get? b = some o) E)
        PySem.F.called_set.init.plain PySem.F.entry_set_init (check_set_init_1 ty0 ?_)) fun r2 s2 hr2 => ?_
      · obtain ⟨ol, hol, hcl, nl, hdl⟩ := hl
        obtain ⟨oc, od, oda, osl⟩ := ol
        simp only at hcl hdl
        subst hcl; subst hdl
        have hol' : (s.heap.push (set0 w)).get? l = some { cls := .type "list", dict := od, data := .seq items nl, slots := osl } := Heap.get?_push_of_some _ hol
        have s1 := PySem.F.sub_list_set
        have s2 := PySem.F.sub_list_frozenset
        have nd : (Value.type "list" == Value.type "dict") = false := by decide
        have il : (s.heap.push (set0 w)).IsList l items := ⟨_, hol', rfl, nl, rfl⟩
        unfold Builtin.«set.__init__» noKeywords Builtin.Frozenset.updateFrom
        generalize hPI : pyIter = PI
        wp_walk
        subst hPI
        refine wpAny_pyIter_list il ?_
        refine wpAny_bind (wpAny_runValue ?_)
        have lt0 : l < s.heap.objs.size := Heap.lt_size hol
        have h3 : A.in1.in1.in1.handled = none := by simp [hh]
        have z1 : (s.heap.push (set0 w)).objs.size = s.heap.objs.size + 1 := Heap.size_push ..
        have neI : l ≠ (s.heap.push (set0 w)).objs.size := by rw [z1]; exact Nat.ne_of_lt (Nat.lt_succ_of_lt lt0)
        have nS : s.heap.objs.size ∉ [(s.heap.push (set0 w)).objs.size, l] := by
          rw [z1]
          intro z
          have z : s.heap.objs.size = s.heap.objs.size + 1 ∨ s.heap.objs.size = l := by
            rcases List.mem_cons.mp z with z | z
            · exact .inl z
            · exact .inr (List.mem_singleton.mp z)
          rcases z with z | z
          · exact absurd z (Nat.ne_of_lt (Nat.lt_succ_self _))
          · exact absurd z.symm (Nat.ne_of_lt lt0)
        have hval : ∀ (i : Nat) (v : Value), items[i]? = some v → ∃ k t, xs[i]? = some k ∧ v = .str k t := fun i v hv => by
          have hi : i < xs.length := by rw [← hsz]; exact (Array.getElem?_eq_some_iff.mp hv).1
          obtain ⟨t, e⟩ := SS.strs_at hit i v (by rw [Array.getElem?_toList]; exact hv)
          refine ⟨xs[i], t, List.getElem?_eq_getElem hi, ?_⟩
          rw [e, List.getD_eq_getElem?_getD, List.getElem?_eq_getElem hi]
          rfl
        refine setS_loop ((Walks.list h3 _ l neI items).toS) s.heap.objs.size nS xs hsz hb hval (items.size - 0) 0 _ (by omega) (Nat.zero_le _) ⟨⟨_, Heap.get?_push_size _ rfl, rfl, rfl⟩, (il.push _)⟩ ?g0 ?gR
        case g0 =>
          rw [List.take_zero]
          exact setS_new (Heap.get?_push_of_some _ at0)
        case gR =>
          intro s' hm hS'
          obtain ⟨h', g2, d', tk', os'⟩ := s'
          obtain rfl : g2 = s.gens := hm.gens
          obtain rfl : d' = s.drawn := hm.drawn
          obtain rfl : os' = s.os := hm.os
          show wpAny _ _ _ _ _ _
          refine wpAny_pure ?_
          show wpAny _ _ (ret Value.none) _ _ _
          refine wpAny_pure ⟨rfl, h', tk', rfl, hS', fun b o e => ?_⟩
          have b0 : b < s.heap.objs.size := Heap.lt_size e
          refine hm.heap b o (fun z => ?_) (Heap.get?_push_of_some _ (Heap.get?_push_of_some _ e))
          have z : b = s.heap.objs.size ∨ b = (s.heap.push (set0 w)).objs.size := by
            rcases List.mem_cons.mp z with z | z
            · exact .inl z
            · exact .inr (List.mem_singleton.mp z)
          rw [z1] at z
          rcases z with z | z
          · exact absurd z (Nat.ne_of_lt b0)
          · exact absurd z (Nat.ne_of_lt (Nat.lt_succ_of_lt b0))
      · cases r2 with
        | error e => exact hr2
        | ok fl2 =>
          cases fl2 with
          | ret r =>
            obtain ⟨rfl, h', tk, rfl, hS', hk'⟩ := hr2
            repeat (any_goals (first | assumption | wp_step))
            exact hQ _ _ hS' hk'
          | _ => exact hr2.elim
    | _ => exact hr.elim
end
end Z
end

section
namespace Z
open PySem PySem.Spec PyProof.Rows L2

section
variable {t : Tab} {wf : Nat} {N : List Str} {n : Nat} {X : L2.Cx} {sc : Scope} {W : WX} {F : Addr → Prop} {B B' : Nat → Option Addr} {H H' : Hp} {ow : Nat → Option Addr} {ρ : Env} {h h' : LH} {σ : L2.St}

/-! ### and, or, not -/
abbrev tBl (K : PySem.W.Frag) (mg : Str → Option Value) (W : WX) (m : Env → M Bool) : TE := tRd K mg W m fun _ _ _ _ _ _ k v => v = .bl k
inductive PEs (X : L2.Cx) (c : Cx) (W : WX) : Es → List Expr → Prop where
  | nil : PEs X c W .nil []
  | cons {e : E} {es : Es} {a : Expr} {as : List Expr} : notStar a = true → PE X a (tR X.K X.mg c W e) → PEs X c W es as → PEs X c W (.cons e es) (a :: as)
theorem PEs.args {es : Es} {as : List Expr} (p : PEs X (cxt t wf n) W es as) : PA X as (tEs X.K X.mg (cxt t wf n) W es) := by
  induction p with
  | nil => exact a_nil
  | cons h1 h2 _ ih => exact a_cons h1 h2 ih
theorem PEs.wargs {es : Es} {as : List Expr} (p : PEs X (cxt t wf n) W es as) : PA X as (tWs X.K X.mg (cxt t wf n) W es) := by
  induction p with
  | nil => exact w_nil
  | cons h1 h2 _ ih => exact w_cons h1 h2 ih
theorem PEs.stars {es : Es} {as : List Expr} {c : Cx} (p : PEs X c W es as) : ∀ a ∈ as, notStar a = true := by
  induction p with
  | nil => exact fun _ z => nomatch z
  | cons h1 _ _ ih =>
    intro a ha
    rcases List.mem_cons.mp ha with rfl | ha
    · exact h1
    · exact ih a ha
theorem PEs.len {es : Es} {as : List Expr} {c : Cx} (p : PEs X c W es as) (ρ : Env) (h : LH) (Q : List D → LH → Prop) (Y : Str → List (Str × D) → LH → Prop) (q : (denEs c es ρ h).post Q Y) : (denEs c es ρ h).post (fun ds h' => ds.length = as.length ∧ Q ds h') Y := by
  induction p generalizing ρ h Q with
  | nil => unfold denEs at q ⊢; exact ⟨rfl, q⟩
  | cons h1 h2 _ ih =>
    unfold denEs at q ⊢
    refine post_bnd.2 (post_mono (post_bnd.1 q) (fun r h1 q1 => ?_) fun _ _ _ z => z)
    refine post_bnd.2 (post_mono (post_bnd.1 q1) (fun d h2 q2 => ?_) fun _ _ _ z => z)
    refine post_bnd.2 (post_mono (ih ρ h2 _ (post_bnd.1 q2)) (fun ds h3 q3 => ?_) fun _ _ _ z => z)
    exact ⟨by rw [List.length_cons, List.length_cons, q3.1], q3.2⟩
theorem s_and1 : ∀ {es : Es} {as : List Expr}, PEs X (cxt t wf n) W es as → as ≠ [] → ∀ pos, PE X (.BoolOp .And as pos) (tBl X.K X.mg W (denAnd (cxt t wf n) es)) := by
  intro es as p
  induction p with
  | nil => exact fun z => absurd rfl z
  | @cons e es a as h1 h2 p ih =>
    intro _ pos
    cases p with
    | nil =>
      refine peW (pe_one h2) fun σ H Q ⟨F, B, ow, ρ, h, s, q⟩ => ?_
      unfold denAnd at q
      refine tRd_step s q fun rv h1 B1 H1 v x1 s1 r1 p1 => ?_
      cases rv with
      | v d =>
        cases d with
        | bl k =>
          cases (show RD _ _ _ _ _ (D.bl k) v from r1)
          exact p1 B1 H1 _ x1 s1.heap rfl
        | _ => exact p1.elim
      | _ => exact p1.elim
    | @cons e2 es2 a2 as2 g1 g2 p2 =>
      refine peW (pe_and h2 (ih (fun z => nomatch z) pos)) fun σ H Q ⟨F, B, ow, ρ, h, s, q⟩ => ?_
      unfold denAnd at q
      refine tRd_step s q fun rv h1 B1 H1 v x1 s1 r1 p1 => ?_
      cases rv with
      | v d =>
        cases d with
        | bl k =>
          cases (show RD _ _ _ _ _ (D.bl k) v from r1)
          refine ⟨k, rfl, ?_⟩
          have p1 : ((if k then denAnd (cxt t wf n) (.cons e2 es2) ρ else pur false) h1).post _ _ := p1
          cases k with
          | true =>
            rw [if_pos rfl] at p1 ⊢
            exact ⟨F, B1, ow, ρ, h1, s1, post_mono p1 (fun rv h2 q B2 H2 v x2 hr r => q B2 H2 v (x1.seq x2) hr r) fun _ _ _ z => z⟩
          | false =>
            rw [if_neg Bool.false_ne_true] at p1 ⊢
            exact p1 B1 H1 _ x1 s1.heap rfl
        | _ => exact p1.elim
      | _ => exact p1.elim
theorem s_or1 : ∀ {es : Es} {as : List Expr}, PEs X (cxt t wf n) W es as → as ≠ [] → ∀ pos, PE X (.BoolOp .Or as pos) (tBl X.K X.mg W (denOr (cxt t wf n) es)) := by
  intro es as p
  induction p with
  | nil => exact fun z => absurd rfl z
  | @cons e es a as h1 h2 p ih =>
    intro _ pos
    cases p with
    | nil =>
      refine peW (pe_one h2) fun σ H Q ⟨F, B, ow, ρ, h, s, q⟩ => ?_
      unfold denOr at q
      refine tRd_step s q fun rv h1 B1 H1 v x1 s1 r1 p1 => ?_
      cases rv with
      | v d =>
        cases d with
        | bl k =>
          cases (show RD _ _ _ _ _ (D.bl k) v from r1)
          exact p1 B1 H1 _ x1 s1.heap rfl
        | _ => exact p1.elim
      | _ => exact p1.elim
    | @cons e2 es2 a2 as2 g1 g2 p2 =>
      refine peW (pe_or h2 (ih (fun z => nomatch z) pos)) fun σ H Q ⟨F, B, ow, ρ, h, s, q⟩ => ?_
      unfold denOr at q
      refine tRd_step s q fun rv h1 B1 H1 v x1 s1 r1 p1 => ?_
      cases rv with
      | v d =>
        cases d with
        | bl k =>
          cases (show RD _ _ _ _ _ (D.bl k) v from r1)
          refine ⟨k, rfl, ?_⟩
          have p1 : ((if k then pur true else denOr (cxt t wf n) (.cons e2 es2) ρ) h1).post _ _ := p1
          cases k with
          | false =>
            rw [if_neg Bool.false_ne_true] at p1 ⊢
            exact ⟨F, B1, ow, ρ, h1, s1, post_mono p1 (fun rv h2 q B2 H2 v x2 hr r => q B2 H2 v (x1.seq x2) hr r) fun _ _ _ z => z⟩
          | true =>
            rw [if_pos rfl] at p1 ⊢
            exact p1 B1 H1 _ x1 s1.heap rfl
        | _ => exact p1.elim
      | _ => exact p1.elim
theorem s_and {es : Es} {as : List Expr} {pos : Pos} (p : PEs X (cxt t wf n) W es as) : PE X (.BoolOp .And as pos) (tR X.K X.mg (cxt t wf n) W (.and es)) := by
  by_cases z : as = []
  · subst z
    cases p
    exact ⟨fun pins s σ H Q I ⟨F, B, ow, ρ, h, s', q⟩ => by unfold denR denAnd at q; exact q.elim⟩
  · refine peW (s_and1 p z pos) fun σ H Q ⟨F, B, ow, ρ, h, s, q⟩ => ?_
    unfold denR at q
    exact tRd_step s q fun k h1 B1 H1 v x1 s1 r1 p1 => by subst r1; exact p1 B1 H1 _ x1 s1.heap (.bl k)
theorem s_or {es : Es} {as : List Expr} {pos : Pos} (p : PEs X (cxt t wf n) W es as) : PE X (.BoolOp .Or as pos) (tR X.K X.mg (cxt t wf n) W (.or es)) := by
  by_cases z : as = []
  · subst z
    cases p
    exact ⟨fun pins s σ H Q I ⟨F, B, ow, ρ, h, s', q⟩ => by unfold denR denOr at q; exact q.elim⟩
  · refine peW (s_or1 p z pos) fun σ H Q ⟨F, B, ow, ρ, h, s, q⟩ => ?_
    unfold denR at q
    exact tRd_step s q fun k h1 B1 H1 v x1 s1 r1 p1 => by subst r1; exact p1 B1 H1 _ x1 s1.heap (.bl k)

/-! ### tests -/
theorem t_e {e : E} {a : Expr} (hp : plainT a = true) (he : PE X a (tR X.K X.mg (cxt t wf n) W e)) : PT X a (tT X.K X.mg (cxt t wf n) W (.e e)) := by
  refine ptW (pt_val he (plain_he hp)) fun σ H Q ⟨F, B, ow, ρ, h, s, q⟩ => ?_
  unfold denT at q
  refine tRd_step s q fun rv h1 B1 H1 v x1 s1 r1 p1 => ?_
  cases rv with
  | v d =>
    cases d with
    | bl k =>
      cases (show RD _ _ _ _ _ (D.bl k) v from r1)
      exact ⟨k, rfl, p1 B1 H1 x1 s1.heap⟩
    | _ => exact p1.elim
  | _ => exact p1.elim
theorem t_not {c : T} {a : Expr} {pos : Pos} (hc : PT X a (tT X.K X.mg (cxt t wf n) W c)) : PT X (.UnaryOp .Not a pos) (tT X.K X.mg (cxt t wf n) W (.not c)) := by
  refine ptW (pt_not hc) fun σ H Q ⟨F, B, ow, ρ, h, s, q⟩ => ?_
  unfold denT at q
  exact tTd_step s q fun k h1 B1 H1 x1 s1 p1 => p1 B1 H1 x1 s1.heap
inductive PTl (X : L2.Cx) (c : Cx) (W : WX) : Ts → List Expr → Prop where
  | nil : PTl X c W .nil []
  | cons {e : T} {es : Ts} {a : Expr} {as : List Expr} : PT X a (tT X.K X.mg c W e) → PTl X c W es as → PTl X c W (.cons e es) (a :: as)
theorem t_and1 : ∀ {ts : Ts} {as : List Expr}, PTl X (cxt t wf n) W ts as → as ≠ [] → ∀ pos, PW X (.BoolOp .And as pos) (tTs X.K X.mg (cxt t wf n) W ts) := by
  intro es as p
  induction p with
  | nil => exact fun z => absurd rfl z
  | @cons e es a as h1 p ih =>
    intro _ pos
    cases p with
    | nil =>
      refine pwW (pw_and1 h1) fun σ H Q ⟨F, B, ow, ρ, h, s, q⟩ => ?_
      unfold denTs at q
      refine tTd_step s q fun k h1 B1 H1 x1 s1 p1 => ?_
      cases k with
      | true => exact p1 B1 H1 x1 s1.heap
      | false => exact p1 B1 H1 x1 s1.heap
    | @cons e2 es2 a2 as2 g1 p2 =>
      refine pwW (pw_and h1 (ih (fun z => nomatch z) pos)) fun σ H Q ⟨F, B, ow, ρ, h, s, q⟩ => ?_
      unfold denTs at q
      refine tTd_step s q fun k h1 B1 H1 x1 s1 p1 => ?_
      cases k with
      | true =>
        rw [if_pos rfl] at p1 ⊢
        exact ⟨F, B1, ow, ρ, h1, s1, post_mono p1 (fun rv h2 q B2 H2 x2 hr => q B2 H2 (x1.seq x2) hr) fun _ _ _ z => z⟩
      | false =>
        rw [if_neg Bool.false_ne_true] at p1 ⊢
        exact p1 B1 H1 x1 s1.heap
theorem t_or1 : ∀ {ts : Ts} {as : List Expr}, PTl X (cxt t wf n) W ts as → as ≠ [] → ∀ pos, PW X (.BoolOp .Or as pos) (tTo X.K X.mg (cxt t wf n) W ts) := by
  intro es as p
  induction p with
  | nil => exact fun z => absurd rfl z
  | @cons e es a as h1 p ih =>
    intro _ pos
    cases p with
    | nil =>
      refine pwW (pw_or1 h1) fun σ H Q ⟨F, B, ow, ρ, h, s, q⟩ => ?_
      unfold denTo at q
      refine tTd_step s q fun k h1 B1 H1 x1 s1 p1 => ?_
      cases k with
      | true => exact p1 B1 H1 x1 s1.heap
      | false => exact p1 B1 H1 x1 s1.heap
    | @cons e2 es2 a2 as2 g1 p2 =>
      refine pwW (pw_or h1 (ih (fun z => nomatch z) pos)) fun σ H Q ⟨F, B, ow, ρ, h, s, q⟩ => ?_
      unfold denTo at q
      refine tTd_step s q fun k h1 B1 H1 x1 s1 p1 => ?_
      cases k with
      | false =>
        rw [if_neg Bool.false_ne_true] at p1 ⊢
        exact ⟨F, B1, ow, ρ, h1, s1, post_mono p1 (fun rv h2 q B2 H2 x2 hr => q B2 H2 (x1.seq x2) hr) fun _ _ _ z => z⟩
      | true =>
        rw [if_pos rfl] at p1 ⊢
        exact p1 B1 H1 x1 s1.heap
theorem t_and {ts : Ts} {a : Expr} {as : List Expr} {pos : Pos} (p : PTl X (cxt t wf n) W ts (a :: as)) : PT X (.BoolOp .And (a :: as) pos) (tT X.K X.mg (cxt t wf n) W (.and ts)) :=
  ptW (t_and1 p (fun z => nomatch z) pos).pt fun σ H Q ⟨F, B, ow, ρ, h, s, q⟩ => by
    unfold denT at q
    exact ⟨F, B, ow, ρ, h, s, q⟩
theorem t_or {ts : Ts} {a : Expr} {as : List Expr} {pos : Pos} (p : PTl X (cxt t wf n) W ts (a :: as)) : PT X (.BoolOp .Or (a :: as) pos) (tT X.K X.mg (cxt t wf n) W (.or ts)) :=
  ptW (t_or1 p (fun z => nomatch z) pos).pt fun σ H Q ⟨F, B, ow, ρ, h, s, q⟩ => by
    unfold denT at q
    exact ⟨F, B, ow, ρ, h, s, q⟩

/-! ### calls -/
theorem run_fill {fs : List Fn} {gl : Str → Option D} {f : Nat} {fn : Fn} {ds : List D} {h : LH} (e : fs[f]? = some fn) (h1 : ds.length ≤ fn.np) (h2 : fn.np ≤ ds.length + fn.dfl.length) :
    run fs gl wf n f (ds ++ fn.dfl.drop (fn.dfl.length + ds.length - fn.np)) h = run fs gl wf n f ds h := by
  cases n with
  | zero => rfl
  | succ n =>
    unfold run
    rw [e]
    unfold runF
    have hl : (ds ++ fn.dfl.drop (fn.dfl.length + ds.length - fn.np)).length = fn.np := by
      rw [List.length_append, List.length_drop]
      omega
    simp only [hl]
    have e1 : fn.dfl.drop (fn.dfl.length + fn.np - fn.np) = [] := by
      rw [Nat.add_sub_cancel]
      exact List.drop_length
    rw [if_pos ⟨Nat.le_refl _, by omega⟩, if_pos ⟨h1, h2⟩, e1, List.append_nil]
theorem ft_none {F : Addr → Prop} : Ft F (fun _ => none) = F := by
  funext a
  refine propext ⟨fun z => ?_, Or.inl⟩
  rcases z with z | ⟨_, z⟩
  · exact z
  · cases z
theorem RR.callee {K : PySem.W.Frag} {mg : Str → Option Value} {rv : Rv} {v : V} {H0 : Hp} (r : RR K mg (Ft F ow) B (fun _ => none) h H0 H rv v) : RR K mg F B ow h H0 H rv v := by
  cases rv with
  | v d =>
    have r : RD K mg (Ft (Ft F ow) fun _ => none) B H d v := r
    rw [ft_none] at r
    exact r
  | fr xs =>
    obtain ⟨a, vs, e1, e2, e3, e4, e5, _, e7, e8⟩ := r
    rw [ft_none] at e7 e8
    exact ⟨a, vs, e1, e2, e3, e4, fun z => e5 (.inl z), fun i z => e5 (.inr ⟨i, z⟩), e7, e8⟩
  | bw xs =>
    obtain ⟨i, a, vs, _, z, _⟩ := r
    cases z
theorem s_call (ok : XOk t wf N n X sc W) {f : Nat} {fn : Fn} {es : Es} {x : Str} {p pos : Pos} {a : Expr} {as : List Expr} (e : t.fs[f]? = some fn) (hx : fn.name = x) (l1 : as.length + 1 ≤ fn.np) (l2 : fn.np ≤ as.length + 1 + fn.dfl.length)
    (g : glB sc x = true) (o : okN x = true) (pa : PEs X (cxt t wf n) W es (a :: as)) : PE X (.Call (.Name x p) (a :: as) [] pos) (tR X.K X.mg (cxt t wf n) W (.call f es)) := by
  obtain ⟨fa, fd, e1, e2, e3, e4⟩ := (ok.fns f fn e).ex
  obtain ⟨dvs, ds0, b1, b2, b3, b4⟩ := e4 (as.length + 1) l1 l2
  obtain ⟨d1, d2, _⟩ := okN_d o
  subst hx
  refine peW (pe_callSD (E := WE W) e3 ok.room (gl_of ok.hs g) e1 e2 b2 b1 (fun σ => passAt ok.tk σ) pa.args d1 (star_cons (pa.stars a List.mem_cons_self)) (star_plain fun z hz => pa.stars z (List.mem_cons_of_mem _ hz))) fun σ H Q ⟨F, B, ow, ρ, h, s, q⟩ => ?_
  unfold denR at q
  refine ⟨F, B, ow, ρ, h, s, post_mono (pa.len ρ h _ _ (post_bnd.1 q)) (fun ds h1 q1 B1 H1 vs x1 hr1 r1 => ?_) fun _ _ _ z => z⟩
  obtain ⟨hl, q1⟩ := q1
  have s1 := s.ext x1 hr1
  have hl' : ds.length = as.length + 1 := hl
  refine ⟨?_, Ft F ow, B1, h1, ds ++ fn.dfl.drop (fn.dfl.length + (as.length + 1) - fn.np), s1.ft, s1.heap, r1.append (b3 _ _ _), ?_⟩
  · have z := (b3 F B1 H1).length
    rw [List.length_append, ← r1.length, hl', ← z, List.length_drop, b4]
    omega
  · rw [← hl', run_fill e (by omega) (by omega)]
    refine post_mono q1 (fun rv h2 q2 B2 H2 v x2 hr2 r2 => ?_) fun c fs h2 q2 => q2.ext x1
    exact contOf x1 q2 B2 H2 v x2 r2.callee hr2
theorem s_bi (ok : XOk t wf N n X sc W) {b : Bi} {es : Es} {p pos : Pos} {a : Expr} {as : List Expr} (g : glB sc (biN b) = true) (pa : PEs X (cxt t wf n) W es (a :: as)) : PE X (.Call (.Name (biN b : Str) p) (a :: as) [] pos) (tR X.K X.mg (cxt t wf n) W (.bi b es)) := by
  have hv := biBoot b
  have hm := ok.bis b
  have hn : (biN b : Str) ≠ "__name__" ∧ ((biN b : Str) == ("__debug__" : Str)) = false := by cases b <;> exact ⟨by decide +kernel, by decide +kernel⟩
  have main : PE X (.Call (.Name (biN b : Str) p) (a :: as) [] pos) (tCB (rBi X.K b) (tWs X.K X.mg (cxt t wf n) W es)) → PE X (.Call (.Name (biN b : Str) p) (a :: as) [] pos) (tR X.K X.mg (cxt t wf n) W (.bi b es)) := fun hp => by
    refine peW hp fun σ H Q ⟨F, B, ow, ρ, h, s, q⟩ => ?_
    unfold denR at q
    refine tAd_step s q fun ds h1 B1 H1 vs x1 s1 r1 p1 => ?_
    obtain ⟨rv, q1, q2⟩ := post_rd p1
    exact bi_ok s1 r1 q1 (contOf x1 q2)
  have e1 := star_cons (env := X.env) (es := as) (pa.stars a List.mem_cons_self)
  have e2 := star_plain (env := X.env) (pos := pos) fun z hz => pa.stars z (List.mem_cons_of_mem a hz)
  refine main ?_
  have cr := cr_bi X ok.calm ok.room.units b
  cases b <;> first
    | exact pe_callB cr (gl_of ok.hs g) hm hv pa.wargs hn.1 hn.2 e1 e2
    | exact pe_callTy cr (gl_of ok.hs g) hm hv pa.wargs hn.1 hn.2 e1 e2
end
end Z
end

section
namespace Z
open PySem PySem.Spec PyProof.Rows L2
/-! ### sorted(set(xs)) -/
section
variable {P : Program} {w : World} {A : Around} {E : Value → Shared → Prop} {s : Shared} {a : Addr} {xs : List Str}
theorem strs_of : ∀ (l : List Value), (∀ v ∈ l, ∃ x tk, v = Value.str x tk) → PyProof.Rows.StrsAre l (l.map fun v => match v with
    | .str x _ => x
    | _ => Str.empty)
  | [], _ => .nil
  | v :: vs, h => by
    obtain ⟨x, tk, e⟩ := h v List.mem_cons_self
    subst e
    exact .cons x tk (strs_of vs fun u hu => h u (List.mem_cons_of_mem _ hu))
theorem sorted_setS {Q : Value → Shared → Prop} (R : SetS w s.heap a xs) (hh : A.handled = none) (h64 : xs.length < 64)
    (hQ : ∀ s' p (out : Array Value) (c : Nat) (ys : List Str), (∀ b o, s.heap.get? b = some o → s'.heap.get? b = some o) → s'.gens = s.gens → s'.os = s.os → s.heap.objs.size ≤ p → s'.heap.get? p = some (seqObj "list" out c) →
      PyProof.Rows.StrsAre out.toList ys → sortedS ys = true → ys.Nodup → (∀ k, k ∈ ys ↔ k ∈ xs) → ys.length < 64 → Q (.ref p) s') : wpAny (model P w) A (call (.builtin "sorted") [.ref a]) Q E s := by
  obtain ⟨o, es, ep, t, ho, hx, hd, g, nd, mm, hlen, hf, hr, hl⟩ := R
  refine Calls.call_function_entry kind_sorted plain_sorted entry_sorted (args_sorted1 _) ?_
  unfold Builtin.«sorted»
  refine wpAny_bind (m := checkCount "sorted" 1 1 _) (wpAny_pure ?_)
  have room : es.size < scanBound := Nat.lt_of_le_of_lt hlen (Nat.lt_trans h64 (by decide))
  refine wpAny_bind (collect_set (A := A.in1) hh ⟨o, ho, hx.1, hd⟩ hf room hr hl fun s1 vs k1 hz g1 o1 pm => ?_)
  have hvl : vs.length = es.size := by rw [pm.length_eq, List.length_map, Array.length_toList]
  have hS := strs_of vs fun v hv => by
    obtain ⟨e, he, q⟩ := List.mem_map.mp (pm.mem_iff.mp hv)
    obtain ⟨x, tk, e1, _⟩ := g e he
    exact ⟨x, tk, by rw [← q]; exact e1⟩
  have pk : (vs.map fun v => match v with
      | Value.str x _ => x
      | _ => Str.empty).Perm (es.toList.map sK) := by
    have q := pm.map fun v => match v with
      | Value.str x _ => x
      | _ => Str.empty
    rw [List.map_map] at q
    exact q
  generalize (vs.map fun v => match v with
      | Value.str x _ => x
      | _ => Str.empty) = ss at hS pk
  have h64' : vs.length < 64 := by omega
  refine wpAny_bind (wpAny_newList ?_ (by rw [sizeLine_eq]; omega))
  have hoL : (s1.heap.push (seqObj "list" vs.toArray 0)).get? s1.heap.objs.size = some (seqObj "list" vs.toArray 0) := Heap.get?_push_size _ rfl
  refine wpAny_bind (wpAny_holding (wpAny_call_entry slot_list_sort ⟨_, hoL, rfl⟩ entry_list_sort (list_sort_treeK strKind_oneLt hoL hS.keysOf (fun v1 v2 rest e => keyKind_strs (by rw [← e]; exact hS)) h64' fun st' hp hs => ?_) (args_list_sort _)))
  obtain ⟨ys, a1, a2, a3⟩ := sorted_out_str hS hp hs
  obtain ⟨c, hc⟩ := sortedHeap_at (vs := vs) (out := (arrOf st').map (·.2)) hoL
  have pn : ys.Perm (es.toList.map sK) := a2.trans pk
  refine ⟨_, rfl, wpAny_pure ⟨_, rfl, hQ _ s1.heap.objs.size ((arrOf st').map (·.2)) c ys (fun b u e => ?_) g1 o1 hz hc a1 a3 (pn.nodup_iff.mpr nd) (fun k => by rw [pn.mem_iff, ← mm k]) ?_⟩⟩
  · have q := k1 b u e
    have lt0 := Heap.lt_size q
    show (sortedHeap (s1.heap.push (seqObj "list" vs.toArray 0)) s1.heap.objs.size vs ((arrOf st').map (·.2))).get? b = some u
    rw [sortedHeap_old (Nat.ne_of_lt lt0) (by rw [Heap.size_push]; exact Nat.lt_succ_of_lt lt0)]
    exact Heap.get?_push_of_some _ q
  · rw [pn.length_eq, List.length_map, Array.length_toList]
    omega
end
def SetO (w : World) (a : Addr) (xs : List Str) : HO := .ext fun h => SetS w h a xs
def rSetOf (K : PySem.W.Frag) (w : World) : List V → Hp → VK → Prop := fun vs H Q => ∃ (a : Addr) (xs : List Str), vs = [V.ref a] ∧ SqL K H a (xs.map V.str) ∧ xs.length < 64 ∧ ∀ p, H p = none → Q (.ref p) (upd H p (SetO w p xs))
def rSortOf (w : World) : List V → Hp → VK → Prop := fun vs H Q => ∃ (a : Addr) (xs : List Str), vs = [V.ref a] ∧ H a = some (SetO w a xs) ∧ xs.length < 64 ∧
  ∀ (ys : List Str) (p : Addr), sortedS ys = true → ys.Nodup → (∀ k, k ∈ ys ↔ k ∈ xs) → H p = none → Q (.ref p) (upd H p (.lst (ys.map V.str)))
section
variable {X : L2.Cx}
theorem cr_setOf (hc : X.calm = true) : CallR X (.type "set") (rSetOf X.K X.w) := by
  intro pins s σ H vs us Q I r h
  obtain ⟨a, xs, rfl, hs, h64, q⟩ := h
  obtain ⟨its, rv, hl, _⟩ := I.list hs
  rw [Vals.ref1 r]
  refine call_setS xs (I.ok.hd hc) hl.isList rv.strs (Nat.lt_trans (Nat.succ_lt_succ h64) (by decide)) fun h' tk R k => ?_
  have nn : H s.heap.objs.size = none := I.hok.fresh (Nat.le_refl _)
  obtain ⟨o, _, _, _, ho, _⟩ := id R
  exact ⟨.ref s.heap.objs.size, upd H s.heap.objs.size (SetO X.w s.heap.objs.size xs), I.laid (t' := tk) k (Nat.le_refl _) ⟨R, ⟨o, ho⟩, fun _ _ p k => SetS.keep p k⟩, rfl, q _ nn⟩
theorem cr_sortOf (hc : X.calm = true) : CallR X (.builtin "sorted") (rSortOf X.w) := by
  intro pins s σ H vs us Q I r h
  obtain ⟨a, xs, rfl, ha, h64, q⟩ := h
  have R : SetS X.w s.heap a xs := (I.hok a _ ha).1
  rw [Vals.ref1 r]
  refine sorted_setS R (I.ok.hd hc) h64 fun s' p out c ys k g o hp hg hi hs hn hm hl => ?_
  have hlen : (ys.map V.str).length ≤ sizeLine := by rw [List.length_map, sizeLine_eq]; omega
  have nn : H p = none := I.hok.fresh hp
  have J : Inv X pins σ (upd H p (.lst (ys.map V.str))) { s with heap := s'.heap, gens := s'.gens, drawn := s'.drawn, toks := s'.toks } :=
    I.call (ch := []) (Un.laid k hp nn) (I.hok.laid k hp ⟨hlen, out.toList, c, vals_of_strs hi, hg⟩) (by rw [g]; exact I.bare) (fun _ z => nomatch z)
  have e : s' = { s with heap := s'.heap, gens := s'.gens, drawn := s'.drawn, toks := s'.toks } := by
    cases s'
    cases s
    cases o
    rfl
  rw [e]
  exact ⟨.ref p, _, J, rfl, q ys p hs hn hm nn⟩
end
theorem ddS_mem : ∀ {xs : List (List Nat)} {x : List Nat}, x ∈ ddS xs ↔ x ∈ xs
  | [], _ => Iff.rfl
  | y :: r, x => by
    unfold ddS
    split
    · next h =>
      rw [ddS_mem, List.mem_cons]
      exact ⟨.inr, fun z => z.elim (fun e => by rw [e]; exact h) id⟩
    · rw [List.mem_cons, List.mem_cons, ddS_mem]
theorem ddS_nodup : ∀ xs : List (List Nat), (ddS xs).Nodup
  | [] => .nil
  | y :: r => by
    unfold ddS
    split
    · exact ddS_nodup r
    · next h => exact List.nodup_cons.mpr ⟨fun z => h (ddS_mem.mp z), ddS_nodup r⟩
theorem str_injective {a b : List Nat} (h : str a = str b) : a = b := by
  have := congrArg (fun z : Str => z.cps.toList) h
  simpa using this
theorem set_back {ys : List Str} {ss : List (List Nat)} (hs : sortedS ys = true) (hn : ys.Nodup) (hm : ∀ k, k ∈ ys ↔ k ∈ ss.map str) : ys = (sortS (ddS ss)).map str := by
  have hd : ((ddS ss).map str).Nodup := List.Pairwise.map str (fun a b h z => h (str_injective z)) (ddS_nodup ss)
  refine RDs.ofStrs' ((List.perm_ext_iff_of_nodup hn hd).mpr fun k => ?_) hs
  rw [hm, List.mem_map, List.mem_map]
  exact ⟨fun ⟨a, h1, h2⟩ => ⟨a, ddS_mem.mpr h1, h2⟩, fun ⟨a, h1, h2⟩ => ⟨a, ddS_mem.mp h1, h2⟩⟩
theorem ddS_len : ∀ xs : List (List Nat), (ddS xs).length ≤ xs.length
  | [] => Nat.le_refl _
  | y :: r => by
    unfold ddS
    have := ddS_len r
    split
    · rw [List.length_cons]; omega
    · rw [List.length_cons, List.length_cons]; omega
section
variable {t : Tab} {wf : Nat} {N : List Str} {n : Nat} {X : L2.Cx} {sc : Scope} {W : WX}
theorem s_sset (ok : XOk t wf N n X sc W) {a : E} {b : Expr} {p p2 pos pos2 : Pos} (g : glB sc "sorted" = true) (g2 : glB sc "set" = true) (hb : notStar b = true) (ha : PE X b (tR X.K X.mg (cxt t wf n) W a)) :
    PE X (.Call (.Name "sorted" p) [.Call (.Name "set" p2) [b] [] pos2] [] pos) (tR X.K X.mg (cxt t wf n) W (.sset a)) := by
  have hset : PE X (.Call (.Name "set" p2) [b] [] pos2) _ := pe_callTy (cr_setOf ok.calm) (gl_of ok.hs g2) (ok.bis .set) (by decide +kernel) (pa_cons (tW_of ha) pa_nil (star_cons hb)) (by decide +kernel) (by decide +kernel) (star_cons hb) rfl
  refine peW (pe_callB (cr_sortOf ok.calm) (gl_of ok.hs g) (ok.bis .sorted) (by decide +kernel) (pa_cons hset pa_nil) (by decide +kernel) (by decide +kernel) rfl rfl) fun σ H Q ⟨F, B, ow, ρ, h, s, q⟩ => ?_
  unfold denR at q
  refine stepW s (k' := fun d => rd fun h => (lstV h d).bind fun xs => (strsOf xs).bind fun ys => if ys.length < 64 then some (Rv.fr ((sortS (ddS ys)).map .str)) else none) (fun _ => rfl) q fun d h1 B1 H1 v x1 s1 w1 p1 => ?_
  obtain ⟨rv, q1, q2⟩ := post_rd p1
  cases e1 : lstV h1 d with
  | none => rw [e1] at q1; cases q1
  | some xs =>
    rw [e1] at q1
    have q1 : ((strsOf xs).bind fun ys => if ys.length < 64 then some (Rv.fr ((sortS (ddS ys)).map .str)) else none) = some rv := q1
    cases e2 : strsOf xs with
    | none => rw [e2] at q1; cases q1
    | some ys =>
      rw [e2] at q1
      have q1 : (if ys.length < 64 then some (Rv.fr ((sortS (ddS ys)).map .str)) else none) = some rv := q1
      split at q1
      · next hl =>
        cases q1
        obtain ⟨l, vs, rfl, hL, hr⟩ := w1.lstq s1.heap e1
        obtain ⟨evs, hok⟩ := hr.strs e2
        subst evs
        refine ⟨l, ys.map str, rfl, hL, by rw [List.length_map]; exact hl, fun p0 np => ?_⟩
        refine ⟨p0, ys.map str, rfl, upd_same, by rw [List.length_map]; exact hl, fun zs p1 hs hn hm np1 => ?_⟩
        have ez := set_back hs hn hm
        subst ez
        have s2 := s1.ext (Ext.new (o := SetO X.w p0 (ys.map str)) np) (s1.heap.new np)
        have c2 : Cont X.K X.mg F B1 ow h1 (upd H1 p0 (SetO X.w p0 (ys.map str))) (.fr ((sortS (ddS ys)).map .str)) Q := contOf (x1.seq (Ext.new np)) q2
        have := c2.lst s2 (vs := ((sortS (ddS ys)).map str).map V.str) (RDs.ofStrs fun z hz => hok z (ddS_mem.mp ((sortS_perm _).mem_iff.mp hz))) p1 np1
        exact this
      · cases q1
end
end Z
end

section
namespace Z
open PySem PySem.Spec PyProof.Rows L2

section
variable {t : Tab} {wf : Nat} {N : List Str} {n : Nat} {X : L2.Cx} {sc : Scope} {W : WX} {K : PySem.W.Frag} {mg : Str → Option Value} {F : Addr → Prop} {B B' : Nat → Option Addr} {H H' : Hp} {ow : Nat → Option Addr} {ρ : Env} {h h' : LH} {σ : L2.St}

/-! ### isinstance -/
theorem kit_all : ∀ a ∈ ["NoneType", "bool", "int", "str", "tuple", "list"], ∀ c ∈ tyNames, kitB a c = some (isT a c) := by decide +kernel
theorem boot_ty : ∀ c ∈ tyNames, bootBuiltins c = some (.type c) ∧ (c : Str) ≠ "__name__" ∧ ((c : Str) == ("__debug__" : Str)) = false := by decide +kernel
theorem tyN_in {d : D} {a : String} (e : tyN h d = some a) : a ∈ ["NoneType", "bool", "int", "str", "tuple", "list"] := by
  unfold tyN at e
  split at e <;> first
    | (cases e; done)
    | (cases e; decide)
    | (split at e <;> first | (cases e; decide) | cases e)
theorem SqL.ty {a : Addr} {xs : List V} (s : SqL K H a xs) : TyX K H (.ref a) (.type "list") := by
  rcases s with (s | ⟨o, s⟩) | ⟨o, its, n, e, c, _⟩
  · exact .base (.lst s)
  · exact .base (.frz s)
  · exact .kList e c
theorem SqT.ty {a : Addr} {xs : List V} (s : SqT K H a xs) : TyX K H (.ref a) (.type "tuple") := by
  rcases s with (s | ⟨o, s⟩) | ⟨o, its, n, e, c, _⟩
  · exact .base (.tup s)
  · exact .fTuple s
  · exact .kTuple e c
theorem WL.ty {d : D} {v : V} {a : String} (w : WL K mg F B H d v) (hr : HR K mg F B h H) (e : tyN h d = some a) : TyX K H v (.type a) := by
  cases d with
  | non => cases e; rw [w.non]; exact .base .non
  | bl b => cases e; rw [w.bl]; exact .base (.bl b)
  | int i => cases e; rw [w.int]; exact .base (.int i)
  | str s => cases e; rw [w.str.1]; exact .base (.str _)
  | tup xs =>
    cases e
    obtain ⟨p, vs, rfl, h1, _⟩ := w.tup
    exact SqT.ty h1
  | lst xs =>
    cases e
    obtain ⟨p, vs, rfl, h1, _⟩ := w.lst
    exact SqL.ty (SqL.of h1)
  | scr ns =>
    cases e
    obtain ⟨p, vs, rfl, h1, _⟩ := w.lstq hr (xs := ns.map .int) rfl
    exact SqL.ty h1
  | ref r =>
    unfold tyN at e
    simp only at e
    split at e
    · next xs q =>
      cases e
      obtain ⟨p, vs, rfl, h1, _⟩ := w.lstq hr (xs := xs) (by unfold lstV; simp only [q])
      exact SqL.ty h1
    · cases e
  | _ => cases e
theorem kitAny_all {a : String} (ha : a ∈ ["NoneType", "bool", "int", "str", "tuple", "list"]) : ∀ cs : List String, (∀ c ∈ cs, c ∈ tyNames) → PySem.W.kitAny K (.type a) (cs.map Value.type) = some (cs.any fun c => isT a c)
  | [], _ => kitAny_nil
  | c :: cs, hc => by
    have h1 := kit_all a ha c (hc c List.mem_cons_self)
    rw [List.any_cons]
    exact kitAny_cons (kit_ty h1) (fun e => by rw [e, Bool.false_or]; exact kitAny_all ha cs fun z hz => hc z (List.mem_cons_of_mem _ hz)) fun e => by rw [e, Bool.true_or]
theorem pairedCls : ∀ cs : List String, Paired ClsV (cs.map V.ty) (cs.map Value.type)
  | [] => .nil
  | c :: cs => .cons (.ty c) (pairedCls cs)
theorem bix_ty (ok : XOk t wf N n X sc W) {c : String} (hc : c ∈ tyNames) : X.mg (c : Str) = none := by
  have q := ok.bix
  have : c = "bool" ∨ c = "int" ∨ c = "str" ∨ c = "list" ∨ c = "tuple" ∨ c = "dict" := by simpa [tyNames] using hc
  rcases this with rfl | rfl | rfl | rfl | rfl | rfl
  · exact q _ (by simp)
  · exact ok.bis .int
  · exact ok.bis .str
  · exact ok.bis .list
  · exact ok.bis .tuple
  · exact q _ (by simp)
theorem s_ty (ok : XOk t wf N n X sc W) {c : String} {p : Pos} (hc : c ∈ tyNames) (g : glB sc (c : Str) = true) : PE X (.Name (c : Str) p) (tC (.ty c)) := by
  obtain ⟨h1, h2, h3⟩ := boot_ty c hc
  exact pe_bltn (gl_of ok.hs g) (bix_ty ok hc) h1 rfl h2 h3
theorem a_tys (ok : XOk t wf N n X sc W) : ∀ {zs : List Expr} {cs : List String}, tyOfN zs cs = true → glAll sc cs = true → (∀ c ∈ cs, c ∈ tyNames) → PA X zs (fun _ H Q => Q (cs.map V.ty) H)
  | [], [], _, _, _ => pa_nil
  | .Name x p :: zs, c :: cs, h1, h2, h3 => by
    unfold tyOfN at h1
    unfold glAll at h2
    have h1' := (and2 h1).2
    have e := of_decide_eq_true (and2 h1).1
    clear h1
    obtain ⟨g1, h2⟩ := and2 h2
    subst e
    exact paW (pa_cons (s_ty ok (h3 c List.mem_cons_self) g1) (a_tys ok h1' h2 fun z hz => h3 z (List.mem_cons_of_mem _ hz)) (star_cons rfl)) fun σ H Q q => q
  | [], _ :: _, h1, _, _ => by cases h1
  | z :: _, [], h1, _, _ => by cases z <;> cases h1
theorem mgI (ok : XOk t wf N n X sc W) : X.mg "isinstance" = none := ok.bix _ (by simp)
theorem isi_one {a : D} {cs : List String} {k : Bool} (e : isiD h a cs = some k) : ∃ tn, tyN h a = some tn ∧ k = cs.any fun c => isT tn c := by
  unfold isiD at e
  cases q : tyN h a with
  | none => rw [q] at e; cases e
  | some tn => rw [q] at e; exact ⟨tn, rfl, (Option.some.inj e).symm⟩
theorem s_isi1 (ok : XOk t wf N n X sc W) {a : E} {c : String} {y : Expr} {p p2 pos : Pos} (g : glB sc "isinstance" = true) (g2 : glB sc (c : Str) = true) (hc : c ∈ tyNames) (hy : notStar y = true) (ha : PE X y (tR X.K X.mg (cxt t wf n) W a)) :
    PE X (.Call (.Name "isinstance" p) [y, .Name (c : Str) p2] [] pos) (tR X.K X.mg (cxt t wf n) W (.isi a [c])) := by
  refine peW (pe_callB call_isi (gl_of ok.hs g) (mgI ok) PyProof.Rows.boot_isinstance (pa_cons (tW_of ha) (pa_cons (s_ty ok hc g2) pa_nil (star_cons rfl)) (star_cons hy)) (by decide +kernel) (by decide +kernel) (star_cons hy) (star_plain fun z hz => by
    have : z = .Name (c : Str) p2 := by simpa using hz
    subst this; rfl)) fun σ H Q ⟨F, B, ow, ρ, h, s, q⟩ => ?_
  unfold denR at q
  refine stepW s (k' := fun x => rd fun h => (isiD h x [c]).map fun k => Rv.v (D.bl k)) (fun _ => rfl) q fun d h1 B1 H1 v x1 s1 w1 p1 => ?_
  obtain ⟨rv, q1, q2⟩ := post_rd p1
  cases q3 : isiD h1 d [c] with
  | none => rw [q3] at q1; cases q1
  | some k =>
    rw [q3] at q1
    cases (show some (Rv.v (D.bl k)) = some rv from q1)
    obtain ⟨tn, e1, rfl⟩ := isi_one q3
    refine ⟨v, .ty c, .type tn, .type c, _, rfl, .ty c, w1.ty s1.heap e1, kit_ty (kit_all tn (tyN_in e1) c hc), ?_⟩
    have := q2 B1 H1 _ x1 s1.heap (.bl _)
    simpa using this
theorem s_isiT (ok : XOk t wf N n X sc W) {a : E} {cs : List String} {y : Expr} {zs : List Expr} {k : Nat} {p p2 pos : Pos} (g : glB sc "isinstance" = true) (h1 : tyOfN zs cs = true) (h2 : glAll sc cs = true) (hc : ∀ c ∈ cs, c ∈ tyNames) (hl : cs.length ≤ 10) (hy : notStar y = true) (ha : PE X y (tR X.K X.mg (cxt t wf n) W a)) :
    PE X (.Call (.Name "isinstance" p) [y, .Tuple zs k p2] [] pos) (tR X.K X.mg (cxt t wf n) W (.isi a cs)) := by
  refine peW (pe_callB call_isiT (gl_of ok.hs g) (mgI ok) PyProof.Rows.boot_isinstance (pa_cons (tW_of ha) (pa_cons (pe_tup (a_tys ok h1 h2 hc)) pa_nil (star_cons rfl)) (star_cons hy)) (by decide +kernel) (by decide +kernel) (star_cons hy) (star_plain fun z hz => by
    have : z = .Tuple zs k p2 := by simpa using hz
    subst this; rfl)) fun σ H Q ⟨F, B, ow, ρ, h, s, q⟩ => ?_
  unfold denR at q
  refine stepW s (k' := fun x => rd fun h => (isiD h x cs).map fun k => Rv.v (D.bl k)) (fun _ => rfl) q fun d h1 B1 H1 v x1 s1 w1 p1 => ?_
  obtain ⟨rv, q1, q2⟩ := post_rd p1
  cases q3 : isiD h1 d cs with
  | none => rw [q3] at q1; cases q1
  | some k =>
    rw [q3] at q1
    cases (show some (Rv.v (D.bl k)) = some rv from q1)
    obtain ⟨tn, e1, rfl⟩ := isi_one q3
    refine ⟨by rw [List.length_map, ← szL_eq]; exact Nat.le_trans hl (by decide), fun r nr => ?_⟩
    have x2 : Ext E0 B1 B1 H1 (upd H1 r (.tup (cs.map V.ty))) := Ext.new nr
    have s2 := s1.ext x2 (s1.heap.new nr)
    exact ⟨v, r, cs.map V.ty, .type tn, cs.map Value.type, _, rfl, upd_same, pairedCls cs, (w1.extS s1 x2).ty s2.heap e1, kitAny_all (tyN_in e1) cs hc, q2 B1 _ _ (x1.seq x2) s2.heap (.bl _)⟩

/-! ### join -/
theorem abase {o : Expr} {nm : Str} {env : PySem.Env} {wh : Sem Value} (h : notCall o = true) : attributeBase o nm env wh = wh := by
  cases o <;> first | rfl | cases h
/-- the first part read as it is -/
theorem stepW' {β : Type} {e : E} {k : Rv → M β} {Q : β → LH → Prop} {R : VK} (s : SR K mg F B ow ρ h σ H)
    (p : (bnd (denR (cxt t wf n) e ρ) k h).post Q (EX K mg (Ft F ow) B H fun C d H' => W C d σ H'))
    (go : ∀ d h1 B1 H1 v, Ext E0 B B1 H H1 → SR K mg F B1 ow ρ h1 σ H1 → RR K mg F B1 ow h1 H H1 d v → (k d h1).post Q (EX K mg (Ft F ow) B1 H1 fun C d H' => W C d σ H') → R v H1) : tR K mg (cxt t wf n) W e σ H R := tRd_step s p go
theorem s_join {a e : E} {o y : Expr} {apos pos : Pos} (ho : notCall o = true) (hl : (apos.endLine == pos.line) = true) (hy : notStar y = true) (ha : PE X o (tR X.K X.mg (cxt t wf n) W a)) (he : PE X y (tR X.K X.mg (cxt t wf n) W e)) :
    PE X (.Call (.Attribute o "join" apos) [y] [] pos) (tR X.K X.mg (cxt t wf n) W (.mth .join a (.cons e .nil))) := by
  refine peW (pe_join ha (tW_of he) (star_cons hy) (abase ho) hl) fun σ H Q ⟨F, B, ow, ρ, h, s, q⟩ => ?_
  unfold denR at q
  refine stepW' s q fun rv h1 B1 H1 v x1 s1 r1 p1 => ?_
  cases rv with
  | v d =>
    cases d with
    | str z =>
      have p1 : ((bnd (denWs (cxt t wf n) (.cons e .nil) ρ) fun ds => rd fun h => mtD h .join z ds) h1).post _ _ := p1
      obtain ⟨rfl, oz⟩ := WL.str (.inl r1)
      refine ⟨⟨_, rfl⟩, ?_⟩
      unfold denWs denWs at p1
      rw [bnd_assoc] at p1
      refine stepW s1 (k' := fun u => rd fun h => mtD h .join z [u]) (fun r => rfl) p1 fun u h2 B2 H2 v2 x2 s2 w2 p2 => ?_
      obtain ⟨rv, q1, q2⟩ := post_rd p2
      have q1 : ((seqV h2 u).bind fun xs => (strsOf xs).bind fun ys => if sumLen ys + ys.length * z.length ≤ szL then some (Rv.v (D.str (joinS z ys))) else none) = some rv := q1
      cases q3 : seqV h2 u with
      | none => rw [q3] at q1; cases q1
      | some xs =>
        rw [q3] at q1
        have q1 : ((strsOf xs).bind fun ys => if sumLen ys + ys.length * z.length ≤ szL then some (Rv.v (D.str (joinS z ys))) else none) = some rv := q1
        cases q4 : strsOf xs with
        | none => rw [q4] at q1; cases q1
        | some ys =>
          rw [q4] at q1
          have q1 : (if sumLen ys + ys.length * z.length ≤ szL then some (Rv.v (D.str (joinS z ys))) else none) = some rv := q1
          split at q1
          · next hl =>
            cases q1
            obtain ⟨p, vs, rfl, g1, g2⟩ := w2.seq s2.heap q3
            obtain ⟨e1, e2⟩ := g2.strs q4
            subst e1
            refine ⟨_, p, ys.map str, rfl, rfl, g1, ?_, ?_⟩
            · rw [sumLen_eq, List.length_map, str_len]; exact hl
            · rw [show Txt.join (str z) (ys.map str) = str (joinS z ys) from (PySem.StrLaws.glued_eq_join _ _).trans (joinS_eq z ys)]
              exact q2 B2 H2 _ (x1.seq x2) s2.heap (.str _ (joinS_ok oz e2))
          · cases q1
    | _ => exact p1.elim
  | _ => exact p1.elim
end
end Z
end

section
namespace Z
open PySem PySem.Spec PyProof.Rows L2

section
variable {t : Tab} {wf : Nat} {N : List Str} {n : Nat} {X : L2.Cx} {sc : Scope} {W : WX} {K : PySem.W.Frag} {mg : Str → Option Value} {F : Addr → Prop} {B B' : Nat → Option Addr} {H H' : Hp} {ow : Nat → Option Addr} {ρ ρ' : Env} {h h' : LH} {σ σ' : L2.St}

/-! ### targets -/
theorem SR.setVal (s : SR K mg F B ow ρ h σ H) (i : Nat) {d : D} {v : V} (r : RD K mg (Ft F ow) B H d v) : SR K mg F B ow (ρ.set i (.val d)) h (σ.set i (some v)) H where
  len := by rw [List.length_set, List.length_set]; exact s.len
  val := fun j e q => by
    by_cases hj : i = j
    · subst hj
      by_cases hl : i < ρ.length
      · rw [List.getElem?_set_self hl] at q
        cases q
        exact ⟨v, List.getElem?_set_self (by rw [← s.len]; exact hl), r⟩
      · rw [List.getElem?_eq_none (by rw [List.length_set]; omega)] at q
        cases q
    · rw [List.getElem?_set_ne hj] at q
      obtain ⟨w, e1, e2⟩ := s.val j e q
      exact ⟨w, by rw [List.getElem?_set_ne hj]; exact e1, e2⟩
  own := fun j xs q => by
    by_cases hj : i = j
    · subst hj
      by_cases hl : i < ρ.length
      · rw [List.getElem?_set_self hl] at q
        cases q
      · rw [List.getElem?_eq_none (by rw [List.length_set]; omega)] at q
        cases q
    · rw [List.getElem?_set_ne hj] at q
      obtain ⟨a, vs, e1, e2, e3⟩ := s.own j xs q
      exact ⟨a, vs, e1, by rw [List.getElem?_set_ne hj]; exact e2, e3⟩
  ft := s.ft
  inj := s.inj
  sep := s.sep
  ol := s.ol
  heap := s.heap
theorem SR.setEmp (s : SR K mg F B ow ρ h σ H) (i : Nat) (o : Option V) : SR K mg F B ow (ρ.set i .emp) h (σ.set i o) H where
  len := by rw [List.length_set, List.length_set]; exact s.len
  val := fun j e q => by
    by_cases hj : i = j
    · subst hj
      by_cases hl : i < ρ.length
      · rw [List.getElem?_set_self hl] at q
        cases q
      · rw [List.getElem?_eq_none (by rw [List.length_set]; omega)] at q
        cases q
    · rw [List.getElem?_set_ne hj] at q
      obtain ⟨w, e1, e2⟩ := s.val j e q
      exact ⟨w, by rw [List.getElem?_set_ne hj]; exact e1, e2⟩
  own := fun j xs q => by
    by_cases hj : i = j
    · subst hj
      by_cases hl : i < ρ.length
      · rw [List.getElem?_set_self hl] at q
        cases q
      · rw [List.getElem?_eq_none (by rw [List.length_set]; omega)] at q
        cases q
    · rw [List.getElem?_set_ne hj] at q
      obtain ⟨a, vs, e1, e2, e3⟩ := s.own j xs q
      exact ⟨a, vs, e1, by rw [List.getElem?_set_ne hj]; exact e2, e3⟩
  ft := s.ft
  inj := s.inj
  sep := s.sep
  ol := s.ol
  heap := s.heap
theorem SR.wipe (s : SR K mg F B ow ρ h σ H) : ∀ ws, SR K mg F B ow (Z.wipe ρ ws) h (L2.wipe σ ws) H
  | [] => s
  | i :: r => (SR.wipe s r).setEmp i none
mutual
def gT (K : PySem.W.Frag) : Tg → TG
  | .nm i => gName i
  | .tp l => gTup K l.len (gTs K l)
  | .lp l => gLst K l.len (gTs K l)
def gTs (K : PySem.W.Frag) : Tgs → TGs
  | .nil => gNil
  | .cons t l => gCons (gT K t) (gTs K l)
end
theorem asg_facts {env : PySem.Env} : ∀ {l : Tgs} {es : List Expr} {ws : Option (List Nat)}, ckTgs N sc ws l es = true → (assignEach es env).length = l.len ∧ (assignEach es env).findIdx? (·.1) = none ∧ es.length = l.len
  | .nil, [], _, _ => ⟨rfl, rfl, rfl⟩
  | .cons t l, e :: es, ws, h => by
    unfold ckTgs at h
    obtain ⟨h1, h2⟩ := and2 h
    obtain ⟨e1, e2, e3⟩ := asg_facts (env := env) h2
    have hs : assignEach (e :: es) env = (false, assign e env) :: assignEach es env := by
      cases t <;> cases e <;> first | rfl | (unfold ckTg at h1; cases h1)
    rw [hs]
    refine ⟨by rw [List.length_cons, e1]; rfl, ?_, by rw [List.length_cons, e3]; rfl⟩
    rw [List.findIdx?_cons]
    simp only [Bool.false_eq_true, if_false, e2, Option.map_none]
  | .nil, _ :: _, _, h => by unfold ckTgs at h; cases h
  | .cons _ _, [], _, h => by unfold ckTgs at h; cases h
/-- what storing wants of the place -/
def Stores (X : L2.Cx) (sc : Scope) (ws : Option (List Nat)) : Prop := ∀ x, locB sc x = true → Loc X.env.scope x ∧ (X.fn x = true ∨ X.env.scope.names.lookup x = some .local)
mutual
theorem pg_T (hN : X.N = N) (nd : N.Nodup) (hc : X.calm = true) {ws : Option (List Nat)} (st : Stores X sc ws) : ∀ (g : Tg) (e : Expr), ckTg N sc ws g e = true → PG X e (gT X.K g) := by
  intro g e h
  cases g with
  | nm i =>
    cases e with
    | Name x p =>
      unfold ckTg at h
      obtain ⟨h1, _⟩ := and2 h
      obtain ⟨h1, h2⟩ := and2 h1
      obtain ⟨l1, l2⟩ := st x h2
      exact pg_name (by rw [hN]; exact nd) (by rw [hN]; exact of_decide_eq_true h1) l1 l2
    | _ => unfold ckTg at h; cases h
  | tp l =>
    cases e with
    | Tuple es k p =>
      unfold ckTg at h
      obtain ⟨e1, e2, _⟩ := asg_facts (env := X.env) h
      exact pg_tup hc (pgs_T hN nd hc st l es h) e1 e2
    | _ => unfold ckTg at h; cases h
  | lp l =>
    cases e with
    | Tuple es k p =>
      unfold ckTg at h
      obtain ⟨e1, e2, _⟩ := asg_facts (env := X.env) h
      exact pg_lst hc (pgs_T hN nd hc st l es h) e1 e2
    | _ => unfold ckTg at h; cases h
theorem pgs_T (hN : X.N = N) (nd : N.Nodup) (hc : X.calm = true) {ws : Option (List Nat)} (st : Stores X sc ws) : ∀ (l : Tgs) (es : List Expr), ckTgs N sc ws l es = true → PGs X es (gTs X.K l) := by
  intro l es h
  cases l with
  | nil =>
    cases es with
    | nil => exact pgs_nil
    | cons _ _ => unfold ckTgs at h; cases h
  | cons g l =>
    cases es with
    | nil => unfold ckTgs at h; cases h
    | cons e es =>
      unfold ckTgs at h
      obtain ⟨h1, h2⟩ := and2 h
      refine pgs_cons (pg_T hN nd hc st g e h1) (pgs_T hN nd hc st l es h2) ?_
      cases g <;> cases e <;> first | rfl | (unfold ckTg at h1; cases h1)
end
mutual
def tgIn (p : Nat → Prop) : Tg → Prop
  | .nm i => p i
  | .tp l => tgsIn p l
  | .lp l => tgsIn p l
def tgsIn (p : Nat → Prop) : Tgs → Prop
  | .nil => True
  | .cons t l => tgIn p t ∧ tgsIn p l
end
mutual
theorem tgIn_all : ∀ g : Tg, tgIn (fun _ => True) g
  | .nm _ => by unfold tgIn; trivial
  | .tp l => by unfold tgIn; exact tgsIn_all l
  | .lp l => by unfold tgIn; exact tgsIn_all l
theorem tgsIn_all : ∀ l : Tgs, tgsIn (fun _ => True) l
  | .nil => by unfold tgsIn; trivial
  | .cons t l => by unfold tgsIn; exact ⟨tgIn_all t, tgsIn_all l⟩
end
mutual
theorem tgIn_ck {ws : List Nat} : ∀ (g : Tg) (e : Expr), ckTg N sc (some ws) g e = true → tgIn (· ∈ ws) g := by
  intro g e h
  cases g with
  | nm i =>
    cases e with
    | Name x p =>
      unfold ckTg at h
      unfold tgIn
      simpa using (and2 h).2
    | _ => unfold ckTg at h; cases h
  | tp l =>
    cases e with
    | Tuple es k p => unfold ckTg at h; unfold tgIn; exact tgsIn_ck l es h
    | _ => unfold ckTg at h; cases h
  | lp l =>
    cases e with
    | Tuple es k p => unfold ckTg at h; unfold tgIn; exact tgsIn_ck l es h
    | _ => unfold ckTg at h; cases h
theorem tgsIn_ck {ws : List Nat} : ∀ (l : Tgs) (es : List Expr), ckTgs N sc (some ws) l es = true → tgsIn (· ∈ ws) l := by
  intro l es h
  cases l with
  | nil => unfold tgsIn; trivial
  | cons g l =>
    cases es with
    | nil => unfold ckTgs at h; cases h
    | cons e es =>
      unfold ckTgs at h
      unfold tgsIn
      exact ⟨tgIn_ck g e (and2 h).1, tgsIn_ck l es (and2 h).2⟩
end
theorem bindTgs_len : ∀ (l : Tgs) (ds : List D) (ρ ρ' : Env), bindTgs l ds ρ = some ρ' → ds.length = l.len
  | .nil, ds, ρ, ρ', e => by
    unfold bindTgs at e
    cases ds with
    | nil => rfl
    | cons _ _ => cases e
  | .cons g l, ds, ρ, ρ', e => by
    unfold bindTgs at e
    cases ds with
    | nil => cases e
    | cons d r =>
      simp only at e
      split at e
      · next ρ1 e1 =>
        rw [List.length_cons, bindTgs_len l r ρ1 ρ' e]
        rfl
      · cases e
mutual
theorem gT_ok {Q : L2.St → Hp → Prop} {p : Nat → Prop} {P : L2.St → Prop} (hP : ∀ i σ v, p i → P σ → P (σ.set i (some v))) : ∀ (g : Tg) {d : D} {v : V} {ρ ρ' : Env} {σ : L2.St}, tgIn p g → P σ → SR K mg F B ow ρ h σ H → RD K mg (Ft F ow) B H d v → bindTg g d ρ = some ρ' →
    (∀ σ', P σ' → SR K mg F B ow ρ' h σ' H → Q σ' H) → gT K g v σ H Q := by
  intro g d v ρ ρ' σ gi pσ s r e q
  cases g with
  | nm i =>
    unfold bindTg at e
    unfold tgIn at gi
    cases e
    exact q _ (hP i σ v gi pσ) (s.setVal i r)
  | tp l =>
    unfold bindTg at e
    unfold tgIn at gi
    cases r with
    | tup h1 h2 => exact ⟨_, _, rfl, h1, by rw [← h2.length]; exact bindTgs_len l _ _ _ e, gTs_ok hP l gi pσ s h2 e q⟩
    | _ => cases e
  | lp l =>
    unfold bindTg at e
    unfold tgIn at gi
    cases r with
    | lst h1 f nr h2 => exact ⟨_, _, rfl, SqL.of h1, by rw [← h2.length]; exact bindTgs_len l _ _ _ e, gTs_ok hP l gi pσ s h2 e q⟩
    | _ => cases e
theorem gTs_ok {Q : L2.St → Hp → Prop} {p : Nat → Prop} {P : L2.St → Prop} (hP : ∀ i σ v, p i → P σ → P (σ.set i (some v))) : ∀ (l : Tgs) {ds : List D} {vs : List V} {ρ ρ' : Env} {σ : L2.St}, tgsIn p l → P σ → SR K mg F B ow ρ h σ H → RDs K mg (Ft F ow) B H ds vs → bindTgs l ds ρ = some ρ' →
    (∀ σ', P σ' → SR K mg F B ow ρ' h σ' H → Q σ' H) → gTs K l vs σ H Q := by
  intro l ds vs ρ ρ' σ gi pσ s r e q
  cases l with
  | nil =>
    unfold bindTgs at e
    cases r with
    | nil =>
      cases e
      exact ⟨rfl, q σ pσ s⟩
    | cons _ _ => cases e
  | cons g l =>
    unfold bindTgs at e
    unfold tgsIn at gi
    cases r with
    | nil => cases e
    | cons r1 r2 =>
      simp only at e
      split at e
      · next ρ1 e1 => exact ⟨_, _, rfl, gT_ok hP g gi.1 pσ s r1 e1 fun σ1 p1 s1 => gTs_ok hP l gi.2 p1 s1 r2 e q⟩
      · cases e
end
/-! the slots that a target stores are wiped ones -/
theorem wipe_set {i : Nat} {o : Option V} : ∀ {ws : List Nat} {σ : L2.St}, i ∈ ws → L2.wipe (σ.set i o) ws = L2.wipe σ ws
  | [], _, h => by cases h
  | w :: ws, σ, h => by
    show (L2.wipe (σ.set i o) ws).set w none = (L2.wipe σ ws).set w none
    by_cases hw : i ∈ ws
    · rw [wipe_set hw]
    · have e : i = w := by
        rcases List.mem_cons.mp h with z | z
        · exact z
        · exact absurd z hw
      subst e
      have go : ∀ (ws : List Nat) (σ : L2.St), i ∉ ws → L2.wipe (σ.set i o) ws = (L2.wipe σ ws).set i o := by
        intro ws
        induction ws with
        | nil => intro σ _; rfl
        | cons u us ih =>
          intro σ hn
          show (L2.wipe (σ.set i o) us).set u none = ((L2.wipe σ us).set u none).set i o
          rw [ih σ fun z => hn (List.mem_cons_of_mem _ z)]
          exact List.set_comm _ _ fun z => hn (by rw [z]; exact List.mem_cons_self)
      rw [go ws σ hw, List.set_set]
theorem wipe_wipe : ∀ (ws vs : List Nat) (σ : L2.St), (∀ v ∈ vs, v ∈ ws) → L2.wipe (L2.wipe σ vs) ws = L2.wipe σ ws
  | _, [], _, _ => rfl
  | ws, v :: vs, σ, h => by
    show L2.wipe ((L2.wipe σ vs).set v none) ws = _
    rw [wipe_set (h v List.mem_cons_self)]
    exact wipe_wipe ws vs σ fun z hz => h z (List.mem_cons_of_mem _ hz)
end
end Z
end

section
namespace Z
open PySem PySem.Spec PyProof.Rows L2

section
variable {t : Tab} {wf : Nat} {N : List Str} {n : Nat} {X : L2.Cx} {sc : Scope} {W : WX} {K : PySem.W.Frag} {mg : Str → Option Value} {F : Addr → Prop} {B B' : Nat → Option Addr} {H H' : Hp} {ow : Nat → Option Addr} {ρ ρ' : Env} {h h' : LH} {σ σ' : L2.St}

/-! ### what is walked -/
/-- a thing by its value: a list, a tuple, a text -/
def iAny (K : PySem.W.Frag) (te : TE) : TI := fun σ H R => te σ H fun v H1 => (∃ a xs, v = .ref a ∧ SqL K H1 a xs ∧ R (Itl K a) H1) ∨ (∃ a xs, v = .ref a ∧ SqT K H1 a xs ∧ R (Itt K a) H1) ∨ ∃ z, v = .str z ∧ R (Its z) H1
theorem pi_any {g e : Expr} {te : TE} (he : PE X e te) : PI X g e (iAny X.K te) := by
  constructor
  intro pins s σ H R I hw
  refine thn (he.run pins s σ H _ I hw) ?_
  rintro v s1 ⟨x, H1, I1, r1, q⟩
  rcases q with ⟨a, xs, rfl, q1, q2⟩ | ⟨a, xs, rfl, q1, q2⟩ | ⟨z, rfl, q2⟩
  · cases r1
    obtain ⟨its, _, pl, _⟩ := I1.list q1
    exact wpAny_pyIter_list pl.isList (pi_one (tk := s1.toks) I1 _ (turn_list a _) ⟨_, Heap.get?_push_size _ rfl, rfl, rfl⟩ q2)
  · cases r1
    obtain ⟨its, _, pl, _⟩ := I1.tuple q1
    exact wpAny_pyIter_tuple (items := its.toArray) pl (pi_one (tk := s1.toks) I1 _ (turn_tuple a _) ⟨_, Heap.get?_push_size _ rfl, rfl, rfl⟩ q2)
  · obtain ⟨tk, rfl⟩ := r1
    cases ha : z.cps.all (· < 128) with
    | false => exact wpAny_pyIter_wide ha (pi_one (tk := s1.toks) I1 _ (turn_str _ z tk "str_iterator" (.inr rfl)) ⟨_, Heap.get?_push_size _ rfl, rfl, rfl⟩ q2)
    | true => exact wpAny_pyIter_ascii ha (pi_one (tk := s1.toks) I1 _ (turn_str _ z tk "str_ascii_iterator" (.inl rfl)) ⟨_, Heap.get?_push_size _ rfl, rfl, rfl⟩ q2)
/-! each walks its items -/
theorem RD.later {P F1 : Addr → Prop} {B1 : Nat → Option Addr} {H1 : Hp} {d : D} {v : V} (r : RD K mg F B H d v) (x : Ext P B B1 H H1) (nb : Cells B H) (o : Owns F P H) (w : ∀ a, F1 a → H a ≠ none → F a) : RD K mg F1 B1 H1 d v :=
  ((r.weak (F' := fun b => F b ∨ F1 b) fun a z q => z.elim (fun z => z) fun z => w a z q).ext x nb fun a pa => ⟨.inl (o a pa).1, (o a pa).2⟩).weak fun _ z _ => .inr z
theorem RDs.later {P F1 : Addr → Prop} {B1 : Nat → Option Addr} {H1 : Hp} {d : List D} {v : List V} (r : RDs K mg F B H d v) (x : Ext P B B1 H H1) (nb : Cells B H) (o : Owns F P H) (w : ∀ a, F1 a → H a ≠ none → F a) : RDs K mg F1 B1 H1 d v :=
  ((r.weak (F' := fun b => F b ∨ F1 b) fun a z q => z.elim (fun z => z) fun z => w a z q).ext x nb fun a pa => ⟨.inl (o a pa).1, (o a pa).2⟩).weak fun _ z _ => .inr z
theorem at_lt {ds : List D} {vs : List V} (r : RDs K mg F B H ds vs) {i : Nat} (hi : i < ds.length) : ∃ v, vs[i]? = some v :=
  ⟨vs[i]'(by rw [← r.length]; exact hi), List.getElem?_eq_getElem _⟩
theorem itok_tup {a : Addr} {vs : List V} {xs : List D} (nb : Cells B H) (h1 : SqT K H a vs) (h2 : RDs K mg F B H xs vs) : ItOk K mg (Itt K a) xs F B H where
  go := fun P B1 H1 i x o hi => by
    obtain ⟨v, q⟩ := at_lt h2 hi
    exact ⟨vs, v, SqT.ext h1 x nb o, q⟩
  yld := fun P B1 H1 i v H2 F1 x o nc w y hi => by
    obtain ⟨rfl, y⟩ := y
    refine ⟨.inl rfl, ?_⟩
    obtain ⟨d, e1, e2⟩ := h2.getV (y vs (SqT.ext h1 x nb o))
    exact ⟨d, e1, e2.later x nb o w⟩
  stop := fun P B1 H1 i x o hi => ⟨vs, SqT.ext h1 x nb o, by rw [← h2.length]; exact hi⟩
/-- a list stays where it is for good -/
abbrev LStay (K : PySem.W.Frag) (F : Addr → Prop) (B : Nat → Option Addr) (H : Hp) (a : Addr) (vs : List V) : Prop := ∀ P B1 H1, Ext P B B1 H H1 → Owns F P H → SqL K H1 a vs
theorem lstay_lst {a : Addr} {vs : List V} (e : H a = some (.lst vs)) (f : ¬ F a) (nr : ∀ r, B r ≠ some a) : LStay K F B H a vs := by
  intro P B1 H2 x o
  exact SqL.of (x.keep a _ e (fun z => f (o a z).1) nr)
theorem itok_lst {a : Addr} {vs : List V} {xs : List D} (nb : Cells B H) (hst : LStay K F B H a vs) (h2 : RDs K mg F B H xs vs) : ItOk K mg (Itl K a) xs F B H where
  go := fun P B1 H1 i x o hi => by
    obtain ⟨v, q⟩ := at_lt h2 hi
    exact ⟨vs, v, hst _ _ _ x o, q⟩
  yld := fun P B1 H1 i v H2 F1 x o nc w y hi => by
    obtain ⟨rfl, y⟩ := y
    refine ⟨.inl rfl, ?_⟩
    obtain ⟨d, e1, e2⟩ := h2.getV (y vs (hst _ _ _ x o))
    exact ⟨d, e1, e2.later x nb o w⟩
  stop := fun P B1 H1 i x o hi => ⟨vs, hst _ _ _ x o, by rw [← h2.length]; exact hi⟩
theorem itok_str {z : List Nat} (ok : okS z = true) : ItOk K mg (Its (str z)) (z.map fun k => .str [k]) F B H where
  go := fun P B1 H1 i x o hi => by
    show i < (str z).cps.size
    rw [List.length_map] at hi
    simpa using hi
  yld := fun P B1 H1 i v H2 F1 x o nc w y hi => by
    obtain ⟨rfl, c, e, rfl⟩ := y
    have e : z[i]? = some c := by simpa using e
    refine ⟨.inl rfl, .str [c], by rw [List.getElem?_map, e]; rfl, .str [c] (okS_sub ok fun u hu => ?_)⟩
    have : u = c := by simpa using hu
    subst this
    exact List.mem_of_getElem? e
  stop := fun P B1 H1 i x o hi => by
    show (str z).cps.size ≤ i
    rw [List.length_map] at hi
    simpa using hi
theorem rngL_len : ∀ (m : Nat) (lo : Int), (rngL lo m).length = m
  | 0, _ => rfl
  | m + 1, lo => by
    show (rngL (lo + 1) m).length + 1 = m + 1
    rw [rngL_len m]
theorem rngL_at : ∀ (m i : Nat) (lo : Int), i < m → (rngL lo m)[i]? = some (.int (lo + (i : Int)))
  | 0, _, _, h => by omega
  | m + 1, 0, lo, _ => by
    show some (D.int lo) = _
    simp
  | m + 1, i + 1, lo, h => by
    show (rngL (lo + 1) m)[i]? = _
    rw [rngL_at m i (lo + 1) (by omega)]
    refine congrArg (fun z => some (D.int z)) ?_
    omega
theorem itok_rng {lo : Int} {m : Nat} : ItOk K mg (Itr lo m) (rngL lo m) F B H where
  go := fun P B1 H1 i x o hi => by rw [rngL_len] at hi; exact hi
  yld := fun P B1 H1 i v H2 F1 x o nc w y hi => by
    obtain ⟨rfl, rfl⟩ := y
    rw [rngL_len] at hi
    exact ⟨.inl rfl, _, rngL_at m i lo hi, .int _⟩
  stop := fun P B1 H1 i x o hi => by rw [rngL_len] at hi; exact hi
theorem enumL_at : ∀ (xs : List D) (k i : Nat) (d : D), xs[i]? = some d → (enumL k xs)[i]? = some (.tup [.int ((k + i : Nat) : Int), d])
  | [], _, _, _, e => by simp at e
  | x :: r, k, 0, d, e => by
    have : x = d := by simpa using e
    subst this
    rfl
  | x :: r, k, i + 1, d, e => by
    show (enumL (k + 1) r)[i]? = _
    rw [enumL_at r (k + 1) i d (by simpa using e)]
    have : k + 1 + i = k + (i + 1) := by omega
    rw [this]
theorem enumL_len : ∀ (xs : List D) (k : Nat), (enumL k xs).length = xs.length
  | [], _ => rfl
  | x :: r, k => by
    show (enumL (k + 1) r).length + 1 = _
    rw [enumL_len r]
    rfl
theorem itok_enum {a : Addr} {vs : List V} {xs : List D} (nb : Cells B H) (h1 : LStay K F B H a vs) (h2 : RDs K mg F B H xs vs) : ItOk K mg (Ite K a) (enumL 0 xs) F B H where
  go := fun P B1 H1 i x o hi => by
    rw [enumL_len] at hi
    obtain ⟨v, q⟩ := at_lt h2 hi
    exact ⟨vs, v, h1 P B1 H1 x o, q⟩
  yld := fun P B1 H1 i v H2 F1 x o nc w y hi => by
    obtain ⟨T, u, rfl, nT, rfl, y⟩ := y
    refine ⟨.inr ⟨T, _, nT, rfl⟩, ?_⟩
    obtain ⟨d, e1, e2⟩ := h2.getV (y vs (h1 P B1 H1 x o))
    have q := enumL_at xs 0 i d e1
    rw [Nat.zero_add] at q
    refine ⟨_, q, .tup (.inl (.inl upd_same)) (.cons (.int _) (.cons ?_ .nil))⟩
    exact (e2.later x nb o w).ext (Ext.new nT) nc
  stop := fun P B1 H1 i x o hi => by
    rw [enumL_len] at hi
    exact ⟨vs, h1 P B1 H1 x o, by rw [← h2.length]; exact hi⟩
theorem zipL_at : ∀ (xs ys : List D) (i : Nat) (d e : D), xs[i]? = some d → ys[i]? = some e → (zipL xs ys)[i]? = some (.tup [d, e])
  | [], _, _, _, _, h, _ => by simp at h
  | _ :: _, [], _, _, _, _, h => by simp at h
  | x :: xs, y :: ys, 0, d, e, h1, h2 => by
    have : x = d := by simpa using h1
    subst this
    have : y = e := by simpa using h2
    subst this
    rfl
  | x :: xs, y :: ys, i + 1, d, e, h1, h2 => zipL_at xs ys i d e (by simpa using h1) (by simpa using h2)
theorem zipL_len : ∀ (xs ys : List D), (zipL xs ys).length = min xs.length ys.length
  | [], _ => by simp [zipL]
  | _ :: _, [] => by simp [zipL]
  | x :: xs, y :: ys => by
    show (zipL xs ys).length + 1 = _
    rw [zipL_len xs ys, List.length_cons, List.length_cons]
    omega
theorem itok_zip {a b : Addr} {vs us : List V} {xs ys : List D} (nb : Cells B H) (h1 : LStay K F B H a vs) (g1 : LStay K F B H b us) (h2 : RDs K mg F B H xs vs) (g2 : RDs K mg F B H ys us) : ItOk K mg (Itz K a b) (zipL xs ys) F B H where
  go := fun P B1 H1 i x o hi => by
    rw [zipL_len] at hi
    obtain ⟨v, q⟩ := at_lt h2 (i := i) (by omega)
    obtain ⟨u, q2⟩ := at_lt g2 (i := i) (by omega)
    exact ⟨vs, us, v, u, h1 P B1 H1 x o, g1 P B1 H1 x o, q, q2⟩
  yld := fun P B1 H1 i v H2 F1 x o nc w y hi => by
    obtain ⟨T, u, u2, rfl, nT, rfl, y, y2⟩ := y
    refine ⟨.inr ⟨T, _, nT, rfl⟩, ?_⟩
    obtain ⟨d, e1, e2⟩ := h2.getV (y vs (h1 P B1 H1 x o))
    obtain ⟨d2, f1, f2⟩ := g2.getV (y2 us (g1 P B1 H1 x o))
    refine ⟨_, zipL_at xs ys i d d2 e1 f1, .tup (.inl (.inl upd_same)) (.cons ?_ (.cons ?_ .nil))⟩
    · exact (e2.later x nb o w).ext (Ext.new nT) nc
    · exact (f2.later x nb o w).ext (Ext.new nT) nc
  stop := fun P B1 H1 i x o hi => by
    rw [zipL_len] at hi
    refine ⟨vs, us, h1 P B1 H1 x o, g1 P B1 H1 x o, ?_⟩
    rw [← h2.length, ← g2.length]
    omega
theorem itok_zipT {a b : Addr} {vs us : List V} {xs ys : List D} (nb : Cells B H) (h1 : SqT K H a vs) (g1 : SqT K H b us) (h2 : RDs K mg F B H xs vs) (g2 : RDs K mg F B H ys us) : ItOk K mg (RZ.ItzT K a b) (zipL xs ys) F B H where
  go := fun P B1 H1 i x o hi => by
    rw [zipL_len] at hi
    obtain ⟨v, q⟩ := at_lt h2 (i := i) (by omega)
    obtain ⟨u, q2⟩ := at_lt g2 (i := i) (by omega)
    exact ⟨vs, us, v, u, SqT.ext h1 x nb o, SqT.ext g1 x nb o, q, q2⟩
  yld := fun P B1 H1 i v H2 F1 x o nc w y hi => by
    obtain ⟨T, u, u2, rfl, nT, rfl, y, y2⟩ := y
    refine ⟨.inr ⟨T, _, nT, rfl⟩, ?_⟩
    obtain ⟨d, e1, e2⟩ := h2.getV (y vs (SqT.ext h1 x nb o))
    obtain ⟨d2, f1, f2⟩ := g2.getV (y2 us (SqT.ext g1 x nb o))
    refine ⟨_, zipL_at xs ys i d d2 e1 f1, .tup (.inl (.inl upd_same)) (.cons ?_ (.cons ?_ .nil))⟩
    · exact (e2.later x nb o w).ext (Ext.new nT) nc
    · exact (f2.later x nb o w).ext (Ext.new nT) nc
  stop := fun P B1 H1 i x o hi => by
    rw [zipL_len] at hi
    refine ⟨vs, us, SqT.ext h1 x nb o, SqT.ext g1 x nb o, ?_⟩
    rw [← h2.length, ← g2.length]
    omega

/-! ### the sources -/
theorem s_it_seq {g a : Expr} {e : E} (ha : PE X a (tR X.K X.mg (cxt t wf n) W e)) : PI X g a (tI X.K X.mg (cxt t wf n) W (.seq e)) := by
  refine piW (pi_any (tD_of ha)) fun σ H R ⟨F, B, ow, ρ, h, s, q⟩ => ?_
  unfold denIt at q
  refine stepD s (k' := fun d => (match d with
    | .tup xs => pur xs
    | .lst xs => pur xs
    | .scr ns => pur (ns.map .int)
    | .str s => pur (s.map fun k => .str [k])
    | _ => bad)) (fun _ => rfl) q fun d h1 B1 H1 v x1 s1 r1 p1 => ?_
  cases r1 with
  | tup g1 g2 => exact .inr (.inl ⟨_, _, rfl, g1, p1 B1 H1 _ x1 s1.heap (itok_tup s1.heap.cells g1 g2)⟩)
  | lst g1 f nr g2 => exact .inl ⟨_, _, rfl, SqL.of g1, p1 B1 H1 _ x1 s1.heap (itok_lst s1.heap.cells (lstay_lst g1 f nr) g2)⟩
  | @scr ns a g1 =>
    have st : LStay X.K (Ft F ow) B1 H1 a (ns.map V.int) := fun P B2 H2 x o => by
      rcases g1 with ⟨g1 | ⟨ob, g1⟩, f, nr⟩ | g1
      · exact SqL.of (x.keep a _ g1 (fun z => f (o a z).1) nr)
      · exact .inl (.inr ⟨ob, x.keep a _ g1 (fun z => f (o a z).1) nr⟩)
      · exact g1 _
    exact .inl ⟨_, _, rfl, st E0 B1 H1 Ext.rfl' owns0, p1 B1 H1 _ x1 s1.heap (itok_lst s1.heap.cells st (RDs.ints _))⟩
  | str z ok => exact .inr (.inr ⟨_, rfl, p1 B1 H1 _ x1 s1.heap (itok_str ok)⟩)
  | _ => exact p1.elim
theorem small62_ok {i : Int} (e : small62 i = true) : -(2 ^ 62) ≤ i ∧ i < 2 ^ 62 := of_decide_eq_true e
theorem s_it_rng (ok : XOk t wf N n X sc W) {g a : Expr} {e : E} {p pos : Pos} (gl : glB sc "range" = true) (hy : notStar a = true) (ha : PE X a (tR X.K X.mg (cxt t wf n) W e)) : PI X g (.Call (.Name "range" p) [a] [] pos) (tI X.K X.mg (cxt t wf n) W (.rng e)) := by
  refine piW (pi_range1 (gl_of ok.hs gl) (ok.bix _ (by simp)) (pa_cons ha pa_nil (star_cons hy)) (star_cons hy)) fun σ H R ⟨F, B, ow, ρ, h, s, q⟩ => ?_
  unfold denIt at q
  refine stepW' s q fun rv h1 B1 H1 v x1 s1 r1 p1 => ?_
  cases rv with
  | v d =>
    cases d with
    | int j =>
      cases (show RD _ _ _ _ _ (D.int j) v from r1)
      have p1 : ((if small62 j then pur (rngL 0 j.toNat) else bad) h1).post _ _ := p1
      split at p1
      · next hj => exact ⟨j, rfl, (small62_ok hj).1, (small62_ok hj).2, p1 B1 H1 _ x1 s1.heap itok_rng⟩
      · exact p1.elim
    | _ => exact p1.elim
  | _ => exact p1.elim
theorem s_it_rng2 (ok : XOk t wf N n X sc W) {g a b : Expr} {d e : E} {p pos : Pos} (gl : glB sc "range" = true) (hy : notStar a = true) (hz : notStar b = true) (ha : PE X a (tR X.K X.mg (cxt t wf n) W d)) (hb : PE X b (tR X.K X.mg (cxt t wf n) W e)) : PI X g (.Call (.Name "range" p) [a, b] [] pos) (tI X.K X.mg (cxt t wf n) W (.rng2 d e)) := by
  refine piW (pi_range2 (gl_of ok.hs gl) (ok.bix _ (by simp)) (pa_cons ha (pa_cons hb pa_nil (star_cons hz)) (star_cons hy)) ((star_cons hy).trans (congrArg _ (star_cons hz))) (star_cons hz)) fun σ H R ⟨F, B, ow, ρ, h, s, q⟩ => ?_
  unfold denIt at q
  refine stepW' s q fun rv h1 B1 H1 v x1 s1 r1 p1 => ?_
  refine stepW' s1 p1 fun rw h2 B2 H2 v2 x2 s2 r2 p2 => ?_
  cases rv with
  | v d =>
    cases d with
    | int i =>
      cases rw with
      | v d =>
        cases d with
        | int j =>
          cases (show RD _ _ _ _ _ (D.int i) v from r1)
          cases (show RD _ _ _ _ _ (D.int j) v2 from r2)
          have p2 : ((if small62 i && small62 j then pur (rngL i (j - i).toNat) else bad) h2).post _ _ := p2
          split at p2
          · next hj =>
            obtain ⟨h1, h2⟩ := and2 hj
            exact ⟨i, j, rfl, ⟨(small62_ok h1).1, (small62_ok h1).2, (small62_ok h2).1, (small62_ok h2).2⟩, p2 B2 H2 _ (x1.seq x2) s2.heap itok_rng⟩
          · exact p2.elim
        | _ => exact p2.elim
      | _ => exact p2.elim
    | _ => exact p2.elim
  | _ => exact p2.elim
theorem s_it_enum (ok : XOk t wf N n X sc W) {a : Expr} {e : E} {es : List Expr} {kk : Nat} {p pos tp : Pos} (gl : glB sc "enumerate" = true) (hy : notStar a = true) (ha : PE X a (tR X.K X.mg (cxt t wf n) W e)) : PI X (.Tuple es kk tp) (.Call (.Name "enumerate" p) [a] [] pos) (tI X.K X.mg (cxt t wf n) W (.enum e)) := by
  refine piW (pi_enum (gl_of ok.hs gl) (ok.bix _ (by simp)) (pa_cons (tD_of ha) pa_nil (star_cons hy)) (star_cons hy)) fun σ H R ⟨F, B, ow, ρ, h, s, q⟩ => ?_
  unfold denIt at q
  refine stepD s (k' := fun d => (match d with
    | .lst xs => pur (enumL 0 xs)
    | _ => bad)) (fun _ => rfl) q fun d h1 B1 H1 v x1 s1 r1 p1 => ?_
  cases r1 with
  | lst g1 f nr g2 => exact ⟨_, _, rfl, SqL.of g1, p1 B1 H1 _ x1 s1.heap (itok_enum s1.heap.cells (lstay_lst g1 f nr) g2)⟩
  | _ => exact p1.elim
theorem s_it_zip (ok : XOk t wf N n X sc W) {a b : Expr} {d e : E} {es : List Expr} {kk : Nat} {p pos tp : Pos} (gl : glB sc "zip" = true) (hy : notStar a = true) (hz : notStar b = true) (ha : PE X a (tR X.K X.mg (cxt t wf n) W d)) (hb : PE X b (tR X.K X.mg (cxt t wf n) W e)) : PI X (.Tuple es kk tp) (.Call (.Name "zip" p) [a, b] [] pos) (tI X.K X.mg (cxt t wf n) W (.zip d e)) := by
  refine piW (RZ.pi_zipA (gl_of ok.hs gl) (ok.bix _ (by simp)) (pa_cons (tD_of ha) (pa_cons (tD_of hb) pa_nil (star_cons hz)) (star_cons hy)) (star_cons hy) (star_plain (by simpa using hz))) fun σ H R ⟨F, B, ow, ρ, h, s, q⟩ => ?_
  unfold denIt at q
  refine stepD s (k' := fun d => bnd (denR (cxt t wf n) e ρ) fun y => bnd (opt (dg y)) fun e => (match d, e with
    | .lst xs, .lst ys => pur (zipL xs ys)
    | .tup xs, .tup ys => pur (zipL xs ys)
    | _, _ => bad)) (fun _ => rfl) q fun d h1 B1 H1 v x1 s1 r1 p1 => ?_
  refine stepD s1 (k' := fun e => (match d, e with
    | .lst xs, .lst ys => pur (zipL xs ys)
    | .tup xs, .tup ys => pur (zipL xs ys)
    | _, _ => bad)) (fun _ => rfl) p1 fun e h2 B2 H2 v2 x2 s2 r2 p2 => ?_
  have r1 := r1.ext x2 s1.heap.cells
  cases r1 with
  | lst g1 f nr g2 =>
    cases r2 with
    | lst g3 f2 nr2 g4 => exact ⟨_, _, _, _, rfl, .inl ⟨SqL.of g1, SqL.of g3, p2 B2 H2 _ (x1.seq x2) s2.heap (itok_zip s2.heap.cells (lstay_lst g1 f nr) (lstay_lst g3 f2 nr2) g2 g4)⟩⟩
    | _ => exact p2.elim
  | tup g1 g2 =>
    cases r2 with
    | tup g3 g4 => exact ⟨_, _, _, _, rfl, .inr ⟨g1, g3, p2 B2 H2 _ (x1.seq x2) s2.heap (itok_zipT s2.heap.cells g1 g3 g2 g4)⟩⟩
    | _ => exact p2.elim
  | _ => exact p2.elim
end
end Z
end

section
namespace Z
open PySem PySem.Spec PyProof.Rows L2

section
variable {t : Tab} {wf : Nat} {N : List Str} {n : Nat} {X : L2.Cx} {sc : Scope} {W : WX} {K : PySem.W.Frag} {mg : Str → Option Value} {F F' : Addr → Prop} {B B' : Nat → Option Addr} {H H' : Hp} {ow : Nat → Option Addr} {ρ ρ' : Env} {h h' : LH} {σ σ' : L2.St}

/-! ### comprehensions -/
abbrev W0 : WX := fun _ _ _ _ => False
theorem ownB_map : ∀ (N : List Str) (ws : List Nat), (ownB N ws).map (·.2) = ws
  | _, [] => rfl
  | N, i :: r => by
    show i :: (ownB N r).map (·.2) = _
    rw [ownB_map N r]
/-- the block's place -/
theorem blkX (ok : XOk t wf N n X sc W) {scope : Scope} {ow : List (Str × Nat)} (hb : BlkOk N sc scope ow) (s : Shared) (H : Hp) (C : Addr) (cl : List (Str × Addr)) (fp : List Addr) : XOk t wf N n (X.blk s H scope (compEnvC scope cl C X.env) fp) (relS scope sc) W0 where
  hN := ok.hN
  nd := ok.nd
  hs := by rw [← ok.hs]; rfl
  kd := hb.kind
  calm := ok.calm
  room := ok.room
  tk := takes0
  po := PassesOwn.never
  fns := ok.fns
  glos := ok.glos
  bis := ok.bis
  bix := ok.bix
theorem blkS {scope : Scope} {ws : Option (List Nat)} (s : Shared) (H : Hp) (C : Addr) (cl : List (Str × Addr)) (fp : List Addr) : Stores (X.blk s H scope (compEnvC scope cl C X.env) fp) scope ws := fun x h => by
  unfold locB at h
  split at h
  · next e =>
    have : (relabel scope X.env).names.lookup x = some .local := lookup_relS_keep (sc := X.env.scope) (fun z => nomatch z) e
    exact ⟨.inl this, .inr this⟩
  · next e =>
    have : (relabel scope X.env).names.lookup x = some .cell := lookup_relS_keep (sc := X.env.scope) (fun z => nomatch z) e
    refine ⟨.inr this, .inl ?_⟩
    show (scope.names.lookup x == some .cell) = true
    rw [e]
    rfl
  · cases h
theorem HR.ownUpd (x : HR K mg F B h H) {p : Addr} {ys : List V} (f : F p) (e : H p = some (.lst ys)) {zs : List V} : HR K mg F B h (upd H p (.lst zs)) := by
  have ex : Ext (fun a => a = p) B B H (upd H p (.lst zs)) := ⟨fun a o q np _ => by rw [upd_ne np]; exact q, fun _ _ z => z, fun _ _ z => .inl z, fun a q => by
    by_cases ea : a = p
    · rw [ea, upd_same]; exact fun z => nomatch z
    · rw [upd_ne ea]; exact q⟩
  have o : Owns F (fun a => a = p) H := fun a q => ⟨q ▸ f, ys, q ▸ e⟩
  refine ⟨fun r ob q => ?_, x.lt, x.inj, x.nf⟩
  obtain ⟨a, e1, z⟩ := x.at_ r ob q
  refine ⟨a, e1, ?_⟩
  cases ob with
  | lst xs =>
    obtain ⟨vs, z, w⟩ := z
    refine ⟨vs, ?_, w.ext ex x.cells o⟩
    rw [upd_ne (fun y => x.nf r a e1 (by rw [y]; exact f))]
    exact z
  | ins _ _ => exact z.elim
theorem Ext.own {p : Addr} {zs : List V} : Ext (fun a => a = p) B B H (upd H p (.lst zs)) := ⟨fun a o q np _ => by rw [upd_ne np]; exact q, fun _ _ z => z, fun _ _ z => .inl z, fun a q => by
    by_cases ea : a = p
    · rw [ea, upd_same]; exact fun z => nomatch z
    · rw [upd_ne ea]; exact q⟩
theorem SR.grow (s : SR K mg F B ow ρ h σ H) (x : Ext E0 B B' H H') (w : ∀ a, F' a → F a ∨ (H a = none ∧ H' a ≠ none)) (hr : HR K mg (Ft F' ow) B' h' H') : SR K mg F' B' ow ρ h' σ H' := by
  have w1 : ∀ a, Ft F' ow a → H a ≠ none → Ft F ow a := fun a z q => by
    rcases z with z | z
    · rcases w a z with y | y
      · exact .inl y
      · exact absurd y.1 q
    · exact .inr z
  exact {
    len := s.len
    val := fun i d e => by
      obtain ⟨v, e1, r⟩ := s.val i d e
      exact ⟨v, e1, (r.weak w1).ext x s.heap.cells⟩
    own := fun i xs e => by
      obtain ⟨a, vs, e1, e2, e3, r⟩ := s.own i xs e
      exact ⟨a, vs, e1, e2, x.keep a _ e3 (fun z => z) (s.sep i a e1).2, (r.weak w1).ext x s.heap.cells⟩
    ft := fun a z => by
      rcases z with z | z
      · rcases w a z with y | y
        · exact x.dom a (s.ft a (.inl y))
        · exact y.2
      · exact x.dom a (s.ft a (.inr z))
    inj := s.inj
    sep := fun i a e => by
      have ne := s.ft a (.inr ⟨i, e⟩)
      refine ⟨fun z => ?_, fun r z => ?_⟩
      · rcases w a z with y | y
        · exact (s.sep i a e).1 y
        · exact ne y.1
      · rcases x.news r a z with q | q
        · exact (s.sep i a e).2 r q
        · exact ne q
    ol := fun i a e => by
      obtain ⟨ys, q⟩ := s.ol i a e
      exact ⟨ys, x.keep a _ q (fun z => z) (s.sep i a e).2⟩
    heap := hr }
theorem calm_post {α : Type} {m : M α} {Q : α → LH → Prop} {Y : Str → List (Str × D) → LH → Prop} (p : (calmM m h).post Q Y) : (m h).post Q fun _ _ _ => False := by
  unfold calmM at p
  cases e : m h with
  | ok a h' => rw [e] at p; exact p
  | exc c fs h' => rw [e] at p; exact p
  | bad => rw [e] at p; exact p
theorem ok_post {α : Type} {r : Res α} {Q : α → LH → Prop} (p : r.post Q fun _ _ _ => False) : ∃ a h', r = .ok a h' ∧ Q a h' := by
  cases r with
  | ok a h' => exact ⟨a, h', rfl, p⟩
  | exc _ _ _ => exact p.elim
  | bad => exact p.elim
/-- one turn of a comprehension -/
def turnC (c : Cx) (tg : Tg) (ifs : Ts) (elt : E) (ws : List Nat) (ρ : Env) (x : D) : M (Option D) := fun h => match bindTg tg x (wipe ρ ws) with
  | none => .bad
  | some ρ' => bnd (denTs c ifs ρ') (fun k => if k then bnd (denR c elt ρ') (fun y => bnd (opt (dg y)) fun d => pur (some d)) else pur none) h
theorem comp_w (ok : XOk t wf N n X sc W) {it : Z.It} {tg : Tg} {ifs : Ts} {elt : E} {ws : List Nat} {tg' : Expr} {scope : Scope} (hg : ckTg N scope (some ws) tg tg' = true) :
    ∀ σ H Q, tR X.K X.mg (cxt t wf n) W (.comp it tg ifs elt ws) σ H Q → tLc (tI X.K X.mg (cxt t wf n) W it) (gT X.K tg) (tTs X.K X.mg (cxt t wf n) W0 ifs) (tD X.K X.mg (cxt t wf n) W0 elt) ((ownB N ws).map (·.2)) σ H Q := by
  intro σ H Q ⟨F, B, ow, ρ, h, s, q⟩
  rw [ownB_map]
  unfold denR at q
  refine ⟨F, B, ow, ρ, h, s, post_mono (post_bnd.1 q) (fun xs h1 q1 B1 H1 J x1 hr1 ik D nD => ?_) fun _ _ _ z => z⟩
  have s1 := s.ext x1 hr1
  have q2 := calm_post (post_bnd.1 q1)
  have q2 : (compL (turnC (cxt t wf n) tg ifs elt ws ρ) xs h1).post (fun ys h3 => ys.length ≤ szL ∧ ∀ B' H' v, Ext E0 B B' H H' → HR X.K X.mg (Ft F ow) B' h3 H' → RR X.K X.mg F B' ow h3 H H' (.fr ys) v → Q v H') fun _ _ _ => False := post_mono q2 (fun ys h3 z => by
    split at z
    · next hz => exact ⟨hz, z⟩
    · exact z.elim) fun _ _ _ z => z
  clear q q1
  let F' : Addr → Prop := fun a => F a ∨ a = D
  have ftD : ∀ {a}, Ft F' ow a → H1 a ≠ none → Ft F ow a := fun {a} z y => by
    rcases z with (z | rfl) | z
    · exact .inl z
    · exact absurd nD y
    · exact .inr z
  have nfD : ¬ Ft F ow D := fun z => s1.ft D z nD
  let Fin : List Z.D → LH → Prop := fun ys h3 => ys.length ≤ szL ∧ ∀ B' H' v, Ext E0 B B' H H' → HR X.K X.mg (Ft F ow) B' h3 H' → RR X.K X.mg F B' ow h3 H H' (.fr ys) v → Q v H'
  let Wt : Nat → Nat → Hp → Prop := fun i m H2 => m = xs.length - i ∧ i ≤ xs.length ∧ ∃ B2 h2 acc accV, Ext E0 B1 B2 H1 H2 ∧ HR X.K X.mg (Ft F' ow) B2 h2 H2 ∧ H2 D = some (.lst accV) ∧ RDs X.K X.mg (Ft F' ow) B2 H2 acc accV ∧ (∀ r, B2 r ≠ some D) ∧
    (compL (turnC (cxt t wf n) tg ifs elt ws ρ) (xs.drop i) h2).post (fun ys h3 => Fin (acc ++ ys) h3) fun _ _ _ => False
  refine ⟨Wt, ⟨xs.length, by simp, Nat.zero_le _, B1, h1, [], [], Ext.new nD, ?_, upd_same, .nil, fun r z => ?_, q2⟩, ?_⟩
  · exact (s1.heap.weak fun a z y => ftD z y).new nD
  · obtain ⟨ys, e⟩ := s1.heap.cells r D z
    rw [nD] at e
    cases e
  rintro i m H2 ⟨rfl, hi2, B2, h2, acc, accV, x2, hr2, eD, ra, nb, p2⟩
  have lenA : acc.length = accV.length := ra.length
  by_cases hlt : i < xs.length
  · refine .inr ⟨ik.go E0 B2 H2 i x2 owns0 hlt, Wt (i + 1) (xs.length - (i + 1)), fun H' w => ⟨_, by omega, w⟩, fun x H3 y => ?_⟩
    obtain ⟨hH, d, ed, rx⟩ := ik.yld E0 B2 H2 i x H3 (Ft F' ow) x2 owns0 hr2.cells (fun a z y => ftD z y) y hlt
    -- the turn's heap
    obtain ⟨x3, hr3, eD3⟩ : Ext E0 B2 B2 H2 H3 ∧ HR X.K X.mg (Ft F' ow) B2 h2 H3 ∧ H3 D = some (.lst accV) := by
      rcases hH with rfl | ⟨T, o, nT, rfl⟩
      · exact ⟨Ext.rfl', hr2, eD⟩
      · exact ⟨Ext.new nT, hr2.new nT, by rw [upd_ne (ne_of_none eD nT)]; exact eD⟩
    have s3 : SR X.K X.mg F' B2 ow ρ h2 σ H3 := s1.grow (x2.seq x3) (fun a z => by
      rcases z with z | rfl
      · exact .inl z
      · exact .inr ⟨nD, by rw [eD3]; exact fun z => nomatch z⟩) hr3
    have ra3 := ra.ext x3 hr2.cells
    have edr : xs.drop i = d :: xs.drop (i + 1) := by
      rw [List.drop_eq_getElem_cons hlt]
      congr 1
      have := List.getElem?_eq_getElem hlt
      rw [ed] at this
      exact (Option.some.inj this).symm
    rw [edr] at p2
    have p3 := post_bnd.1 p2
    unfold turnC at p3
    cases eb : bindTg tg d (wipe ρ ws) with
    | none => simp only [eb] at p3; exact p3.elim
    | some ρ' =>
      simp only [eb] at p3
      refine gT_ok (p := (· ∈ ws)) (P := fun σ2 => L2.wipe σ2 ws = L2.wipe σ ws) (fun i σ v hi e => by rw [wipe_set hi]; exact e) tg (tgIn_ck tg tg' hg) (wipe_wipe ws ws σ fun _ z => z) (s3.wipe ws) rx eb fun σ2 hw s4 => ⟨hw, ?_⟩
      refine ⟨F', B2, ow, ρ', h2, s4, post_mono (post_bnd.1 p3) (fun k h4 q4 B4 H4 x4 hr4 => ?_) fun _ _ _ z => z.elim⟩
      have s5 := s4.ext x4 hr4
      have eD4 : H4 D = some (.lst accV) := x4.keep D _ eD3 (fun z => z) nb
      have nb4 : ∀ r, B4 r ≠ some D := fun r z => by
        rcases x4.news r D z with q | q
        · exact nb r q
        · rw [q] at eD3; cases eD3
      have ra4 := ra3.ext x4 hr3.cells
      have xx4 : Ext E0 B1 B4 H1 H4 := (x2.seq x3).seq x4
      cases k with
      | false =>
        simp only [Bool.false_eq_true, if_false] at q4 ⊢
        exact ⟨rfl, hlt, B4, h4, acc, accV, xx4, hr4, eD4, ra4, nb4, post_mono (post_bnd.1 q4) (fun ys h5 z => z) fun _ _ _ z => z⟩
      | true =>
        simp only [if_true] at q4 ⊢
        rw [← bnd_assoc] at q4
        have q5 := post_bnd.1 q4
        refine ⟨F', B4, ow, ρ', h4, s5, post_mono q5 (fun dd h5 q6 B5 H5 v x5 hr5 rv => ?_) fun _ _ _ z => z.elim⟩
        have eD5 : H5 D = some (.lst accV) := x5.keep D _ eD4 (fun z => z) nb4
        have nb5 : ∀ r, B5 r ≠ some D := fun r z => by
          rcases x5.news r D z with q | q
          · exact nb4 r q
          · rw [q] at eD4; cases eD4
        have ra5 := ra4.ext x5 hr4.cells
        have fD : Ft F' ow D := .inl (.inr rfl)
        have oD : Owns (Ft F' ow) (fun a => a = D) H5 := fun a z => ⟨z ▸ fD, _, z ▸ eD5⟩
        have q7 : (compL (turnC (cxt t wf n) tg ifs elt ws ρ) (xs.drop (i + 1)) h5).post (fun ys h3 => Fin ((acc ++ [dd]) ++ ys) h3) fun _ _ _ => False := post_mono (post_bnd.1 q6) (fun ys h6 z => by
          rw [List.append_assoc]
          exact z) fun _ _ _ z => z
        obtain ⟨ys, h6, _, fz⟩ := ok_post q7
        refine ⟨accV, eD5, ?_, rfl, hlt, B5, h5, acc ++ [dd], accV ++ [v], ?_, hr5.ownUpd fD eD5, upd_same, ?_, nb5, q7⟩
        · have := fz.1
          rw [List.length_append, List.length_append] at this
          have e1 : ([dd] : List Z.D).length = 1 := rfl
          rw [← szL_eq, ← lenA]
          omega
        · exact (xx4.seq x5).trans Ext.own fun a z => .inr (z ▸ nD)
        · exact (ra5.append (.cons rv .nil)).ext Ext.own hr5.cells oD
  · have e : i = xs.length := by omega
    subst e
    rw [List.drop_length] at p2
    have p2 : Fin (acc ++ []) h2 := p2
    rw [List.append_nil] at p2
    refine .inl ⟨ik.stop E0 B2 H2 _ x2 owns0 (Nat.le_refl _), p2.2 B2 H2 _ (x1.seq x2) (hr2.weak fun a z _ => ?_) ⟨D, accV, rfl, ?_, eD, nb, fun z => nfD (.inl z), fun j z => nfD (.inr ⟨j, z⟩), ra.weak fun a z _ => ?_, hr2.weak fun a z _ => ?_⟩⟩
    · rcases z with z | z
      · exact .inl (.inl z)
      · exact .inr z
    · cases z : H D with
      | none => rfl
      | some o => exact absurd nD (x1.dom D (by rw [z]; exact fun w => nomatch w))
    · rcases z with (z | z) | z
      · exact .inl (.inl z)
      · exact .inr z
      · exact .inl (.inr z)
    · rcases z with (z | z) | z
      · exact .inl (.inl z)
      · exact .inr z
      · exact .inl (.inr z)
/-- the block's parts -/
structure BlkP (t : Tab) (wf : Nat) (N : List Str) (n : Nat) (X : L2.Cx) (sc : Scope) (W : WX) (it : Z.It) (tg : Tg) (ifs : Ts) (elt : E) (ws : List Nat) (el tg' itr : Expr) (cs : List Expr) (scope : Scope) : Prop where
  hi : PI X tg' itr (tI X.K X.mg (cxt t wf n) W it)
  hs : ∀ x, foldedSetIterable itr X.env x = pure x
  ok : BlkOk X.N X.env.scope scope (ownB N ws)
  hg : ∀ (s : Shared) (H : Hp) (C : Addr) (cl : List (Str × Addr)) (fp : List Addr), PG (X.blk s H scope (compEnvC scope cl C X.env) fp) tg' (gT X.K tg)
  ht : ∀ (s : Shared) (H : Hp) (C : Addr) (cl : List (Str × Addr)) (fp : List Addr), PTs (X.blk s H scope (compEnvC scope cl C X.env) fp) cs (tTs X.K X.mg (cxt t wf n) W0 ifs)
  he : ∀ (s : Shared) (H : Hp) (C : Addr) (cl : List (Str × Addr)) (fp : List Addr), PE (X.blk s H scope (compEnvC scope cl C X.env) fp) el (tD X.K X.mg (cxt t wf n) W0 elt)
  tg : ckTg N scope (some ws) tg tg' = true
theorem blk_parts (ok : XOk t wf N n X sc W) {it : Z.It} {tg : Tg} {ifs : Ts} {elt : E} {ws : List Nat} {el tg' itr : Expr} {cs : List Expr} {scope : Scope}
    (hi : PI X tg' itr (tI X.K X.mg (cxt t wf n) W it)) (hs : notSet itr = true) (hb : blkC N sc scope (ownB N ws) = true) (hg : ckTg N scope (some ws) tg tg' = true)
    (ht : ∀ X' : L2.Cx, XOk t wf N n X' (relS scope sc) W0 → PTs X' cs (tTs X'.K X'.mg (cxt t wf n) W0 ifs)) (he : ∀ X' : L2.Cx, XOk t wf N n X' (relS scope sc) W0 → PE X' el (tR X'.K X'.mg (cxt t wf n) W0 elt)) :
    BlkP t wf N n X sc W it tg ifs elt ws el tg' itr cs scope where
  hi := hi
  hs := fun x => by cases itr <;> first | rfl | cases hs
  ok := by rw [ok.hN, ok.hs]; exact blkOk_by hb
  hg := fun s H C cl fp => pg_T (X := X.blk s H scope (compEnvC scope cl C X.env) fp) (sc := scope) (ws := some ws) ok.hN ok.nd ok.calm (blkS s H C cl fp) tg tg' hg
  ht := fun s H C cl fp => ht _ (blkX ok (blkOk_by hb) s H C cl fp)
  he := fun s H C cl fp => tD_of (he _ (blkX ok (blkOk_by hb) s H C cl fp))
  tg := hg
theorem s_comp (ok : XOk t wf N n X sc W) {it : Z.It} {tg : Tg} {ifs : Ts} {elt : E} {ws : List Nat} {el tg' itr : Expr} {cs : List Expr} {scope : Scope} {pos : Pos} (b : BlkP t wf N n X sc W it tg ifs elt ws el tg' itr cs scope) :
    PE X (.ListComp el [⟨tg', itr, cs, 0⟩] scope pos) (tR X.K X.mg (cxt t wf n) W (.comp it tg ifs elt ws)) :=
  peW (pe_lc ok.calm (by rw [ok.hN]; exact ok.nd) b.hi b.ok b.hg b.ht b.he b.hs) (comp_w ok b.tg)
end
end Z
end

section
namespace Z
open PySem PySem.Spec PyProof.Rows L2

section
variable {t : Tab} {wf : Nat} {N : List Str} {n : Nat} {X : L2.Cx} {sc : Scope} {W : WX} {F : Addr → Prop} {B B' : Nat → Option Addr} {H H' : Hp} {ow : Nat → Option Addr} {ρ : Env} {h h' : LH} {σ : L2.St}
theorem plainIx_of {y : Expr} (h : notSl y = true) : PlainIx y := fun o i => by cases y <;> first | rfl | cases h
theorem s_neg {a : E} {x : Expr} {pos : Pos} (ha : PE X x (tR X.K X.mg (cxt t wf n) W a)) : PE X (.UnaryOp .USub x pos) (tR X.K X.mg (cxt t wf n) W (.neg a)) := by
  refine peW (pe_un un_neg ha) fun σ H Q ⟨F, B, ow, ρ, h, s, q⟩ => ?_
  unfold denR at q
  refine tRd_step s q fun rv h1 B1 H1 v x1 s1 r1 p1 => ?_
  split at p1
  · next k =>
    cases (show RD _ _ _ _ _ (D.int k) v from r1)
    exact ⟨k, rfl, p1 B1 H1 _ x1 s1.heap (.int _)⟩
  · exact p1.elim
theorem glAll_at : ∀ {cs : List String}, glAll sc cs = true → ∀ c ∈ cs, glB sc (c : Str) = true := by
  intro cs
  induction cs with
  | nil => exact fun _ _ z => nomatch z
  | cons d ds ih =>
    intro h c hc
    unfold glAll at h
    obtain ⟨h1, h2⟩ := and2 h
    rcases List.mem_cons.mp hc with rfl | hc
    · exact h1
    · exact ih h2 c hc
end

section
variable {t : Tab} {wf : Nat} {N : List Str} {n : Nat}
theorem dec {p : Prop} [Decidable p] (h : decide p = true) : p := of_decide_eq_true h
theorem nt {b : Bool} (h : (!b) = true) : b = false := by simpa using h
theorem tup_of {g : Expr} (h : isTup g = true) : ∃ es k p, g = .Tuple es k p := by
  cases g <;> first | exact ⟨_, _, _, rfl⟩ | cases h
mutual
theorem sE : ∀ (e : E) {X : L2.Cx} {sc : Scope} {W : WX} (_ : XOk t wf N n X sc W) (a : Expr), ckE t N sc e a = true → PE X a (tR X.K X.mg (cxt t wf n) W e) := by
  intro e X sc W ok a h
  cases e with
  | var i =>
    unfold ckE at h
    split at h <;> first | contradiction | (rename_i heq; cases heq)
    obtain ⟨h1, h3⟩ := and2 h
    obtain ⟨h1, h2⟩ := and2 h1
    exact s_var ok h1 h2 h3
  | own i =>
    unfold ckE at h
    split at h <;> first | contradiction | (rename_i heq; cases heq)
    obtain ⟨h1, h3⟩ := and2 h
    obtain ⟨h1, h2⟩ := and2 h1
    exact s_own ok h1 h2 h3
  | int k =>
    unfold ckE at h
    split at h <;> first | contradiction | (rename_i heq; cases heq)
    cases dec h
    exact s_const pe_int (d := .int k) (fun _ _ => by unfold denR; rfl) fun _ _ _ => .int _
  | bl b =>
    unfold ckE at h
    split at h <;> first | contradiction | (rename_i heq; cases heq)
    cases (show b = _ from by simpa using h)
    exact s_const pe_bl (d := .bl b) (fun _ _ => by unfold denR; rfl) fun _ _ _ => .bl _
  | non =>
    unfold ckE at h
    split at h <;> first | contradiction | (rename_i heq; cases heq)
    exact s_const pe_non (d := .non) (fun _ _ => by unfold denR; rfl) fun _ _ _ => .non
  | str s =>
    unfold ckE at h
    split at h <;> first | contradiction | (rename_i heq; cases heq)
    obtain ⟨h1, h2⟩ := and2 h
    cases dec h1
    exact s_const pe_str (d := .str s) (fun _ _ => by unfold denR; rfl) fun _ _ _ => .str s h2
  | glo x =>
    unfold ckE at h
    split at h <;> first | contradiction | (rename_i heq; cases heq)
    obtain ⟨h1, h3⟩ := and2 h
    obtain ⟨h1, h2⟩ := and2 h1
    cases dec h1
    exact s_glo ok h2 h3
  | tup es =>
    unfold ckE at h
    split at h <;> first | contradiction | (rename_i heq; cases heq)
    exact s_tup (sEs es ok _ h).args
  | lst es =>
    unfold ckE at h
    split at h <;> first | contradiction | (rename_i heq; cases heq)
    exact s_lst (sEs es ok _ h).args
  | bin o a b =>
    unfold ckE at h
    split at h <;> first | contradiction | (rename_i heq; cases heq)
    obtain ⟨h1, h3⟩ := and2 h
    obtain ⟨h1, h2⟩ := and2 h1
    cases dec h1
    exact s_bin ok (sE a ok _ h2) (sE b ok _ h3)
  | cmp o a b =>
    unfold ckE at h
    split at h <;> first | contradiction | (rename_i heq; cases heq)
    obtain ⟨h1, h4⟩ := and2 h
    obtain ⟨h1, h3⟩ := and2 h1
    obtain ⟨h1, h2⟩ := and2 h1
    cases dec h1
    exact s_cmp ok (sE a ok _ h3) (sE b ok _ h4) (nt h2)
  | chain o p a b d =>
    unfold ckE at h
    split at h <;> first | contradiction | (rename_i heq; cases heq)
    obtain ⟨h1, h6⟩ := and2 h
    obtain ⟨h1, h5⟩ := and2 h1
    obtain ⟨h1, h4⟩ := and2 h1
    obtain ⟨h1, h3⟩ := and2 h1
    obtain ⟨h1, h2⟩ := and2 h1
    cases dec h1
    cases dec h2
    exact s_chain ok (sE a ok _ h4) (sE b ok _ h5) (sE d ok _ h6) (nt h3)
  | neg a =>
    unfold ckE at h
    split at h <;> first | contradiction | (rename_i heq; cases heq)
    exact s_neg (sE a ok _ h)
  | not a =>
    unfold ckE at h
    split at h <;> first | contradiction | (rename_i heq; cases heq)
    exact s_not (sE a ok _ h)
  | and es =>
    unfold ckE at h
    split at h <;> first | contradiction | (rename_i heq; cases heq)
    exact s_and (sEs es ok _ h)
  | or es =>
    unfold ckE at h
    split at h <;> first | contradiction | (rename_i heq; cases heq)
    exact s_or (sEs es ok _ h)
  | ifE c a b =>
    unfold ckE at h
    split at h <;> first | contradiction | (rename_i heq; cases heq)
    obtain ⟨h1, h3⟩ := and2 h
    obtain ⟨h1, h2⟩ := and2 h1
    exact s_ifE (sT c ok _ h1) (sE a ok _ h2) (sE b ok _ h3)
  | idx a i =>
    unfold ckE at h
    split at h <;> first | contradiction | (rename_i heq; cases heq)
    obtain ⟨h1, h3⟩ := and2 h
    obtain ⟨h1, h2⟩ := and2 h1
    exact s_idx (sE a ok _ h1) (sE i ok _ h2) (plainIx_of h3)
  | sl a lo hi =>
    unfold ckE at h
    split at h <;> first | contradiction | (rename_i heq; cases heq)
    obtain ⟨h1, h3⟩ := and2 h
    obtain ⟨h1, h2⟩ := and2 h1
    exact s_sl (sE a ok _ h1) (sOp lo ok _ h2) (sOp hi ok _ h3)
  | call f es =>
    unfold ckE at h
    split at h <;> first | contradiction | (rename_i heq; cases heq)
    obtain ⟨h1, h4⟩ := and2 h
    obtain ⟨h1, h3⟩ := and2 h1
    obtain ⟨h1, h2⟩ := and2 h1
    split at h1
    · next fn e =>
      obtain ⟨h1, h6⟩ := and2 h1
      obtain ⟨h1, h5⟩ := and2 h1
      exact s_call ok e (dec h1) (dec h5) (dec h6) h2 h3 (sEs es ok _ h4)
    · cases h1
  | bi b es =>
    unfold ckE at h
    split at h <;> first | contradiction | (rename_i heq; cases heq)
    obtain ⟨h1, h3⟩ := and2 h
    obtain ⟨h1, h2⟩ := and2 h1
    cases dec h1
    exact s_bi ok h2 (sEs es ok _ h3)
  | sset a =>
    unfold ckE at h
    split at h <;> first | contradiction | (rename_i heq; cases heq)
    obtain ⟨h1, h6⟩ := and2 h
    obtain ⟨h1, h5⟩ := and2 h1
    obtain ⟨h1, h4⟩ := and2 h1
    obtain ⟨h1, h3⟩ := and2 h1
    obtain ⟨h1, h2⟩ := and2 h1
    cases dec h1
    cases dec h2
    exact s_sset ok h3 h4 h5 (sE a ok _ h6)
  | isi a cs =>
    unfold ckE at h
    split at h <;> first | contradiction | (rename_i heq; cases heq)
    · obtain ⟨h1, h5⟩ := and2 h
      obtain ⟨h1, h4⟩ := and2 h1
      obtain ⟨h1, h3⟩ := and2 h1
      obtain ⟨h1, h2⟩ := and2 h1
      cases dec h1
      split at h5
      · obtain ⟨h6, h7⟩ := and2 h5
        obtain ⟨h6, h8⟩ := and2 h6
        cases dec h6
        exact s_isi1 ok h2 h8 (by simpa using h7) h3 (sE a ok _ h4)
      · cases h5
    · obtain ⟨h1, h8⟩ := and2 h
      obtain ⟨h1, h7⟩ := and2 h1
      obtain ⟨h1, h6⟩ := and2 h1
      obtain ⟨h1, h5⟩ := and2 h1
      obtain ⟨h1, h4⟩ := and2 h1
      obtain ⟨h1, h3⟩ := and2 h1
      obtain ⟨h1, h2⟩ := and2 h1
      cases dec h1
      exact s_isiT ok h2 h5 h6 (fun c hc => by simpa using List.all_eq_true.mp h8 c hc) (dec h7) h3 (sE a ok _ h4)
  | mth m a es =>
    unfold ckE at h
    split at h <;> first | contradiction | (rename_i heq; cases heq)
    rename_i ys _
    obtain ⟨h1, h6⟩ := and2 h
    obtain ⟨h1, h5⟩ := and2 h1
    obtain ⟨h1, h4⟩ := and2 h1
    obtain ⟨h1, h3⟩ := and2 h1
    obtain ⟨h1, h2⟩ := and2 h1
    cases dec h2
    cases m with
    | join =>
      have h1 : ys.length = 1 := dec (and2 h1).1
      cases es with
      | nil =>
        cases ys with
        | nil => cases h1
        | cons _ _ => unfold ckEs at h6; cases h6
      | cons e es =>
        cases ys with
        | nil => cases h1
        | cons y ys =>
          cases ys with
          | cons _ _ => cases h1
          | nil =>
            unfold ckEs at h6
            obtain ⟨h9, h8⟩ := and2 h6
            obtain ⟨h9, h7⟩ := and2 h9
            cases es with
            | cons _ _ => unfold ckEs at h8; cases h8
            | nil => exact s_join h4 h3 h9 (sE a ok _ h5) (sE e ok _ h7)
    | _ => cases (and2 h1).1
  | comp it tg ifs elt ws =>
    unfold ckE at h
    split at h <;> first | contradiction | (rename_i heq; cases heq)
    obtain ⟨h1, h6⟩ := and2 h
    obtain ⟨h1, h5⟩ := and2 h1
    obtain ⟨h1, h4⟩ := and2 h1
    obtain ⟨h1, h3⟩ := and2 h1
    obtain ⟨h1, h2⟩ := and2 h1
    exact s_comp ok (blk_parts ok (sIt it ok _ _ h1) h2 h3 h4 (fun X' ok' => sTs1 ifs ok' _ h5) fun X' ok' => sE elt ok' _ h6)
theorem sOp : ∀ (o : Op) {X : L2.Cx} {sc : Scope} {W : WX} (_ : XOk t wf N n X sc W) (a : Option Expr), ckOp t N sc o a = true → PO X a (tOp' X.K X.mg (cxt t wf n) W o) := by
  intro o X sc W ok a h
  cases o with
  | no =>
    unfold ckOp at h
    split at h <;> first | contradiction | (rename_i heq; cases heq)
    exact s_op_no
  | yes e =>
    unfold ckOp at h
    split at h <;> first | contradiction | (rename_i heq; cases heq)
    exact s_op_yes (sE e ok _ h)
theorem sEs : ∀ (es : Es) {X : L2.Cx} {sc : Scope} {W : WX} (_ : XOk t wf N n X sc W) (as : List Expr), ckEs t N sc es as = true → PEs X (cxt t wf n) W es as := by
  intro es X sc W ok as h
  cases es with
  | nil =>
    unfold ckEs at h
    split at h <;> first | contradiction | (rename_i heq; cases heq)
    exact .nil
  | cons e es =>
    unfold ckEs at h
    split at h <;> first | contradiction | (rename_i heq; cases heq)
    obtain ⟨h1, h3⟩ := and2 h
    obtain ⟨h1, h2⟩ := and2 h1
    exact .cons h1 (sE e ok _ h2) (sEs es ok _ h3)
theorem sT : ∀ (c : T) {X : L2.Cx} {sc : Scope} {W : WX} (_ : XOk t wf N n X sc W) (a : Expr), ckT t N sc c a = true → PT X a (tT X.K X.mg (cxt t wf n) W c) := by
  intro c X sc W ok a h
  cases c with
  | e e =>
    unfold ckT at h
    obtain ⟨h1, h2⟩ := and2 h
    exact t_e h1 (sE e ok _ h2)
  | cmp o a b =>
    unfold ckT at h
    split at h <;> first | contradiction | (rename_i heq; cases heq)
    obtain ⟨h1, h4⟩ := and2 h
    obtain ⟨h1, h3⟩ := and2 h1
    obtain ⟨h1, h2⟩ := and2 h1
    cases dec h1
    exact t_cmp ok (sE a ok _ h3) (sE b ok _ h4) (nt h2)
  | chain o p a b d =>
    unfold ckT at h
    split at h <;> first | contradiction | (rename_i heq; cases heq)
    obtain ⟨h1, h6⟩ := and2 h
    obtain ⟨h1, h5⟩ := and2 h1
    obtain ⟨h1, h4⟩ := and2 h1
    obtain ⟨h1, h3⟩ := and2 h1
    obtain ⟨h1, h2⟩ := and2 h1
    cases dec h1
    cases dec h2
    exact t_chain ok (sE a ok _ h4) (sE b ok _ h5) (sE d ok _ h6) (nt h3)
  | not c =>
    unfold ckT at h
    split at h <;> first | contradiction | (rename_i heq; cases heq)
    exact t_not (sT c ok _ h)
  | and ts =>
    unfold ckT at h
    split at h <;> first | contradiction | (rename_i heq; cases heq)
    exact t_and (sTs ts ok _ h)
  | or ts =>
    unfold ckT at h
    split at h <;> first | contradiction | (rename_i heq; cases heq)
    exact t_or (sTs ts ok _ h)
theorem sTs : ∀ (ts : Ts) {X : L2.Cx} {sc : Scope} {W : WX} (_ : XOk t wf N n X sc W) (as : List Expr), ckTs t N sc ts as = true → PTl X (cxt t wf n) W ts as := by
  intro ts X sc W ok as h
  cases ts with
  | nil =>
    unfold ckTs at h
    split at h <;> first | contradiction | (rename_i heq; cases heq)
    exact .nil
  | cons e es =>
    unfold ckTs at h
    split at h <;> first | contradiction | (rename_i heq; cases heq)
    obtain ⟨h1, h2⟩ := and2 h
    exact .cons (sT e ok _ h1) (sTs es ok _ h2)
theorem sTs1 : ∀ (ts : Ts) {X : L2.Cx} {sc : Scope} {W : WX} (_ : XOk t wf N n X sc W) (as : List Expr), ckTs1 t N sc ts as = true → PTs X as (tTs X.K X.mg (cxt t wf n) W ts) := by
  intro ts X sc W ok as h
  cases ts with
  | nil =>
    unfold ckTs1 at h
    split at h <;> first | contradiction | (rename_i heq; cases heq)
    exact ptsW pts_nil fun σ H Q ⟨F, B, ow, ρ, h, s, q⟩ => by
      unfold denTs at q
      exact q B H Ext.rfl' s.heap
  | cons e es =>
    cases es with
    | cons _ _ => unfold ckTs1 at h; cases h
    | nil =>
      unfold ckTs1 at h
      split at h <;> first | contradiction | (rename_i heq; cases heq)
      next e1 =>
      exact ptsW (pts_one (sT e ok _ h)) fun σ H Q ⟨F, B, ow, ρ, h, s, q⟩ => by
        unfold denTs denTs at q
        refine tTd_step s q fun k h1 B1 H1 x1 s1 p1 => ?_
        cases k with
        | true => exact p1 B1 H1 x1 s1.heap
        | false => exact p1 B1 H1 x1 s1.heap
theorem sIt : ∀ (it : Z.It) {X : L2.Cx} {sc : Scope} {W : WX} (_ : XOk t wf N n X sc W) (g a : Expr), ckIt t N sc it g a = true → PI X g a (tI X.K X.mg (cxt t wf n) W it) := by
  intro it X sc W ok g a h
  cases it with
  | seq e =>
    unfold ckIt at h
    exact s_it_seq (sE e ok _ h)
  | rng e =>
    unfold ckIt at h
    split at h <;> first | contradiction | (rename_i heq; cases heq)
    obtain ⟨h1, h4⟩ := and2 h
    obtain ⟨h1, h3⟩ := and2 h1
    obtain ⟨h1, h2⟩ := and2 h1
    cases dec h1
    exact s_it_rng ok h2 h3 (sE e ok _ h4)
  | rng2 d e =>
    unfold ckIt at h
    split at h <;> first | contradiction | (rename_i heq; cases heq)
    obtain ⟨h1, h6⟩ := and2 h
    obtain ⟨h1, h5⟩ := and2 h1
    obtain ⟨h1, h4⟩ := and2 h1
    obtain ⟨h1, h3⟩ := and2 h1
    obtain ⟨h1, h2⟩ := and2 h1
    cases dec h1
    exact s_it_rng2 ok h2 h3 h4 (sE d ok _ h5) (sE e ok _ h6)
  | zip d e =>
    unfold ckIt at h
    split at h <;> first | contradiction | (rename_i heq; cases heq)
    obtain ⟨h1, h6⟩ := and2 h
    obtain ⟨h1, h5⟩ := and2 h1
    obtain ⟨h1, h4⟩ := and2 h1
    obtain ⟨h1, h3⟩ := and2 h1
    obtain ⟨h1, h2⟩ := and2 h1
    obtain ⟨h0, h1⟩ := and2 h1
    cases dec h1
    obtain ⟨_, _, _, rfl⟩ := tup_of h0
    exact s_it_zip ok h2 h3 h4 (sE d ok _ h5) (sE e ok _ h6)
  | enum e =>
    unfold ckIt at h
    split at h <;> first | contradiction | (rename_i heq; cases heq)
    obtain ⟨h1, h4⟩ := and2 h
    obtain ⟨h1, h3⟩ := and2 h1
    obtain ⟨h1, h2⟩ := and2 h1
    obtain ⟨h0, h1⟩ := and2 h1
    cases dec h1
    obtain ⟨_, _, _, rfl⟩ := tup_of h0
    exact s_it_enum ok h2 h3 (sE e ok _ h4)
end
end
end Z
end

section
namespace Z
open PySem PySem.Spec PyProof.Rows L2

section
variable {t : Tab} {wf : Nat} {N : List Str} {n : Nat} {X : L2.Cx} {sc : Scope} {W : WX} {K : PySem.W.Frag} {mg : Str → Option Value} {F F' : Addr → Prop} {B B' B1 : Nat → Option Addr} {H H' H1 : Hp} {ow ow' : Nat → Option Addr} {ρ ρ' : Env} {h h' h1 : LH} {σ σ' : L2.St}

/-! ### own lists -/
abbrev Pw (ow : Nat → Option Addr) : Addr → Prop := fun a => ∃ i, ow i = some a
abbrev Nw (ow ow' : Nat → Option Addr) (H : Hp) : Prop := ∀ i a, ow' i = some a → Pw ow a ∨ H a = none
theorem SR.owns (s : SR K mg F B ow ρ h σ H) : Owns (Ft F ow) (Pw ow) H := fun a ⟨i, e⟩ => ⟨.inr ⟨i, e⟩, s.ol i a e⟩
theorem not_none {a : Addr} (x : Ext F B B' H H') (e : H' a = none) : H a = none := by
  cases z : H a with
  | none => rfl
  | some o => exact absurd e (x.dom a (by rw [z]; exact fun w => nomatch w))
theorem Nw.rfl' : Nw ow ow H := fun i _ e => .inl ⟨i, e⟩
theorem Nw.trans {ow2 : Nat → Option Addr} {P : Addr → Prop} (n1 : Nw ow ow' H) (x : Ext P B B' H H') (n2 : Nw ow' ow2 H') : Nw ow ow2 H := fun i a e => by
  rcases n2 i a e with ⟨j, z⟩ | z
  · exact n1 j a z
  · exact .inr (not_none x z)
theorem Ext.nw (n1 : Nw ow ow' H) (x : Ext (Pw ow) B B1 H H1) (y : Ext (Pw ow') B1 B' H1 H') : Ext (Pw ow) B B' H H' := x.trans y fun a ⟨j, z⟩ => n1 j a z
/-- a new list is taken in, at k -/
def owAt (ow : Nat → Option Addr) (k : Nat) (a : Addr) : Nat → Option Addr := fun j => if j = k then some a else ow j
theorem owAt_self {k : Nat} {a : Addr} : owAt ow k a k = some a := if_pos rfl
theorem owAt_ne {k j : Nat} {a : Addr} (e : j ≠ k) : owAt ow k a j = ow j := if_neg e
theorem owAt_cases {k j : Nat} {a b : Addr} (e : owAt ow k a j = some b) : (j = k ∧ b = a) ∨ ow j = some b := by
  unfold owAt at e
  split at e
  · next q => exact .inl ⟨q, (Option.some.inj e).symm⟩
  · exact .inr e
/-- the lists that a frame holds, those of none of its slots too -/
theorem SR.take {xs : List D} {v : V} {k : Nat} (s : SR K mg F B ow ρ h σ H) (x : Ext E0 B B1 H H1) (r : RR K mg F B1 ow h1 H H1 (.fr xs) v) (hk : ρ.length ≤ k) :
    ∃ a vs, v = .ref a ∧ H a = none ∧ H1 a = some (.lst vs) ∧ RDs K mg (Ft F (owAt ow k a)) B1 H1 xs vs ∧ SR K mg F B1 (owAt ow k a) ρ h1 σ H1 := by
  obtain ⟨a, vs, e1, e2, e3, nr, nf, no, q, hr⟩ := r
  have w : ∀ b, Ft F (owAt ow k a) b → Ft F ow b ∨ b = a := fun b z => by
    rcases z with z | ⟨j, z⟩
    · exact .inl (.inl z)
    · rcases owAt_cases z with ⟨_, z⟩ | z
      · exact .inr z
      · exact .inl (.inr ⟨j, z⟩)
  have w1 : ∀ b, Ft F (owAt ow k a) b → H b ≠ none → Ft F ow b := fun b z q => by
    rcases w b z with z | z
    · exact z
    · rw [z, e2] at q; exact absurd rfl q
  refine ⟨a, vs, e1, e2, e3, q.weak fun b z _ => w b z, ?_⟩
  exact {
    len := s.len
    val := fun i d e => by
      obtain ⟨u, e4, r⟩ := s.val i d e
      exact ⟨u, e4, (r.weak w1).ext x s.heap.cells⟩
    own := fun i ys e => by
      obtain ⟨b, us, e4, e5, e6, r⟩ := s.own i ys e
      have ne : i ≠ k := fun z => by
        have := (List.getElem?_eq_some_iff.mp e).1
        omega
      exact ⟨b, us, (owAt_ne ne).trans e4, e5, x.keep b _ e6 (fun z => z) (s.sep i b e4).2, (r.weak w1).ext x s.heap.cells⟩
    ft := fun b z => by
      rcases w b z with z | z
      · exact x.dom b (s.ft b z)
      · rw [z, e3]; exact fun z => nomatch z
    inj := fun i j b e4 e5 => by
      have nk : ∀ j, ow j = some a → False := fun j z => no j z
      rcases owAt_cases e4 with ⟨z1, z2⟩ | z1 <;> rcases owAt_cases e5 with ⟨z3, z4⟩ | z3
      · rw [z1, z3]
      · rw [z2] at z3; exact (nk j z3).elim
      · rw [z4] at z1; exact (nk i z1).elim
      · exact s.inj i j b z1 z3
    sep := fun i b e4 => by
      rcases owAt_cases e4 with ⟨z1, z2⟩ | z1
      · rw [z2]; exact ⟨nf, nr⟩
      · refine ⟨(s.sep i b z1).1, fun r z => ?_⟩
        rcases x.news r b z with q | q
        · exact (s.sep i b z1).2 r q
        · exact s.ft b (.inr ⟨i, z1⟩) q
    ol := fun i b e4 => by
      rcases owAt_cases e4 with ⟨z1, z2⟩ | z1
      · exact ⟨vs, by rw [z2]; exact e3⟩
      · obtain ⟨ys, q⟩ := s.ol i b z1
        exact ⟨ys, x.keep b _ q (fun z => z) (s.sep i b z1).2⟩
    heap := hr.weak fun b z _ => w b z }
theorem owTake (a : Addr) (e : H a = none) {k : Nat} : Nw ow (owAt ow k a) H := fun i b z => by
  rcases owAt_cases z with ⟨_, z⟩ | z
  · exact .inr (by rw [z]; exact e)
  · exact .inl ⟨i, z⟩
/-- from k to the slot i -/
def owMv (ow : Nat → Option Addr) (k i : Nat) : Nat → Option Addr := fun j => if j = i then ow k else if j = k then none else ow j
theorem owMv_cases {k i j : Nat} {b : Addr} (e : owMv ow k i j = some b) : (j = i ∧ ow k = some b) ∨ (j ≠ i ∧ j ≠ k ∧ ow j = some b) := by
  unfold owMv at e
  split at e
  · next q => exact .inl ⟨q, e⟩
  · split at e
    · cases e
    · exact .inr ⟨by assumption, by assumption, e⟩
theorem owMv_pw {k i : Nat} {b : Addr} (z : Pw (owMv ow k i) b) : Pw ow b := by
  obtain ⟨j, z⟩ := z
  rcases owMv_cases z with ⟨_, z⟩ | ⟨_, _, z⟩
  · exact ⟨k, z⟩
  · exact ⟨j, z⟩
theorem SR.move {xs : List D} {vs : List V} {a : Addr} {k i : Nat} (s : SR K mg F B ow ρ h σ H) (hk : ρ.length ≤ k) (e : ow k = some a) (eH : H a = some (.lst vs)) (r : RDs K mg (Ft F ow) B H xs vs) :
    SR K mg F B (owMv ow k i) (ρ.set i (.own xs)) h (σ.set i (some (.ref a))) H := by
  have w : ∀ b, Ft F (owMv ow k i) b → H b ≠ none → Ft F ow b := fun b z _ => z.elim .inl fun z => .inr (owMv_pw z)
  exact {
    len := by rw [List.length_set, List.length_set]; exact s.len
    val := fun j d q => by
      by_cases hj : i = j
      · subst hj
        by_cases hl : i < ρ.length
        · rw [List.getElem?_set_self hl] at q; cases q
        · rw [List.getElem?_eq_none (by rw [List.length_set]; omega)] at q; cases q
      · rw [List.getElem?_set_ne hj] at q
        obtain ⟨u, e1, e2⟩ := s.val j d q
        exact ⟨u, by rw [List.getElem?_set_ne hj]; exact e1, e2.weak w⟩
    own := fun j ys q => by
      by_cases hj : i = j
      · subst hj
        by_cases hl : i < ρ.length
        · rw [List.getElem?_set_self hl] at q
          cases q
          exact ⟨a, vs, by unfold owMv; rw [if_pos rfl]; exact e, List.getElem?_set_self (by rw [← s.len]; exact hl), eH, r.weak w⟩
        · rw [List.getElem?_eq_none (by rw [List.length_set]; omega)] at q; cases q
      · rw [List.getElem?_set_ne hj] at q
        obtain ⟨b, us, e1, e2, e3, e4⟩ := s.own j ys q
        have nk : j ≠ k := fun z => by
          have := (List.getElem?_eq_some_iff.mp q).1
          omega
        exact ⟨b, us, by unfold owMv; rw [if_neg (Ne.symm hj), if_neg nk]; exact e1, by rw [List.getElem?_set_ne hj]; exact e2, e3, e4.weak w⟩
    ft := fun b z => s.ft b (z.elim .inl fun z => .inr (owMv_pw z))
    inj := fun j l b e1 e2 => by
      rcases owMv_cases e1 with ⟨z1, z2⟩ | ⟨y1, z1, z2⟩ <;> rcases owMv_cases e2 with ⟨z3, z4⟩ | ⟨y3, z3, z4⟩
      · rw [z1, z3]
      · exact absurd (s.inj l k b z4 z2) z3
      · exact absurd (s.inj j k b z2 z4) z1
      · exact s.inj j l b z2 z4
    sep := fun j b e1 => by
      rcases owMv_cases e1 with ⟨z1, z2⟩ | ⟨_, z1, z2⟩
      · exact s.sep k b z2
      · exact s.sep j b z2
    ol := fun j b e1 => by
      rcases owMv_cases e1 with ⟨z1, z2⟩ | ⟨_, z1, z2⟩
      · exact s.ol k b z2
      · exact s.ol j b z2
    heap := s.heap.weak w }
theorem owMv_nw {k i : Nat} (n1 : Nw ow ow' H) : Nw ow (owMv ow' k i) H := fun j b z => by
  obtain ⟨l, z⟩ := owMv_pw ⟨j, z⟩
  exact n1 l b z
/-- an own list is let go: a thing from now on -/
theorem SR.freeze {xs : List D} {i : Nat} (s : SR K mg F B ow ρ h σ H) (e : ρ[i]? = some (.own xs)) : SR K mg F B (fun j => if j = i then none else ow j) (ρ.set i (.val (.lst xs))) h σ H := by
  have w : ∀ b, Ft F (fun j => if j = i then none else ow j) b → H b ≠ none → Ft F ow b := fun b z _ => z.elim .inl fun ⟨j, z⟩ => .inr ⟨j, by
    have z : (if j = i then none else ow j) = some b := z
    split at z
    · cases z
    · exact z⟩
  have c : ∀ {j b}, (if j = i then none else ow j) = some b → j ≠ i ∧ ow j = some b := fun {j b} z => by
    split at z
    · cases z
    · exact ⟨by assumption, z⟩
  obtain ⟨a, vs, e1, e2, e3, e4⟩ := s.own i xs e
  exact {
    len := by rw [List.length_set]; exact s.len
    val := fun j d q => by
      by_cases hj : i = j
      · subst hj
        rw [List.getElem?_set_self (List.getElem?_eq_some_iff.mp e).1] at q
        cases q
        refine ⟨_, e2, .lst e3 (fun z => ?_) (s.sep i a e1).2 (e4.weak w)⟩
        rcases z with z | ⟨j, z⟩
        · exact (s.sep i a e1).1 z
        · obtain ⟨z1, z2⟩ := c z
          exact z1 (s.inj j i a z2 e1)
      · rw [List.getElem?_set_ne hj] at q
        obtain ⟨u, e5, e6⟩ := s.val j d q
        exact ⟨u, e5, e6.weak w⟩
    own := fun j ys q => by
      by_cases hj : i = j
      · subst hj
        rw [List.getElem?_set_self (List.getElem?_eq_some_iff.mp e).1] at q
        cases q
      · rw [List.getElem?_set_ne hj] at q
        obtain ⟨b, us, f1, f2, f3, f4⟩ := s.own j ys q
        exact ⟨b, us, by rw [if_neg (Ne.symm hj)]; exact f1, f2, f3, f4.weak w⟩
    ft := fun b z => s.ft b (z.elim .inl fun ⟨j, z⟩ => .inr ⟨j, (c z).2⟩)
    inj := fun j l b e5 e6 => s.inj j l b (c e5).2 (c e6).2
    sep := fun j b e5 => s.sep j b (c e5).2
    ol := fun j b e5 => s.ol j b (c e5).2
    heap := s.heap.weak w }
/-- an own list changes -/
theorem SR.upd {xs : List D} {vs : List V} {a : Addr} {i : Nat} {ys : List D} (s : SR K mg F B ow ρ h σ H) (e : ρ[i]? = some (.own ys)) (e1 : ow i = some a) (r : RDs K mg (Ft F ow) B H xs vs) : SR K mg F B ow (ρ.set i (.own xs)) h σ (upd H a (.lst vs)) := by
  obtain ⟨a', us, e1', e2, e3, e4⟩ := s.own i ys e
  rw [e1] at e1'
  cases e1'
  have ex : Ext (fun b => b = a) B B H (L2.upd H a (.lst vs)) := Ext.own
  have fa : Ft F ow a := .inr ⟨i, e1⟩
  have o : Owns (Ft F ow) (fun b => b = a) H := fun b z => ⟨z ▸ fa, us, z ▸ e3⟩
  exact {
    len := by rw [List.length_set]; exact s.len
    val := fun j d q => by
      by_cases hj : i = j
      · subst hj
        rw [List.getElem?_set_self (List.getElem?_eq_some_iff.mp e).1] at q
        cases q
      · rw [List.getElem?_set_ne hj] at q
        obtain ⟨u, e5, e6⟩ := s.val j d q
        exact ⟨u, e5, e6.ext ex s.heap.cells o⟩
    own := fun j zs q => by
      by_cases hj : i = j
      · subst hj
        rw [List.getElem?_set_self (List.getElem?_eq_some_iff.mp e).1] at q
        cases q
        exact ⟨a, vs, e1, e2, upd_same, r.ext ex s.heap.cells o⟩
      · rw [List.getElem?_set_ne hj] at q
        obtain ⟨b, us', f1, f2, f3, f4⟩ := s.own j zs q
        have ne : b ≠ a := fun z => hj (s.inj i j a e1 (z ▸ f1))
        exact ⟨b, us', f1, f2, by rw [upd_ne ne]; exact f3, f4.ext ex s.heap.cells o⟩
    ft := fun b z => ex.dom b (s.ft b z)
    inj := s.inj
    sep := s.sep
    ol := fun j b z => by
      by_cases eb : b = a
      · exact ⟨vs, by rw [eb, upd_same]⟩
      · obtain ⟨ys, q⟩ := s.ol j b z
        exact ⟨ys, by rw [upd_ne eb]; exact q⟩
    heap := s.heap.ownUpd fa e3 }
theorem extPw {a : Addr} {i : Nat} {vs : List V} (e : ow i = some a) : Ext (Pw ow) B B H (upd H a (.lst vs)) := (Ext.own (p := a)).mono fun b z => .inl ⟨i, z ▸ e⟩

/-! ### where a statement ends -/
/-- what a def hands back -/
def RetR (K : PySem.W.Frag) (mg : Str → Option Value) (F : Addr → Prop) (B : Nat → Option Addr) (ow : Nat → Option Addr) (h : LH) (H0 H : Hp) : Rv → V → Prop
  | .v d, v => RD K mg F B H d v ∧ HR K mg F B h H
  | .fr xs, v => ∃ a vs, v = .ref a ∧ (Pw ow a ∨ H0 a = none) ∧ H a = some (.lst vs) ∧ (∀ r, B r ≠ some a) ∧ ¬ F a ∧ RDs K mg (fun b => F b ∨ b = a) B H xs vs ∧ HR K mg (fun b => F b ∨ b = a) B h H
  | .bw _, _ => False
def FlR (K : PySem.W.Frag) (mg : Str → Option Value) (F : Addr → Prop) (B : Nat → Option Addr) (ow : Nat → Option Addr) (H : Hp) (Ds : Ends) : Fl → LH → Prop
  | .nx ρ', h' => ∀ B' H' ow' σ', Ext (Pw ow) B B' H H' → Nw ow ow' H → SR K mg F B' ow' ρ' h' σ' H' → Ds.nx σ' H'
  | .brk ρ', h' => ∀ B' H' ow' σ', Ext (Pw ow) B B' H H' → Nw ow ow' H → SR K mg F B' ow' ρ' h' σ' H' → Ds.bk σ' H'
  | .cont ρ', h' => ∀ B' H' ow' σ', Ext (Pw ow) B B' H H' → Nw ow ow' H → SR K mg F B' ow' ρ' h' σ' H' → Ds.ct σ' H'
  | .ret rv, h' => ∀ B' H' v, Ext (Pw ow) B B' H H' → RetR K mg F B' ow h' H H' rv v → Ds.rt v H'
def EXs (K : PySem.W.Frag) (mg : Str → Option Value) (F : Addr → Prop) (B : Nat → Option Addr) (ow : Nat → Option Addr) (H : Hp) (W : WX) : Str → List (Str × D) → LH → Prop := fun c fs h' =>
  ∀ B' H' σ' C dd vs, Ext (Pw ow) B B' H H' → HR K mg F B' h' H' → mg c = some (.ref C) → H' dd = some (.xd vs) → FR K mg F B' H' fs vs → W (.ref C) (some dd) σ' H'
theorem RetR.shift {rv : Rv} {v : V} {P : Addr → Prop} (n1 : Nw ow ow' H) (x : Ext P B B1 H H1) (r : RetR K mg F B' ow' h H1 H' rv v) : RetR K mg F B' ow h H H' rv v := by
  cases rv with
  | v d => exact r
  | fr xs =>
    obtain ⟨a, vs, e1, e2, e3⟩ := r
    refine ⟨a, vs, e1, ?_, e3⟩
    rcases e2 with ⟨j, z⟩ | z
    · exact n1 j a z
    · exact .inr (not_none x z)
  | bw xs => exact r
theorem FlR.shift {Ds : Ends} {fl : Fl} (n1 : Nw ow ow' H) (x : Ext (Pw ow) B B1 H H1) (r : FlR K mg F B ow H Ds fl h) : FlR K mg F B1 ow' H1 Ds fl h := by
  cases fl with
  | nx ρ' => exact fun B' H' ow2 σ' y n2 s => r B' H' ow2 σ' (Ext.nw n1 x y) (n1.trans x n2) s
  | brk ρ' => exact fun B' H' ow2 σ' y n2 s => r B' H' ow2 σ' (Ext.nw n1 x y) (n1.trans x n2) s
  | cont ρ' => exact fun B' H' ow2 σ' y n2 s => r B' H' ow2 σ' (Ext.nw n1 x y) (n1.trans x n2) s
  | ret rv => exact fun B' H' v y q => r B' H' v (Ext.nw n1 x y) (q.shift n1 x)
theorem EXs.shift {c : Str} {fs : List (Str × D)} (n1 : Nw ow ow' H) (x : Ext (Pw ow) B B1 H H1) (r : EXs K mg F B ow H W c fs h) : EXs K mg F B1 ow' H1 W c fs h :=
  fun B' H' σ' C dd vs y hr e1 e2 e3 => r B' H' σ' C dd vs (Ext.nw n1 x y) hr e1 e2 e3
theorem EXs.ex {c : Str} {fs : List (Str × D)} {σ : L2.St} (r : EXs K mg F B ow H W c fs h) : EX K mg (Ft F ow) B H (fun C d H' => W C d σ H') c fs h :=
  fun B' H' C dd vs y hr e1 e2 e3 => r B' H' σ C dd vs (y.mono fun _ z => z.elim) (hr.weak fun _ z _ => .inl z) e1 e2 ⟨e3.1, e3.2.weak fun _ z _ => .inl z⟩
/-- a statement's reading -/
def tSt (K : PySem.W.Frag) (mg : Str → Option Value) (W : WX) (m : Env → M Fl) : TS := fun Ds σ H => ∃ F B ow ρ h, SR K mg F B ow ρ h σ H ∧ (m ρ h).post (FlR K mg F B ow H Ds) (EXs K mg F B ow H W)
/-- one step of a statement -/
theorem sStep {α β : Type} {m : Env → M α} {P : (Addr → Prop) → (Nat → Option Addr) → (Nat → Option Addr) → LH → Hp → Hp → α → V → Prop} {k : α → M β} {Q : β → LH → Prop} {R : VK} {Y : Str → List (Str × D) → LH → Prop} (s : SR K mg F B ow ρ h σ H)
    (p : (bnd (m ρ) k h).post Q Y) (hY : ∀ c fs h', Y c fs h' → EX K mg (Ft F ow) B H (fun C d H' => W C d σ H') c fs h')
    (go : ∀ a h1 B1 H1 v, Ext E0 B B1 H H1 → SR K mg F B1 ow ρ h1 σ H1 → P F B1 ow h1 H H1 a v → (k a h1).post Q Y → R v H1) : tRd K mg W m P σ H R :=
  ⟨F, B, ow, ρ, h, s, post_mono (post_bnd.1 p) (fun a h1 q B1 H1 v x hr r => go a h1 B1 H1 v x (s.ext x hr) r q) hY⟩
end
end Z
end

section
namespace Z
open PySem PySem.Spec PyProof.Rows L2

/-! ### a, *b = a tuple -/
section
variable {prog : Program} {w : World} {A : Around} {E : Value → Shared → Prop} {s : Shared}
theorem walks_tup {it tu : Addr} {items : Array Value} (hne : tu ≠ it) (i0 : Nat) (hi0 : i0 ≤ items.size) (hh : A.handled = none) : WalksS prog w A it [it, tu] [it] (fun a b => b = a) (items.size - i0) (fun j v => items[i0 + j]? = some v)
    (fun j s => IsTupIter s.heap it tu (i0 + j) ∧ IsTup s.heap tu items) where
  sub := fun b hb => by
    cases hb with
    | head => exact List.mem_cons_self
    | tail _ z => cases z
  grefl := fun _ => rfl
  gtrans := fun a b c h1 h2 => h2.trans h1
  frame := fun j s h' tk st _ k => by
    obtain ⟨⟨o, e, r⟩, ⟨o2, e2, r2⟩⟩ := st
    exact ⟨⟨o, k it (by simp) o e, r⟩, ⟨o2, k tu (by simp) o2 e2, r2⟩⟩
  item := fun j s Q E hj st hQ => by
    have hlt : i0 + j < items.size := by omega
    refine next_tuple_item st.1 st.2 (x := items[i0 + j]) (by simp [hlt]) fun h1 hit1 hs1 => ?_
    refine hQ _ _ (by simp [hlt]) ⟨hit1, st.2.extBut hs1.extBut hne⟩ ⟨fun b o hb e => ?_, rfl, rfl, rfl, Nat.le_refl _⟩
    exact (hs1.2 b (fun z => hb (by simp [z]))).trans e
  done := fun s Q E st hQ => by
    refine next_tuple_end hh st.1 st.2 (by simp; omega) fun h1 he1 => hQ _ ⟨fun b o hb e => he1 b o (fun z => hb (by simp [z])) e, rfl, rfl, rfl, Nat.le_refl _⟩
  self := fun j s Q E st q => wpAny_pyIter_tupleiter st.1 q
theorem collect_tup {it tu : Addr} {items : Array Value} {Q : List Value → Shared → Prop} (hne : tu ≠ it) (i0 : Nat) (hi0 : i0 ≤ items.size) (hh : A.handled = none) (hz : items.size ≤ sizeLine) (hit : IsTupIter s.heap it tu i0) (ht : IsTup s.heap tu items)
    (hQ : ∀ (h' : Heap) tk, s.toks ≤ tk → (∀ b o, b ≠ it → s.heap.get? b = some o → h'.get? b = some o) → Q (items.toList.drop i0) { s with heap := h', toks := tk }) : wpAny (model prog w) A (collect (.ref it)) Q E s := by
  refine wpAny_collect_iter (T := "tuple_iterator") (.inr (.inr (.inr rfl))) (walks_tup (A := A.in1) hne i0 hi0 hh) (fun i s st => Heap.IsTupleIter.typeIs st.1) ⟨hit, ht⟩ (fun b hb => ?_) (by simp) (fun s' acc hm hacc => ?_) (by omega)
  · have hb : b = it ∨ b = tu := by simpa using hb
    rcases hb with rfl | rfl
    · obtain ⟨o, e, _⟩ := hit
      exact Heap.lt_size e
    · obtain ⟨o, e, _⟩ := ht
      exact Heap.lt_size e
  · have e1 : acc.toList = items.toList.drop i0 := by
      apply List.ext_getElem?
      intro j
      rw [List.getElem?_drop, Array.getElem?_toList, Array.getElem?_toList]
      cases e : acc[j]? with
      | some v => exact (hacc.2 j v e).symm
      | none =>
        have hj : acc.size ≤ j := by simpa using e
        rw [hacc.1] at hj
        have : items.size ≤ i0 + j := by omega
        simp [this]
    rw [e1]
    obtain ⟨hp, gs, dr, os, tk⟩ := hm
    have e2 : s' = { s with heap := s'.heap, toks := s'.toks } := by
      cases s'
      cases gs
      cases dr
      cases os
      rfl
    rw [e2]
    exact hQ s'.heap s'.toks tk fun b o hb e => hp b o (fun z => by
      have : b = it := by simpa using z
      exact hb this) e
theorem unpack_star {tu : Addr} {items : Array Value} {Q : List Value → Shared → Prop} (m : Nat) (hm : m ≤ items.size) (hh : A.handled = none) (ht : IsTup s.heap tu items) (hz : items.size ≤ sizeLine)
    (hQ : ∀ (h' : Heap) tk, s.toks ≤ tk → (∀ b o, s.heap.get? b = some o → h'.get? b = some o) → Q (items.toList.take m ++ [.ref h'.objs.size]) { s with heap := h'.push { cls := .type "list", data := .seq (items.toList.drop m).toArray }, toks := tk }) :
    wpAny (model prog w) A (unpackItems (.ref tu) (m + 1) (some m)) Q E s := by
  have hlt : tu < s.heap.objs.size := by obtain ⟨o, ho, _⟩ := ht; exact Heap.lt_size ho
  have hne : tu ≠ s.heap.objs.size := Nat.ne_of_lt hlt
  unfold unpackItems
  refine wpAny_bind ?_
  · unfold notIterableAtAll
    refine wpAny_bind (wpAny_specialOf ht.typeIs slot_tuple_iter.lookup ?_)
    refine wpAny_pure ?_
    simp only [Bool.false_eq_true, if_false]
    refine wpAny_bind (wpAny_holding (iter_tuple ht ?_))
    refine wpAny_bind (wpAny_holding (draw_tuple hne m 0 _ _ ⟨_, Heap.get?_push_size _ rfl, rfl, rfl⟩ (ht.push _) (by omega) fun h1 hit1 hs1 => ?_))
    have ht1 : IsTup h1 tu items := (ht.push _).extBut hs1.extBut hne
    rw [if_neg (by simp; omega)]
    rw [Nat.zero_add] at hit1
    refine wpAny_bind (wpAny_holding (collect_tup hne m hm hh hz hit1 ht1 fun h2 tk htk hk => ?_))
    simp only [Nat.add_sub_cancel, Nat.sub_self]
    rw [if_neg (by simp)]
    have e3 : (items.toList.drop m).take ((items.toList.drop m).length - 0) = items.toList.drop m := by
      rw [Nat.sub_zero]
      exact List.take_length
    have e4 : (items.toList.drop m).drop ((items.toList.drop m).length - 0) = [] := by
      rw [Nat.sub_zero]
      exact List.drop_length
    rw [e3, e4]
    refine wpAny_bind (wpAny_newObj_type ?_ ?_)
    rotate_left
    · show (items.toList.drop m).toArray.size ≤ sizeLine
      rw [List.size_toArray, List.length_drop, Array.length_toList]
      omega
    refine wpAny_pure ?_
    rw [List.append_nil, List.drop_zero]
    have kp : ∀ b o, s.heap.get? b = some o → h2.get? b = some o := fun b o e => by
      have hb : b ≠ s.heap.objs.size := Nat.ne_of_lt (Heap.lt_size e)
      exact hk b o hb ((hs1.2 b hb).trans (Heap.get?_push_of_some _ e))
    exact hQ h2 tk htk kp
end
/-- the first m in names, the rest a new list -/
def gStar (K : PySem.W.Frag) (m : Nat) (t : TGs) : TG := fun v σ H Q => ∃ a xs, v = .ref a ∧ SqT K H a xs ∧ m ≤ xs.length ∧ ∀ p, H p = none → t (xs.take m ++ [.ref p]) σ (upd H p (.lst (xs.drop m))) Q
theorem pg_star {X : L2.Cx} {es es' : List Expr} {k m : Nat} {tg : TGs} {pos : Pos} (hc : X.calm = true) (h : PGs X es' tg)
    (he : (assignEach es X.env).map (·.2) = (assignEach es' X.env).map (·.2)) (hn : (assignEach es X.env).length = m + 1) (hst : (assignEach es X.env).findIdx? (·.1) = some m) : PG X (.Tuple es k pos) (gStar X.K m tg) := by
  refine ⟨fun pins s σ H v u Q I r hw => ?_⟩
  obtain ⟨a, xs, e1, hq, hl, hw⟩ := hw
  subst e1
  cases r
  obtain ⟨its, rv, pl, hz⟩ := I.tuple hq
  have hlen := rv.length
  rw [PyProof.Rows.assign_Tuple]
  refine wpAny_bind (wpAny_standAt ?_)
  unfold unpack
  rw [hn, hst, he]
  refine wpAny_bind (wpAny_holding (unpack_star (items := its.toArray) m (by simp; omega) (I.ok.hd hc) pl (by simp; omega) fun h' tk htk kp => ?_))
  have I1 : Inv X pins σ H { s with heap := h', toks := tk } := I.kept (t' := tk) kp
  have n1 : H h'.objs.size = none := I1.hok.fresh (Nat.le_refl _)
  have I2 : Inv X pins σ (upd H h'.objs.size (.lst (xs.drop m))) { s with heap := h'.push { cls := .type "list", data := .seq (its.drop m).toArray }, toks := tk } :=
    I1.laid (t' := tk) (fun b u e => Heap.get?_push_of_some _ e) (Nat.le_refl _) ⟨by rw [List.length_drop]; omega, _, 0, rv.drop m, Heap.get?_push_size _ rfl⟩
  exact h.run pins _ σ _ _ _ Q I2 (by simpa using (rv.take m).append (.cons (show RelV (.ref h'.objs.size) _ from rfl) .nil)) (hw _ n1)
end Z
end

section
namespace Z
open PySem PySem.Spec PyProof.Rows L2

section
variable {t : Tab} {wf : Nat} {N : List Str} {n : Nat} {X : L2.Cx} {sc : Scope} {W : WX} {K : PySem.W.Frag} {mg : Str → Option Value} {F F' : Addr → Prop} {B B' B1 : Nat → Option Addr} {H H' H1 : Hp} {ow ow' : Nat → Option Addr} {ρ ρ' : Env} {h h' h1 : LH} {σ σ' : L2.St} {Ds : Ends}

theorem Ext.pw (x : Ext E0 B B1 H H1) : Ext (Pw ow) B B1 H H1 := x.mono fun _ z => z.elim
theorem EXs.at {c : Str} {fs : List (Str × D)} {σ : L2.St} (x : Ext E0 B B1 H H1) (r : EXs K mg F B ow H W c fs h) : EX K mg (Ft F ow) B1 H1 (fun C d H' => W C d σ H') c fs h := (r.shift Nw.rfl' x.pw).ex
/-! ### names, targets -/
theorem asg_w {tg : Tg} {e : E} (q : tSt X.K X.mg W (denS (cxt t wf n) (.asg tg e)) Ds σ H) : tAsg (tR X.K X.mg (cxt t wf n) W e) (gT X.K tg) Ds σ H := by
  obtain ⟨F, B, ow, ρ, h, s, q⟩ := q
  unfold denS at q
  refine sStep s q (fun _ _ _ z => z.ex) fun rv h1 B1 H1 v x1 s1 r1 p1 => ?_
  obtain ⟨d, e1, p1⟩ := post_opt (post_bnd.1 p1)
  obtain ⟨ρ', e2, p1⟩ := post_opt (post_bnd.1 p1)
  exact gT_ok (p := fun _ => True) (P := fun _ => True) (fun _ _ _ _ _ => trivial) tg (tgIn_all tg) trivial s1 (r1.dg e1) e2 fun σ' _ s2 => p1 B1 H1 ow σ' x1.pw Nw.rfl' s2
theorem asgO_w {i : Nat} {e : E} (q : tSt X.K X.mg W (denS (cxt t wf n) (.asgO i e)) Ds σ H) : tAsg (tR X.K X.mg (cxt t wf n) W e) (gName i) Ds σ H := by
  obtain ⟨F, B, ow, ρ, h, s, q⟩ := q
  unfold denS at q
  refine sStep s q (fun _ _ _ z => z.ex) fun rv h1 B1 H1 v x1 s1 r1 p1 => ?_
  split at p1
  · next xs =>
    obtain ⟨a, vs, rfl, eN, eH, r, s2⟩ := s.take (k := ρ.length) x1 r1 (Nat.le_refl _)
    exact p1 B1 H1 _ _ x1.pw (owMv_nw (owTake a eN)) (s2.move (i := i) (Nat.le_refl _) owAt_self eH r)
  · exact p1.elim
mutual
theorem RD.reb (w : ∀ b, F' b → F b) (rf : ∀ r b, B r = some b → B' r = some b) (nw : ∀ r b, B' r = some b → B r = some b ∨ F b) : ∀ {d : D} {v : V}, RD K mg F B H d v → RD K mg F' B' H d v
  | _, _, .non => .non
  | _, _, .bl b => .bl b
  | _, _, .int i => .int i
  | _, _, .str s o => .str s o
  | _, _, .tup h hs => .tup h (RDs.reb w rf nw hs)
  | _, _, .scr h => by
    refine .scr ?_
    rcases h with ⟨h, f, nr⟩ | h
    · exact .inl ⟨h, fun z => f (w _ z), fun r z => (nw r _ z).elim (nr r) f⟩
    · exact .inr h
  | _, _, .lst h f nr hs => .lst h (fun z => f (w _ z)) (fun r z => (nw r _ z).elim (nr r) f) (RDs.reb w rf nw hs)
  | _, _, .ref e => .ref (rf _ _ e)
  | _, _, .glo e => .glo e
  | _, _, .ty n => .ty n
theorem RDs.reb (w : ∀ b, F' b → F b) (rf : ∀ r b, B r = some b → B' r = some b) (nw : ∀ r b, B' r = some b → B r = some b ∨ F b) : ∀ {d : List D} {v : List V}, RDs K mg F B H d v → RDs K mg F' B' H d v
  | _, _, .nil => .nil
  | _, _, .cons a b => .cons (RD.reb w rf nw a) (RDs.reb w rf nw b)
end
theorem asgC_w {i : Nat} {e : E} (q : tSt X.K X.mg W (denS (cxt t wf n) (.asgC i e)) Ds σ H) : tAsg (tR X.K X.mg (cxt t wf n) W e) (gName i) Ds σ H := by
  obtain ⟨F, B, ow, ρ, h, s, q⟩ := q
  unfold denS at q
  refine sStep s q (fun _ _ _ z => z.ex) fun rv h1 B1 H1 v x1 s1 r1 p1 => ?_
  split at p1
  · next xs =>
    have p1 : FlR X.K X.mg F B ow H Ds (.nx (ρ.set i (.val (.ref h1.length)))) (h1 ++ [.lst xs]) := p1
    obtain ⟨a, vs, rfl, e2, e3, nr, nf, no, q, hr⟩ := r1
    obtain ⟨B2, hB⟩ : ∃ B2 : Nat → Option Addr, B2 = fun r => if r = h1.length then some a else B1 r := ⟨_, rfl⟩
    have b0 : B2 h1.length = some a := by rw [hB]; exact if_pos rfl
    have b1 : ∀ r b, B1 r = some b → B2 r = some b := fun r b z => by
      rw [hB]
      have := hr.lt r b z
      show (if r = h1.length then some a else B1 r) = some b
      rw [if_neg (by omega)]
      exact z
    have b2 : ∀ r b, B2 r = some b → (r = h1.length ∧ b = a) ∨ B1 r = some b := fun r b z => by
      rw [hB] at z
      have z : (if r = h1.length then some a else B1 r) = some b := z
      split at z
      · next y => exact .inl ⟨y, (Option.some.inj z).symm⟩
      · exact .inr z
    have nFa : ¬ Ft F ow a := fun z => z.elim nf fun ⟨j, y⟩ => no j y
    have x2 : Ext E0 B B2 H H1 := ⟨x1.keep, fun r b z => b1 r b (x1.refs r b z), fun r b z => by
      rcases b2 r b z with ⟨_, y⟩ | y
      · exact .inr (by rw [y]; exact e2)
      · exact x1.news r b y, x1.dom⟩
    have nw : ∀ r b, B2 r = some b → B1 r = some b ∨ (Ft F ow b ∨ b = a) := fun r b z => (b2 r b z).elim (fun y => .inr (.inr y.2)) .inl
    have hr2 : HR X.K X.mg (Ft F ow) B2 (h1 ++ [.lst xs]) H1 := by
      refine ⟨fun r o z => ?_, fun r b z => ?_, fun r r' b z z' => ?_, fun r b z => ?_⟩
      · by_cases hl : r < h1.length
        · rw [List.getElem?_append_left hl] at z
          obtain ⟨b, y1, y2⟩ := hr.at_ r o z
          refine ⟨b, b1 r b y1, ?_⟩
          cases o with
          | lst ys =>
            obtain ⟨us, y3, y4⟩ := y2
            exact ⟨us, y3, y4.reb (fun _ => .inl) b1 nw⟩
          | ins _ _ => exact y2.elim
        · rw [List.getElem?_append_right (by omega)] at z
          have er : r = h1.length := by
            have := (List.getElem?_eq_some_iff.mp z).1
            simp at this
            omega
          subst er
          simp at z
          subst z
          exact ⟨a, b0, vs, e3, q.reb (fun _ => .inl) b1 nw⟩
      · rw [List.length_append, List.length_singleton]
        rcases b2 r b z with ⟨y, _⟩ | y
        · omega
        · have := hr.lt r b y
          omega
      · rcases b2 r b z with ⟨y1, y2⟩ | y <;> rcases b2 r' b z' with ⟨y3, y4⟩ | y'
        · rw [y1, y3]
        · exact absurd (y2 ▸ y') (nr r')
        · exact absurd (y4 ▸ y) (nr r)
        · exact hr.inj r r' b y y'
      · rcases b2 r b z with ⟨_, y⟩ | y
        · rw [y]; exact nFa
        · exact fun z' => hr.nf r b y (.inl z')
    exact p1 B2 H1 ow _ x2.pw Nw.rfl' ((s.ext x2 hr2).setVal i (.ref b0))
  · exact p1.elim
theorem star_w {l : Tgs} {e : E} (q : tSt X.K X.mg W (denS (cxt t wf n) (.star l e)) Ds σ H) : tAsg (tD X.K X.mg (cxt t wf n) W e) (gStar X.K (l.len - 1) (gTs X.K l)) Ds σ H := by
  obtain ⟨F, B, ow, ρ, h, s, q⟩ := q
  unfold denS at q
  rw [← bnd_assoc] at q
  show tD X.K X.mg (cxt t wf n) W e σ H fun x H1 => gStar X.K (l.len - 1) (gTs X.K l) x σ H1 Ds.nx
  refine sStep s q (fun _ _ _ z => z.ex) fun d h1 B1 H1 v x1 s1 r1 p1 => ?_
  cases r1 with
  | @tup ds a vs g1 g2 =>
    have p1 : ((if l.len ≤ ds.length + 1 then bnd (opt (bindTgs l (ds.take (l.len - 1) ++ [.lst (ds.drop (l.len - 1))]) ρ)) fun ρ' => pur (.nx ρ') else bad : M Fl) h1).post _ _ := p1
    split at p1
    · next hl =>
      obtain ⟨ρ', e2, p1⟩ := post_opt (post_bnd.1 p1)
      have hlen := g2.length
      refine ⟨a, vs, rfl, g1, by omega, fun p np => ?_⟩
      have s2 := s1.ext (Ext.new (o := .lst (vs.drop (l.len - 1))) np) (s1.heap.new np)
      have nF : ¬ Ft F ow p := fun z => s1.ft p z np
      have nB : ∀ r, B1 r ≠ some p := fun r z => by
        obtain ⟨ys, q⟩ := s1.heap.cells r p z
        rw [np] at q
        cases q
      have r2 := g2.ext (Ext.new (o := .lst (vs.drop (l.len - 1))) np) s1.heap.cells
      exact gTs_ok (p := fun _ => True) (P := fun _ => True) (fun _ _ _ _ _ => trivial) l (tgsIn_all l) trivial s2 ((r2.take _).append (.cons (.lst upd_same nF nB (r2.drop _)) .nil)) e2
        fun σ' _ s3 => p1 B1 _ ow σ' (x1.seq (Ext.new np)).pw Nw.rfl' s3
    · exact p1.elim
  | _ => exact p1.elim
/-! ### name = e -/
theorem sw_eq {elt : Expr} {gs : List Comprehension} {scope : Scope} {pos py : Pos} {y : Str} {l : Nat} {env : PySem.Env} (hk : env.scope.kind = .function) :
    swapsWith (.ListComp elt gs scope pos) (some (.Name y py)) l env = pure (env.kindOf y == some .local && py.line == pos.line && !(scope.names.any fun (n, k) => n == y && (k == .local || k == .cell))) := by
  have hb : env.blockKind = .function := by unfold Env.blockKind; rw [hk]; rfl
  unfold swapsWith
  simp only [hb, Expr.pos]
  rfl
theorem ck_comp {e : E} {el : Expr} {gs : List Comprehension} {scope : Scope} {p : Pos} (ok : XOk t wf N n X sc W) (h : ckE t N sc e (.ListComp el gs scope p) = true) :
    ∃ it tg ifs elt ws tg' itr cs, e = .comp it tg ifs elt ws ∧ gs = [⟨tg', itr, cs, 0⟩] ∧ BlkP t wf N n X sc W it tg ifs elt ws el tg' itr cs scope := by
  cases e with
  | comp it tg ifs elt ws =>
    unfold ckE at h
    split at h <;> first | contradiction | skip
    rename_i h0 heq
    cases h0
    cases heq
    obtain ⟨h1, h6⟩ := and2 h
    obtain ⟨h1, h5⟩ := and2 h1
    obtain ⟨h1, h4⟩ := and2 h1
    obtain ⟨h1, h3⟩ := and2 h1
    obtain ⟨h1, h2⟩ := and2 h1
    exact ⟨_, _, _, _, _, _, _, _, rfl, rfl, blk_parts ok (sIt it ok _ _ h1) h2 h3 h4 (fun X' ok' => sTs1 ifs ok' _ h5) fun X' ok' => sE elt ok' _ h6⟩
  | _ =>
    unfold ckE at h
    first | contradiction | (split at h <;> first | contradiction | (rename_i heq; cases heq))
end
end Z
end

section
namespace Z
open PySem PySem.Spec PyProof.Rows L2

section
variable {t : Tab} {wf : Nat} {N : List Str} {n : Nat} {X : L2.Cx} {sc : Scope} {W : WX} {K : PySem.W.Frag} {mg : Str → Option Value} {F F' : Addr → Prop} {B B' B1 : Nat → Option Addr} {H H' H1 : Hp} {ow ow' : Nat → Option Addr} {ρ ρ' : Env} {h h' h1 : LH} {σ σ' : L2.St} {Ds : Ends}

theorem ps_nm (ok : XOk t wf N n X sc W) (st : Stores X sc none) {i : Nat} {x : Str} {py pos : Pos} (hi : atN N i x = true) (hl : locB sc x = true) {e : E} {v : Expr} (h : ckE t N sc e v = true) : PS X (.Assign [.Name x py] v pos) (tAsg (tR X.K X.mg (cxt t wf n) W e) (gName i)) := by
  have hN : X.N.Nodup := by rw [ok.hN]; exact ok.nd
  have hi' : X.N[i]? = some x := by rw [ok.hN]; exact of_decide_eq_true hi
  obtain ⟨l1, l2⟩ := st x hl
  have he := sE e ok v h
  cases v with
  | ListComp el gs scope p =>
    obtain ⟨it, tg, ifs, elt, ws, tg', itr, cs, rfl, rfl, b⟩ := ck_comp ok h
    cases sw : (X.env.kindOf x == some .local && py.line == p.line && !(scope.names.any fun (n, k) => n == x && (k == .local || k == .cell))) with
    | true =>
      obtain ⟨h1, h3⟩ := and2 sw
      obtain ⟨h1, h2⟩ := and2 h1
      have hloc : X.env.scope.names.lookup x = some .local := by
        have : X.env.kindOf x = some .local := by simpa using h1
        exact this
      exact psW (ps_setLc ok.calm hN hi' hloc ((sw_eq (by rw [ok.hs]; exact ok.kd)).trans (by rw [sw])) b.hi b.ok b.hg b.ht b.he b.hs) fun D σ H q => comp_w ok b.tg _ _ _ q
    | false => exact ps_set hN hi' l1 he (hs := (sw_eq (by rw [ok.hs]; exact ok.kd)).trans (by rw [sw])) (hf := l2)
  | SetComp _ _ _ _ => cases e <;> (unfold ckE at h; first | contradiction | (split at h <;> contradiction))
  | DictComp _ _ _ _ _ => cases e <;> (unfold ckE at h; first | contradiction | (split at h <;> contradiction))
  | _ => exact ps_set hN hi' l1 he (hs := rfl) (hf := l2)

/-! ### tuples of targets -/
def isComp : Expr → Bool
  | .ListComp _ _ _ _ => true
  | .SetComp _ _ _ _ => true
  | .DictComp _ _ _ _ _ => true
  | _ => false
/-- the names that the right hand side is stored in from the right -/
def swN (sc : Scope) : Expr → Expr → Option (List Str)
  | .Tuple ts _ _, .Tuple vs _ _ =>
    if !(ts.length == 2 || ts.length == 3) || vs.length != ts.length then none
    else if vs.any fun | .Starred .. => true | _ => false then none
    else
      let line := (ts.head?.map (·.pos.line)).getD 0
      let names := ts.filterMap fun
        | .Name id pos => if sc.names.lookup id == some .local && pos.line == line then some id else none
        | _ => none
      if names.length != ts.length || names.eraseDups.length != names.length then none
      else if vs.all (foldedForSure 8) then none
      else some names
  | _, _ => none
/-- the stores' order is told -/
def swOk : Expr → Bool
  | .Tuple vs _ _ => vs.all (foldedForSure 8) || !vs.all (constantsAlone 8)
  | _ => true
theorem swN_eq {tg v : Expr} {env : PySem.Env} (hs : env.scope = sc) (kd : sc.kind = .function) (hl : ∀ es p, tg ≠ .List es p) (ho : swOk v = true) : swappedStores [tg] v env = pure (swN sc tg v) := by
  have hb : env.blockKind = .function := by unfold Env.blockKind; rw [hs, kd]; rfl
  subst hs
  cases tg with
  | Tuple ts k p =>
    cases v with
    | Tuple vs k2 p2 =>
      have ho : (vs.all (foldedForSure 8) || !vs.all (constantsAlone 8)) = true := ho
      show (if (!(ts.length == 2 || ts.length == 3) || vs.length != ts.length || env.blockKind != .function) = true then (pure none : Sem (Option (List Str))) else _) = _
      rw [hb]
      have e0 : (!(ts.length == 2 || ts.length == 3) || vs.length != ts.length || (ScopeKind.function != ScopeKind.function)) = (!(ts.length == 2 || ts.length == 3) || vs.length != ts.length) := by
        rw [show (ScopeKind.function != ScopeKind.function) = false from rfl, Bool.or_false]
      rw [e0]
      unfold swN
      dsimp only
      split
      · rfl
      · split
        · next h2 => exact (congrArg pure (if_pos h2)).symm
        · next h2 =>
          refine Eq.trans ?_ (congrArg pure (if_neg h2)).symm
          split
          · next h3 => exact (congrArg pure (if_pos h3)).symm
          · next h3 =>
            refine Eq.trans ?_ (congrArg pure (if_neg h3)).symm
            cases h4 : vs.all (foldedForSure 8) with
            | true => rfl
            | false =>
              rw [h4] at ho
              have h5 : vs.all (constantsAlone 8) = false := by simpa using ho
              rw [h5]
              rfl
    | _ => rfl
  | List es p => exact absurd rfl (hl es p)
  | _ => cases v <;> rfl
end
end Z
end

section
namespace Z
open PySem PySem.Spec PyProof.Rows L2

section
variable {t : Tab} {wf : Nat} {N : List Str} {n : Nat} {X : L2.Cx} {sc : Scope} {W : WX} {K : PySem.W.Frag} {mg : Str → Option Value} {F F' : Addr → Prop} {B B' B1 : Nat → Option Addr} {H H' H1 : Hp} {ow ow' : Nat → Option Addr} {ρ ρ' : Env} {h h' h1 : LH} {σ σ' : L2.St} {Ds : Ends}

/-! ### a, b = e, f -/
/-- values that wait for their names -/
def PSl (K : PySem.W.Frag) (mg : Str → Option Value) (F : Addr → Prop) (B : Nat → Option Addr) (ow : Nat → Option Addr) (H : Hp) : Nat → List Slot → List V → Prop
  | _, [], vs => vs = []
  | k, .val d :: sl, vs => ∃ v r, vs = v :: r ∧ RD K mg (Ft F ow) B H d v ∧ PSl K mg F B ow H (k + 1) sl r
  | k, .own xs :: sl, vs => ∃ a us r, vs = .ref a :: r ∧ ow k = some a ∧ H a = some (.lst us) ∧ RDs K mg (Ft F ow) B H xs us ∧ PSl K mg F B ow H (k + 1) sl r
  | _, .emp :: _, _ => False
def tPl (K : PySem.W.Frag) (mg : Str → Option Value) (W : WX) (c : Cx) (k : Nat) (l : List (Bool × Nat)) (es : Es) : TA := fun σ H Q => ∃ F B ow ρ h, SR K mg F B ow ρ h σ H ∧ ρ.length ≤ k ∧
  (denPar c l es ρ h).post (fun sl h' => ∀ B' H' ow' vs, Ext E0 B B' H H' → Nw ow ow' H → (∀ j, j < k → ow' j = ow j) → SR K mg F B' ow' ρ h' σ H' → PSl K mg F B' ow' H' k sl vs → Q vs H') (EXs K mg F B ow H W)
theorem a_pl : ∀ {es : Es} {as : List Expr}, PEs X (cxt t wf n) W es as → ∀ (k : Nat) (l : List (Bool × Nat)), PA X as (tPl X.K X.mg W (cxt t wf n) k l es) := by
  intro es as p
  induction p with
  | nil =>
    intro k l
    refine paW pa_nil fun σ H Q ⟨F, B, ow, ρ, h, s, hk, q⟩ => ?_
    cases l with
    | nil => exact q B H ow [] Ext.rfl' Nw.rfl' (fun _ _ => rfl) s rfl
    | cons b l =>
      obtain ⟨b, i⟩ := b
      cases b <;> exact q.elim
  | @cons e es a as h1 h2 p ih =>
    intro k l
    cases l with
    | nil =>
      refine ⟨fun pos pins s σ H Q I ⟨F, B, ow, ρ, h, s', hk, q⟩ => ?_⟩
      exact q.elim
    | cons b l =>
      obtain ⟨b, i⟩ := b
      refine paW (pa_cons h2 (ih (k + 1) l) (star_cons h1)) fun σ H Q ⟨F, B, ow, ρ, h, s, hk, q⟩ => ?_
      cases b with
      | true =>
        unfold denPar at q
        refine sStep s q (fun _ _ _ z => z.ex) fun rv h1 B1 H1 v x1 s1 r1 p1 => ?_
        split at p1
        · next xs =>
          obtain ⟨a, vs, rfl, eN, eH, r, s2⟩ := s.take (k := k) x1 r1 hk
          refine ⟨F, B1, owAt ow k a, ρ, h1, s2, Nat.le_succ_of_le hk, post_mono (post_bnd.1 p1) (fun sl h2 q2 B2 H2 ow2 us x2 n2 e2 s3 ps => ?_) fun _ _ _ z => z.shift (owTake a eN) x1.pw⟩
          have ek : ow2 k = some a := (e2 k (Nat.lt_succ_self k)).trans owAt_self
          refine q2 B2 H2 ow2 _ (x1.seq x2) ((owTake a eN).trans x1 n2) (fun j hj => (e2 j (Nat.lt_succ_of_lt hj)).trans (owAt_ne (Nat.ne_of_lt hj))) s3 ⟨a, vs, us, rfl, ek, x2.keep a _ eH (fun z => z) (s2.sep k a owAt_self).2, ?_, ps⟩
          exact (r.weak fun b z ne => z.elim .inl fun ⟨j, z⟩ => (n2 j b z).elim .inr fun z => absurd z ne).ext x2 s2.heap.cells
        · exact p1.elim
      | false =>
        unfold denPar at q
        refine sStep s q (fun _ _ _ z => z.ex) fun rv h1 B1 H1 v x1 s1 r1 p1 => ?_
        obtain ⟨d, e1, p1⟩ := post_opt (post_bnd.1 p1)
        have rd := r1.dg e1
        refine ⟨F, B1, ow, ρ, h1, s1, Nat.le_succ_of_le hk, post_mono (post_bnd.1 p1) (fun sl h2 q2 B2 H2 ow2 us x2 n2 e2 s3 ps => ?_) fun _ _ _ z => z.shift Nw.rfl' x1.pw⟩
        refine q2 B2 H2 ow2 _ (x1.seq x2) (fun j b z => ((n2 j b z)).elim .inl fun z => .inr (not_none x1 z)) (fun j hj => e2 j (Nat.lt_succ_of_lt hj)) s3 ⟨v, us, rfl, ?_, ps⟩
        exact (rd.weak fun b z ne => z.elim .inl fun ⟨j, z⟩ => (n2 j b z).elim .inr fun z => absurd z ne).ext x2 s1.heap.cells
/-- the slots, stored -/
def setV (σ : L2.St) : List (Bool × Nat) → List V → L2.St
  | (_, i) :: l, v :: r => setV (σ.set i (some v)) l r
  | _, _ => σ
theorem PSl.weak : ∀ {sl : List Slot} {k : Nat} {vs : List V}, (∀ b, Ft F ow' b → Ft F ow b) → (∀ j, k ≤ j → ow' j = ow j) → PSl K mg F B ow H k sl vs → PSl K mg F B ow' H k sl vs
  | [], _, _, _, _, p => p
  | .val d :: sl, k, vs, w, e, ⟨v, r, e1, e2, e3⟩ => ⟨v, r, e1, e2.weak fun b z _ => w b z, PSl.weak w (fun j hj => e j (Nat.le_of_succ_le hj)) e3⟩
  | .own xs :: sl, k, vs, w, e, ⟨a, us, r, e1, e2, e3, e4, e5⟩ => ⟨a, us, r, e1, (e k (Nat.le_refl _)).trans e2, e3, e4.weak fun b z _ => w b z, PSl.weak w (fun j hj => e j (Nat.le_of_succ_le hj)) e5⟩
  | .emp :: _, _, _, _, _, p => p.elim
theorem set_all : ∀ {l : List (Bool × Nat)} {sl : List Slot} {k : Nat} {vs : List V} {ow : Nat → Option Addr} {ρ : Env} {σ : L2.St}, SR K mg F B ow ρ h σ H → ρ.length ≤ k → (∀ p ∈ l, p.2 < k) → PSl K mg F B ow H k sl vs →
    ∃ ow', SR K mg F B ow' (setAll ρ l sl) h (setV σ l vs) H ∧ ∀ b, Pw ow' b → Pw ow b
  | [], _, k, vs, ow, ρ, σ, s, hk, hl, p => ⟨ow, by unfold setAll setV; exact s, fun _ z => z⟩
  | (b, i) :: l, [], k, vs, ow, ρ, σ, s, hk, hl, p => by
    cases (show vs = [] from p)
    exact ⟨ow, by unfold setAll setV; exact s, fun _ z => z⟩
  | (b, i) :: l, .val d :: sl, k, vs, ow, ρ, σ, s, hk, hl, p => by
    obtain ⟨v, r, rfl, e2, e3⟩ := p
    obtain ⟨ow', s', w⟩ := set_all (l := l) (sl := sl) (s.setVal i e2) (by rw [List.length_set]; exact Nat.le_succ_of_le hk) (fun p hp => Nat.lt_succ_of_lt (hl p (List.mem_cons_of_mem _ hp))) e3
    exact ⟨ow', s', w⟩
  | (b, i) :: l, .own xs :: sl, k, vs, ow, ρ, σ, s, hk, hl, p => by
    obtain ⟨a, us, r, rfl, e2, e3, e4, e5⟩ := p
    have hi := hl (b, i) List.mem_cons_self
    obtain ⟨ow', s', w⟩ := set_all (l := l) (sl := sl) (s.move (i := i) hk e2 e3 e4) (by rw [List.length_set]; exact Nat.le_succ_of_le hk) (fun p hp => Nat.lt_succ_of_lt (hl p (List.mem_cons_of_mem _ hp)))
      (e5.weak (fun b z => z.elim .inl fun z => .inr (owMv_pw z)) fun j hj => by
        unfold owMv
        have hi : i < k := hi
        rw [if_neg (by omega), if_neg (by omega)])
    exact ⟨ow', s', fun b z => owMv_pw (w b z)⟩
  | (b, i) :: l, .emp :: sl, k, vs, ow, ρ, σ, s, hk, hl, p => p.elim
theorem PSl.len : ∀ {sl : List Slot} {k : Nat} {vs : List V}, PSl K mg F B ow H k sl vs → vs.length = sl.length
  | [], _, _, p => by cases (show _ = [] from p); rfl
  | .val d :: sl, k, vs, ⟨v, r, e1, e2, e3⟩ => by rw [e1, List.length_cons, List.length_cons, e3.len]
  | .own xs :: sl, k, vs, ⟨a, us, r, e1, e2, e3, e4, e5⟩ => by rw [e1, List.length_cons, List.length_cons, e5.len]
  | .emp :: _, _, _, p => p.elim
theorem denPar_len {c : Cx} : ∀ {l : List (Bool × Nat)} {es : Es} {ρ : Env} {h : LH} {Q : List Slot → LH → Prop} {Y : Str → List (Str × D) → LH → Prop}, (denPar c l es ρ h).post Q Y → (denPar c l es ρ h).post (fun sl h' => sl.length = l.length ∧ Q sl h') Y
  | [], .nil, _, _, _, _, q => ⟨rfl, q⟩
  | [], .cons _ _, _, _, _, _, q => q.elim
  | (true, _) :: _, .nil, _, _, _, _, q => q.elim
  | (false, _) :: _, .nil, _, _, _, _, q => q.elim
  | (true, i) :: l, .cons e es, ρ, h, Q, Y, q => by
    unfold denPar at q ⊢
    refine post_bnd.2 (post_mono (post_bnd.1 q) (fun x h1 q1 => ?_) fun _ _ _ z => z)
    split at q1
    · refine post_bnd.2 (post_mono (denPar_len (post_bnd.1 q1)) (fun r h2 q2 => ⟨by rw [List.length_cons, List.length_cons, q2.1], q2.2⟩) fun _ _ _ z => z)
    · exact q1.elim
  | (false, i) :: l, .cons e es, ρ, h, Q, Y, q => by
    unfold denPar at q ⊢
    refine post_bnd.2 (post_mono (post_bnd.1 q) (fun x h1 q1 => ?_) fun _ _ _ z => z)
    refine post_bnd.2 (post_mono (post_bnd.1 q1) (fun d h2 q2 => ?_) fun _ _ _ z => z)
    exact post_bnd.2 (post_mono (denPar_len (post_bnd.1 q2)) (fun r h2 q2 => ⟨by rw [List.length_cons, List.length_cons, q2.1], q2.2⟩) fun _ _ _ z => z)
def tPx (K : PySem.W.Frag) (mg : Str → Option Value) (W : WX) (c : Cx) (l : List (Bool × Nat)) (es : Es) : TA := fun σ H Q => ∃ k, tPl K mg W c k l es σ H Q
theorem a_px {es : Es} {as : List Expr} (p : PEs X (cxt t wf n) W es as) (l : List (Bool × Nat)) : PA X as (tPx X.K X.mg W (cxt t wf n) l es) :=
  ⟨fun pos pins s σ H Q I ⟨k, q⟩ => (a_pl p k l).run pos pins s σ H Q I q⟩
theorem par_w {l : List (Bool × Nat)} {es : Es} {R : List V → Hp → Prop} (q : tSt K mg W (denS (cxt t wf n) (.par l es)) Ds σ H) (hR : ∀ vs H1, vs.length = l.length → (∀ p o, H1 p = none → Ds.nx (setV σ l vs) (upd H1 p o)) → Ds.nx (setV σ l vs) H1 → R vs H1) : tPx K mg W (cxt t wf n) l es σ H R := by
  obtain ⟨F, B, ow, ρ, h, s, q⟩ := q
  unfold denS at q
  obtain ⟨m, hm⟩ : ∃ m, ∀ p ∈ l, p.2 < m := by
    clear q hR
    induction l with
    | nil => exact ⟨0, fun _ z => nomatch z⟩
    | cons p l ih =>
      obtain ⟨m, hm⟩ := ih
      refine ⟨m + p.2 + 1, fun q hq => ?_⟩
      rcases List.mem_cons.mp hq with rfl | hq
      · omega
      · have := hm q hq
        omega
  refine ⟨ρ.length + m, F, B, ow, ρ, h, s, Nat.le_add_right _ _, post_mono (denPar_len (post_bnd.1 q)) (fun sl h1 q1 B1 H1 ow1 vs x1 n1 e1 s1 ps => ?_) fun _ _ _ z => z⟩
  obtain ⟨ow2, s2, w2⟩ := set_all s1 (Nat.le_add_right _ _) (fun p hp => Nat.lt_of_lt_of_le (hm p hp) (Nat.le_add_left _ _)) ps
  have nw : Nw ow ow2 H := fun j b z => by
    obtain ⟨j', z⟩ := w2 b ⟨j, z⟩
    exact n1 j' b z
  exact hR vs H1 (ps.len.trans q1.1) (fun p o np => q1.2 B1 _ ow2 _ (x1.seq (Ext.new np)).pw nw (s2.ext (Ext.new np) (s2.heap.new np))) (q1.2 B1 H1 ow2 _ x1.pw nw s2)
end
end Z
end

section
namespace Z
open PySem PySem.Spec PyProof.Rows L2

section
variable {t : Tab} {wf : Nat} {N : List Str} {n : Nat} {X : L2.Cx} {sc : Scope} {W : WX} {K : PySem.W.Frag} {mg : Str → Option Value} {F F' : Addr → Prop} {B B' B1 : Nat → Option Addr} {H H' H1 : Hp} {ow ow' : Nat → Option Addr} {ρ ρ' : Env} {h h' h1 : LH} {σ σ' : L2.St} {Ds : Ends}

/-! ### what ends a def -/
theorem RR.ret {H0 : Hp} {d : D} {v : V} (s : SR K mg F B ow ρ h σ H) (r : RD K mg (Ft F ow) B H d v) : RetR K mg F B ow h H0 H (.v d) v := ⟨r.weak fun _ z _ => .inl z, s.heap.weak fun _ z _ => .inl z⟩
theorem ret_w {e : E} (q : tSt K mg W (denS (cxt t wf n) (.ret e)) Ds σ H) : tRet (tR K mg (cxt t wf n) W e) Ds σ H := by
  obtain ⟨F, B, ow, ρ, h, s, q⟩ := q
  unfold denS at q
  refine sStep s q (fun _ _ _ z => z.ex) fun rv h1 B1 H1 v x1 s1 r1 p1 => ?_
  obtain ⟨d, e1, p1⟩ := post_opt (post_bnd.1 p1)
  exact p1 B1 H1 v x1.pw (RR.ret s1 (r1.dg e1))
theorem retF_w {e : E} (q : tSt K mg W (denS (cxt t wf n) (.retF e)) Ds σ H) : tRet (tR K mg (cxt t wf n) W e) Ds σ H := by
  obtain ⟨F, B, ow, ρ, h, s, q⟩ := q
  unfold denS at q
  refine sStep s q (fun _ _ _ z => z.ex) fun rv h1 B1 H1 v x1 s1 r1 p1 => ?_
  split at p1
  · next xs =>
    obtain ⟨a, vs, rfl, e2, e3, nr, nf, no, q, hr⟩ := r1
    exact p1 B1 H1 _ x1.pw ⟨a, vs, rfl, .inr e2, e3, nr, nf, q.weak fun b z _ => z.elim (fun z => .inl (.inl z)) .inr, hr.weak fun b z _ => z.elim (fun z => .inl (.inl z)) .inr⟩
  · next xs =>
    obtain ⟨i, a, vs, rfl, e2, e3, q⟩ := r1
    have w : ∀ b, (F b ∨ b = a) → H1 b ≠ none → Ft F ow b := fun b z _ => z.elim .inl fun z => .inr ⟨i, z ▸ e2⟩
    exact p1 B1 H1 _ x1.pw ⟨a, vs, rfl, .inl ⟨i, e2⟩, e3, (s1.sep i a e2).2, (s1.sep i a e2).1, q.weak w, s1.heap.weak w⟩
  · exact p1.elim
theorem retN_w (q : tSt K mg W (denS (cxt t wf n) .retN) Ds σ H) : tRetN Ds σ H := by
  obtain ⟨F, B, ow, ρ, h, s, q⟩ := q
  unfold denS at q
  exact q B H .non Ext.rfl' (RR.ret s .non)
/-! ### if, for, while -/
theorem if_w {c : T} {a b : Ss} (q : tSt K mg W (denS (cxt t wf n) (.iff c a b)) Ds σ H) : tIfS (tT K mg (cxt t wf n) W c) (tSt K mg W (denSs (cxt t wf n) a)) (tSt K mg W (denSs (cxt t wf n) b)) Ds σ H := by
  obtain ⟨F, B, ow, ρ, h, s, q⟩ := q
  unfold denS at q
  refine ⟨F, B, ow, ρ, h, s, post_mono (post_bnd.1 q) (fun k h1 q1 B1 H1 x1 hr => ?_) fun _ _ _ z => z.ex⟩
  have s1 := s.ext x1 hr
  cases k with
  | true => exact ⟨F, B1, ow, ρ, h1, s1, post_mono q1 (fun _ _ z => z.shift Nw.rfl' x1.pw) fun _ _ _ z => z.shift Nw.rfl' x1.pw⟩
  | false => exact ⟨F, B1, ow, ρ, h1, s1, post_mono q1 (fun _ _ z => z.shift Nw.rfl' x1.pw) fun _ _ _ z => z.shift Nw.rfl' x1.pw⟩
/-- one turn of a loop -/
def turnF (c : Cx) (tg : Tg) (body : Ss) (x : D) (ρ : Env) : M Fl := fun h => match bindTg tg x ρ with
  | none => .bad
  | some ρ' => denSs c body ρ' h
theorem for_w {it : Z.It} {tg : Tg} {body : Ss} (q : tSt K mg W (denS (cxt t wf n) (.for_ it tg body)) Ds σ H) : tFor (tI K mg (cxt t wf n) W it) (gT K tg) (tSt K mg W (denSs (cxt t wf n) body)) Ds σ H := by
  obtain ⟨F, B, ow, ρ, h, s, q⟩ := q
  unfold denS at q
  refine ⟨F, B, ow, ρ, h, s, post_mono (post_bnd.1 q) (fun xs h1 q1 B1 H1 J x1 hr ik => ?_) fun _ _ _ z => z.ex⟩
  have s1 := s.ext x1 hr
  let Wt : Nat → Nat → L2.St → Hp → Prop := fun i m σ2 H2 => m = xs.length - i ∧ i ≤ xs.length ∧ ∃ B2 ow2 ρ2 h2, Ext (Pw ow) B1 B2 H1 H2 ∧ Nw ow ow2 H1 ∧ SR K mg F B2 ow2 ρ2 h2 σ2 H2 ∧
    (forL (turnF (cxt t wf n) tg body) (xs.drop i) ρ2 h2).post (FlR K mg F B ow H Ds) (EXs K mg F B ow H W)
  refine ⟨Wt, ⟨xs.length, by simp, Nat.zero_le _, B1, ow, ρ, h1, Ext.rfl', Nw.rfl', s1, q1⟩, ?_⟩
  rintro i m σ2 H2 ⟨rfl, hi, B2, ow2, ρ2, h2, x2, n2, s2, p2⟩
  have x12 : Ext (Pw ow) B B2 H H2 := Ext.nw Nw.rfl' x1.pw x2
  have n12 : Nw ow ow2 H := (Nw.rfl' (ow := ow)).trans x1 n2
  by_cases hlt : i < xs.length
  · refine .inr ⟨ik.go (Pw ow) B2 H2 i x2 s1.owns hlt, Wt (i + 1) (xs.length - (i + 1)), fun σ' H' w => ⟨_, by omega, w⟩, fun x H3 y => ?_⟩
    obtain ⟨hH, d, ed, rx⟩ := ik.yld (Pw ow) B2 H2 i x H3 (Ft F ow2) x2 s1.owns s2.heap.cells (fun a z ne => z.elim .inl fun ⟨j, z⟩ => (n2 j a z).elim .inr fun z => absurd z ne) y hlt
    obtain ⟨x3, s3⟩ : Ext E0 B2 B2 H2 H3 ∧ SR K mg F B2 ow2 ρ2 h2 σ2 H3 := by
      rcases hH with rfl | ⟨T, o, nT, rfl⟩
      · exact ⟨Ext.rfl', s2⟩
      · exact ⟨Ext.new nT, s2.ext (Ext.new nT) (s2.heap.new nT)⟩
    have edr : xs.drop i = d :: xs.drop (i + 1) := by
      rw [List.drop_eq_getElem_cons hlt]
      congr 1
      have := List.getElem?_eq_getElem hlt
      rw [ed] at this
      exact (Option.some.inj this).symm
    rw [edr] at p2
    have p3 := post_bnd.1 p2
    unfold turnF at p3
    have x13 : Ext (Pw ow) B B2 H H3 := x12.seq x3
    cases eb : bindTg tg d ρ2 with
    | none => simp only [eb] at p3; exact p3.elim
    | some ρ' =>
      simp only [eb] at p3
      refine gT_ok (p := fun _ => True) (P := fun _ => True) (fun _ _ _ _ _ => trivial) tg (tgIn_all tg) trivial s3 rx eb fun σ' _ s4 => ?_
      refine ⟨F, B2, ow2, ρ', h2, s4, post_mono p3 (fun fl h3 q3 => ?_) fun _ _ _ z => z.shift n12 x13⟩
      have again : ∀ {ρ3 : Env}, (forL (turnF (cxt t wf n) tg body) (xs.drop (i + 1)) ρ3 h3).post (FlR K mg F B ow H Ds) (EXs K mg F B ow H W) →
          ∀ B' H' ow' σ', Ext (Pw ow2) B2 B' H3 H' → Nw ow2 ow' H3 → SR K mg F B' ow' ρ3 h3 σ' H' → Wt (i + 1) (xs.length - (i + 1)) σ' H' := fun {ρ3} z B' H' ow' σ' y1 y2 y3 =>
        ⟨rfl, hlt, B', ow', ρ3, h3, Ext.nw n2 (x2.seq x3) y1, n2.trans (x2.seq x3) y2, y3, z⟩
      cases fl with
      | nx ρ3 => exact again q3
      | cont ρ3 => exact again q3
      | brk ρ3 =>
        have q3 : FlR K mg F B ow H Ds (.nx ρ3) h3 := q3
        exact FlR.shift n12 x13 q3
      | ret rv =>
        have q3 : FlR K mg F B ow H Ds (.ret rv) h3 := q3
        exact FlR.shift n12 x13 q3
  · have e : i = xs.length := by omega
    subst e
    rw [List.drop_length] at p2
    have p2 : FlR K mg F B ow H Ds (.nx ρ2) h2 := p2
    exact .inl ⟨ik.stop (Pw ow) B2 H2 _ x2 s1.owns (Nat.le_refl _), p2 B2 H2 ow2 σ2 x12 n12 s2⟩
theorem whl_w {c : T} {body : Ss} (q : tSt K mg W (denS (cxt t wf n) (.whl c body)) Ds σ H) : tWhile (tT K mg (cxt t wf n) W c) (tSt K mg W (denSs (cxt t wf n) body)) Ds σ H := by
  obtain ⟨F, B, ow, ρ, h, s, q⟩ := q
  unfold denS at q
  let Wt : Nat → L2.St → Hp → Prop := fun m σ2 H2 => ∃ B2 ow2 ρ2 h2, Ext (Pw ow) B B2 H H2 ∧ Nw ow ow2 H ∧ SR K mg F B2 ow2 ρ2 h2 σ2 H2 ∧
    (whlL (denT (cxt t wf n) c) (denSs (cxt t wf n) body) m ρ2 h2).post (FlR K mg F B ow H Ds) (EXs K mg F B ow H W)
  refine ⟨Wt, ⟨wf, B, ow, ρ, h, Ext.rfl', Nw.rfl', s, q⟩, ?_⟩
  rintro m σ2 H2 ⟨B2, ow2, ρ2, h2, x2, n2, s2, p2⟩
  cases m with
  | zero => exact p2.elim
  | succ m =>
    unfold whlL at p2
    refine ⟨F, B2, ow2, ρ2, h2, s2, post_mono (post_bnd.1 p2) (fun k h3 q3 B3 H3 x3 hr => ?_) fun _ _ _ z => (z.shift n2 x2).ex⟩
    have s3 := s2.ext x3 hr
    have x23 : Ext (Pw ow) B B3 H H3 := x2.seq x3
    cases k with
    | false => exact FlR.shift n2 x23 (fl := .nx ρ2) q3 B3 H3 ow2 σ2 Ext.rfl' Nw.rfl' s3
    | true =>
      refine ⟨Wt m, fun σ' H' w => ⟨m, Nat.lt_succ_self m, w⟩, F, B3, ow2, ρ2, h3, s3, post_mono (post_bnd.1 q3) (fun fl h4 q4 => ?_) fun _ _ _ z => z.shift n2 x23⟩
      have again : ∀ {ρ3 : Env}, (whlL (denT (cxt t wf n) c) (denSs (cxt t wf n) body) m ρ3 h4).post (FlR K mg F B ow H Ds) (EXs K mg F B ow H W) →
          ∀ B' H' ow' σ', Ext (Pw ow2) B3 B' H3 H' → Nw ow2 ow' H3 → SR K mg F B' ow' ρ3 h4 σ' H' → Wt m σ' H' := fun {ρ3} z B' H' ow' σ' y1 y2 y3 =>
        ⟨B', ow', ρ3, h4, Ext.nw n2 x23 y1, n2.trans x23 y2, y3, z⟩
      cases fl with
      | nx ρ3 => exact again q4
      | cont ρ3 => exact again q4
      | brk ρ3 => exact FlR.shift n2 x23 (fl := .nx ρ3) q4
      | ret rv => exact FlR.shift n2 x23 (fl := .ret rv) q4
end
end Z
end

section
namespace Z
open PySem PySem.Spec PyProof.Rows L2

section
variable {t : Tab} {wf : Nat} {N : List Str} {n : Nat} {X : L2.Cx} {sc : Scope} {W : WX} {K : PySem.W.Frag} {mg : Str → Option Value} {F F' : Addr → Prop} {B B' B1 : Nat → Option Addr} {H H' H1 : Hp} {ow ow' : Nat → Option Addr} {ρ ρ' : Env} {h h' h1 : LH} {σ σ' : L2.St} {Ds : Ends}

/-! ### own lists grow, are written -/
theorem get_own {i : Nat} {xs : List D} (e : get ρ i = .own xs) : ρ[i]? = some (.own xs) := get_slot e fun z => nomatch z
theorem app_w {i : Nat} {e : E} (q : tSt K mg W (denS (cxt t wf n) (.app i e)) Ds σ H) : tDrop (tBM K "list" rAppend (tVar i) (tCons (tR K mg (cxt t wf n) W e) tNil)) Ds σ H := by
  obtain ⟨F, B, ow, ρ, h, s, q⟩ := q
  unfold denS at q
  cases eo : get ρ i with
  | own xs =>
    rw [eo] at q
    obtain ⟨a, vs, e1, e2, e3, e4⟩ := s.own i xs (get_own eo)
    refine ⟨_, e2, .inl ⟨rfl, vs, SqL.of e3⟩, ?_⟩
    refine sStep s q (fun _ _ _ z => z.ex) fun rv h1 B1 H1 v x1 s1 r1 p1 => ?_
    obtain ⟨d, ed, p1⟩ := post_opt (post_bnd.1 p1)
    have rd := r1.dg ed
    have e3' := x1.keep a _ e3 (fun z => z) (s.sep i a e1).2
    have e4' := e4.ext x1 s.heap.cells
    split at p1
    · next hl =>
      refine ⟨a, vs, v, rfl, rfl, e3', by rw [← e4.length, ← szL_eq]; exact hl, ?_⟩
      exact p1 B1 _ ow σ (Ext.nw Nw.rfl' x1.pw (extPw e1)) Nw.rfl' (s1.upd (get_own eo) e1 (e4'.append (.cons rd .nil)))
    · exact p1.elim
  | emp => rw [eo] at q; exact q.elim
  | val _ => rw [eo] at q; exact q.elim
theorem ext_w {i : Nat} {e : E} (q : tSt K mg W (denS (cxt t wf n) (.ext i e)) Ds σ H) : tDrop (tBM K "list" rExtend (tVar i) (tCons (tR K mg (cxt t wf n) W e) tNil)) Ds σ H := by
  obtain ⟨F, B, ow, ρ, h, s, q⟩ := q
  unfold denS at q
  cases eo : get ρ i with
  | own xs =>
    rw [eo] at q
    obtain ⟨a, vs, e1, e2, e3, e4⟩ := s.own i xs (get_own eo)
    refine ⟨_, e2, .inl ⟨rfl, vs, SqL.of e3⟩, ?_⟩
    refine sStep s q (fun _ _ _ z => z.ex) fun rv h1 B1 H1 v x1 s1 r1 p1 => ?_
    obtain ⟨d, ed, p1⟩ := post_opt (post_bnd.1 p1)
    have rd := r1.dg ed
    have e3' := x1.keep a _ e3 (fun z => z) (s.sep i a e1).2
    have e4' := e4.ext x1 s.heap.cells
    split at p1
    · next ys =>
      split at p1
      · next hl =>
        cases rd with
        | lst g1 f nr g2 =>
          refine ⟨a, _, vs, _, rfl, rfl, e3', g1, by rw [← e4.length, ← g2.length, ← szL_eq]; exact hl, ?_⟩
          exact p1 B1 _ ow σ (Ext.nw Nw.rfl' x1.pw (extPw e1)) Nw.rfl' (s1.upd (get_own eo) e1 (e4'.append g2))
      · exact p1.elim
    · exact p1.elim
  | emp => rw [eo] at q; exact q.elim
  | val _ => rw [eo] at q; exact q.elim
theorem setO_w {i : Nat} {ix e : E} (q : tSt K mg W (denS (cxt t wf n) (.setO i ix e)) Ds σ H) : tAsg (tR K mg (cxt t wf n) W e) (gSub (tVar i) (tR K mg (cxt t wf n) W ix) rSetL) Ds σ H := by
  obtain ⟨F, B, ow, ρ, h, s, q⟩ := q
  unfold denS at q
  cases eo : get ρ i with
  | own xs =>
    rw [eo] at q
    refine sStep s q (fun _ _ _ z => z.ex) fun rv h1 B1 H1 v x1 s1 r1 p1 => ?_
    obtain ⟨d, ed, p1⟩ := post_opt (post_bnd.1 p1)
    have rd := r1.dg ed
    obtain ⟨a, vs, e1, e2, e3, e4⟩ := s1.own i xs (get_own eo)
    refine ⟨_, e2, ?_⟩
    refine sStep s1 p1 (fun _ _ _ z => z.at x1) fun rw h2 B2 H2 v2 x2 s2 r2 p2 => ?_
    have e3' := x2.keep a _ e3 (fun z => z) (s1.sep i a e1).2
    have e4' := e4.ext x2 s1.heap.cells
    have rd' := rd.ext x2 s1.heap.cells
    split at p2
    · next k =>
      cases (show RD _ _ _ _ _ (D.int k) v2 from r2)
      cases ej : L2.ixN xs.length k with
      | none => rw [ej] at p2; exact p2.elim
      | some j =>
        rw [ej] at p2
        refine ⟨a, vs, k, j, rfl, rfl, e3', by rw [← e4.length]; exact ej, ?_⟩
        exact p2 B2 _ ow σ (Ext.nw Nw.rfl' (x1.seq x2).pw (extPw e1)) Nw.rfl' (s2.upd (get_own eo) e1 (e4'.set j rd'))
    · exact p2.elim
  | emp => rw [eo] at q; exact q.elim
  | val _ => rw [eo] at q; exact q.elim
theorem HR.cell (x : HR K mg F B h H) {r : Nat} {p : Addr} {xs : List D} {vs : List V} {o : Ob} (e : B r = some p) (eo : h[r]? = some o) (q : RDs K mg F B H xs vs) : HR K mg F B (h.set r (.lst xs)) (upd H p (.lst vs)) ∧ Ext E0 B B H (upd H p (.lst vs)) := by
  have ex : Ext E0 B B H (L2.upd H p (.lst vs)) := ⟨fun a u q _ nr => by rw [upd_ne fun z => nr r (by rw [z]; exact e)]; exact q, fun _ _ z => z, fun _ _ z => .inl z, fun a q => by
    by_cases ea : a = p
    · rw [ea, upd_same]; exact fun z => nomatch z
    · rw [upd_ne ea]; exact q⟩
  refine ⟨⟨fun r' ob z => ?_, fun r' a z => by rw [List.length_set]; exact x.lt r' a z, x.inj, x.nf⟩, ex⟩
  by_cases er : r = r'
  · subst er
    rw [List.getElem?_set_self (List.getElem?_eq_some_iff.mp eo).1] at z
    cases z
    exact ⟨p, e, vs, upd_same, q.ext ex x.cells⟩
  · rw [List.getElem?_set_ne er] at z
    obtain ⟨a, e1, y⟩ := x.at_ r' ob z
    refine ⟨a, e1, ?_⟩
    cases ob with
    | lst ys =>
      obtain ⟨us, y, w⟩ := y
      refine ⟨us, ?_, w.ext ex x.cells⟩
      rw [upd_ne fun z => er (x.inj r r' a (by rw [z]; exact e) e1)]
      exact y
    | ins _ _ => exact y.elim
theorem setR_w {a ix e : E} (q : tSt K mg W (denS (cxt t wf n) (.setR a ix e)) Ds σ H) : tAsg (tR K mg (cxt t wf n) W e) (gSub (tR K mg (cxt t wf n) W a) (tR K mg (cxt t wf n) W ix) rSetL) Ds σ H := by
  obtain ⟨F, B, ow, ρ, h, s, q⟩ := q
  unfold denS at q
  refine sStep s q (fun _ _ _ z => z.ex) fun rv h1 B1 H1 v x1 s1 r1 p1 => ?_
  obtain ⟨d, ed, p1⟩ := post_opt (post_bnd.1 p1)
  have rd := r1.dg ed
  refine sStep s1 p1 (fun _ _ _ z => z.at x1) fun rl h2 B2 H2 v2 x2 s2 r2 p2 => ?_
  refine sStep s2 p2 (fun _ _ _ z => z.at (x1.seq x2)) fun ri h3 B3 H3 v3 x3 s3 r3 p3 => ?_
  split at p3
  · next r k =>
    cases (show RD _ _ _ _ _ (D.int k) v3 from r3)
    cases (show RD _ _ _ _ _ (D.ref r) v2 from r2) with
    | @ref _ p eB =>
      obtain ⟨xs, q1, p4⟩ := post_rd (post_bnd.1 p3)
      have eB3 := x3.refs _ _ eB
      have q1 : (match h3[r]? with
        | some (.lst xs) => some xs
        | _ => none) = some xs := q1
      cases ej : L2.ixN xs.length k with
      | none => rw [ej] at p4; exact p4.elim
      | some j =>
        rw [ej] at p4
        have p4 := post_bnd.1 p4
        have p4 : FlR K mg F B ow H Ds (.nx ρ) (h3.set r (.lst (xs.set j d))) := p4
        cases eh : h3[r]? with
        | none => rw [eh] at q1; cases q1
        | some o =>
          rw [eh] at q1
          cases o with
          | ins _ _ => cases q1
          | lst ys =>
            cases q1
            obtain ⟨p', e1, us, e2, e3⟩ := s3.heap.at_ r _ eh
            rw [eB3] at e1
            cases e1
            refine ⟨p, us, k, j, rfl, rfl, e2, by rw [← e3.length]; exact ej, ?_⟩
            have rd' := (rd.ext x2 s1.heap.cells).ext x3 s2.heap.cells
            obtain ⟨hr, ex⟩ := s3.heap.cell eB3 eh (e3.set j rd')
            exact p4 B3 _ ow σ (((x1.seq x2).seq x3).seq ex).pw Nw.rfl' (s3.ext ex hr)
  · exact p3.elim
theorem aug_w {i : Nat} {o : Bop} {e : E} (q : tSt K mg W (denS (cxt t wf n) (.aug i o e)) Ds σ H) : match o with
    | .add => tAug i (tR K mg (cxt t wf n) W e) (ipI fun i j => i + j) Ds σ H
    | .sub => tAug i (tR K mg (cxt t wf n) W e) (ipI fun i j => i - j) Ds σ H
    | _ => True := by
  obtain ⟨F, B, ow, ρ, h, s, q⟩ := q
  unfold denS at q
  cases eo : get ρ i with
  | val d0 =>
    rw [eo] at q
    cases d0 with
    | int k =>
      obtain ⟨v, e1, r⟩ := s.val i (.int k) (get_slot eo fun z => nomatch z)
      cases r
      cases o with
      | add =>
        refine ⟨_, e1, ?_⟩
        refine sStep s q (fun _ _ _ z => z.ex) fun rv h1 B1 H1 v x1 s1 r1 p1 => ?_
        cases rv with
        | v d =>
          cases d with
          | int j =>
            cases (show RD _ _ _ _ _ (D.int j) v from r1)
            exact ⟨k, j, rfl, rfl, p1 B1 H1 ow _ x1.pw Nw.rfl' (s1.setVal i (.int _))⟩
          | _ => exact p1.elim
        | _ => exact p1.elim
      | sub =>
        refine ⟨_, e1, ?_⟩
        refine sStep s q (fun _ _ _ z => z.ex) fun rv h1 B1 H1 v x1 s1 r1 p1 => ?_
        cases rv with
        | v d =>
          cases d with
          | int j =>
            cases (show RD _ _ _ _ _ (D.int j) v from r1)
            exact ⟨k, j, rfl, rfl, p1 B1 H1 ow _ x1.pw Nw.rfl' (s1.setVal i (.int _))⟩
          | _ => exact p1.elim
        | _ => exact p1.elim
      | _ => trivial
    | _ => exact q.elim
  | emp => rw [eo] at q; exact q.elim
  | own _ => rw [eo] at q; exact q.elim
theorem ex_w {e : E} (q : tSt K mg W (denS (cxt t wf n) (.ex e)) Ds σ H) : tDrop (tR K mg (cxt t wf n) W e) Ds σ H := by
  obtain ⟨F, B, ow, ρ, h, s, q⟩ := q
  unfold denS at q
  refine sStep s q (fun _ _ _ z => z.ex) fun rv h1 B1 H1 v x1 s1 r1 p1 => ?_
  exact p1 B1 H1 ow σ x1.pw Nw.rfl' s1
theorem frz_w {i : Nat} {ss : Ss} (q : tSt K mg W (denSs (cxt t wf n) (.cons (.frz i) ss)) Ds σ H) : tSt K mg W (denSs (cxt t wf n) ss) Ds σ H := by
  obtain ⟨F, B, ow, ρ, h, s, q⟩ := q
  unfold denSs at q
  have q := post_bnd.1 q
  unfold denS at q
  cases eo : get ρ i with
  | own xs =>
    rw [eo] at q
    have q : ((denSs (cxt t wf n) ss) (ρ.set i (.val (.lst xs))) h).post (FlR K mg F B ow H Ds) (EXs K mg F B ow H W) := q
    have s1 := s.freeze (get_own eo)
    have n1 : Nw ow (fun j => if j = i then none else ow j) H := fun j a z => by
      have z : (if j = i then none else ow j) = some a := z
      split at z
      · cases z
      · exact .inl ⟨j, z⟩
    exact ⟨F, B, _, _, h, s1, post_mono q (fun _ _ z => z.shift n1 Ext.rfl') fun _ _ _ z => z.shift n1 Ext.rfl'⟩
  | emp => rw [eo] at q; exact q.elim
  | val _ => rw [eo] at q; exact q.elim
theorem seq_w {a : S} {ss : Ss} (q : tSt K mg W (denSs (cxt t wf n) (.cons a ss)) Ds σ H) : tSeq (tSt K mg W (denS (cxt t wf n) a)) (tSt K mg W (denSs (cxt t wf n) ss)) Ds σ H := by
  obtain ⟨F, B, ow, ρ, h, s, q⟩ := q
  unfold denSs at q
  refine ⟨F, B, ow, ρ, h, s, post_mono (post_bnd.1 q) (fun fl h1 q1 => ?_) fun _ _ _ z => z⟩
  cases fl with
  | nx ρ1 => exact fun B' H' ow' σ' y1 y2 y3 => ⟨F, B', ow', ρ1, h1, y3, post_mono q1 (fun _ _ z => z.shift y2 y1) fun _ _ _ z => z.shift y2 y1⟩
  | ret rv => exact q1
  | brk ρ1 => exact q1
  | cont ρ1 => exact q1
theorem nil_w (q : tSt K mg W (denSs (cxt t wf n) .nil) Ds σ H) : tNext Ds σ H := by
  obtain ⟨F, B, ow, ρ, h, s, q⟩ := q
  unfold denSs at q
  exact q B H ow σ Ext.rfl' Nw.rfl' s
theorem pass_w (q : tSt K mg W (denS (cxt t wf n) .pass) Ds σ H) : tNext Ds σ H := by
  obtain ⟨F, B, ow, ρ, h, s, q⟩ := q
  unfold denS at q
  exact q B H ow σ Ext.rfl' Nw.rfl' s
theorem brk_w (q : tSt K mg W (denS (cxt t wf n) .brk) Ds σ H) : tBreak Ds σ H := by
  obtain ⟨F, B, ow, ρ, h, s, q⟩ := q
  unfold denS at q
  exact q B H ow σ Ext.rfl' Nw.rfl' s
theorem cont_w (q : tSt K mg W (denS (cxt t wf n) .cont) Ds σ H) : tCont Ds σ H := by
  obtain ⟨F, B, ow, ρ, h, s, q⟩ := q
  unfold denS at q
  exact q B H ow σ Ext.rfl' Nw.rfl' s
end
end Z
end

section
namespace Z
open PySem PySem.Spec PyProof.Rows L2

/-! ### is this statement that one? -/
/-- the last one starred: without its star -/
def unst : List Expr → Option (List Expr)
  | [.Starred e _] => some [e]
  | e :: es => if notStar e then (unst es).map (e :: ·) else none
  | [] => none
theorem unst_facts {env : PySem.Env} : ∀ {es es' : List Expr}, unst es = some es' → (assignEach es env).map (·.2) = (assignEach es' env).map (·.2) ∨ ∃ e ∈ es', notStar e = false := by
  intro es
  induction es with
  | nil => intro es' h; cases h
  | cons e es ih =>
    intro es' h
    have go : notStar e = true → (unst es).map (e :: ·) = some es' → (assignEach (e :: es) env).map (·.2) = (assignEach es' env).map (·.2) ∨ ∃ e ∈ es', notStar e = false := fun hn hm => by
      cases q : unst es with
      | none => rw [q] at hm; cases hm
      | some es1 =>
        rw [q] at hm
        cases hm
        have h1 : ∀ fs, assignEach (e :: fs) env = (false, assign e env) :: assignEach fs env := fun fs => by cases e <;> first | rfl | cases hn
        rcases ih q with z | ⟨e', he, z⟩
        · left
          rw [h1, h1, List.map_cons, List.map_cons, z]
        · exact .inr ⟨e', List.mem_cons_of_mem _ he, z⟩
    cases e with
    | Starred e1 p =>
      cases es with
      | nil =>
        cases (show some [e1] = some es' from h)
        by_cases hn : notStar e1 = true
        · left
          cases e1 <;> first | rfl | cases hn
        · exact .inr ⟨e1, List.mem_cons_self, by simpa using hn⟩
      | cons _ _ => cases h
    | _ => exact go rfl h
theorem unst_len {env : PySem.Env} : ∀ {es es' : List Expr}, unst es = some es' → (assignEach es env).length = es'.length ∧ (assignEach es env).findIdx? (·.1) = some (es'.length - 1) ∧ es' ≠ [] := by
  intro es
  induction es with
  | nil => intro es' h; cases h
  | cons e es ih =>
    intro es' h
    have go : notStar e = true → (unst es).map (e :: ·) = some es' → (assignEach (e :: es) env).length = es'.length ∧ (assignEach (e :: es) env).findIdx? (·.1) = some (es'.length - 1) ∧ es' ≠ [] := fun hn hm => by
      cases q : unst es with
      | none => rw [q] at hm; cases hm
      | some es1 =>
        rw [q] at hm
        cases hm
        have h1 : assignEach (e :: es) env = (false, assign e env) :: assignEach es env := by cases e <;> first | rfl | cases hn
        obtain ⟨z1, z2, z3⟩ := ih q
        rw [h1]
        refine ⟨by rw [List.length_cons, List.length_cons, z1], ?_, fun z => nomatch z⟩
        rw [List.findIdx?_cons]
        simp only [Bool.false_eq_true, if_false, z2, Option.map_some]
        cases es1 with
        | nil => exact absurd rfl z3
        | cons _ _ => rfl
    cases e with
    | Starred e1 p =>
      cases es with
      | nil =>
        cases (show some [e1] = some es' from h)
        exact ⟨rfl, rfl, fun z => nomatch z⟩
      | cons _ _ => cases h
    | _ => exact go rfl h
section
variable (t : Tab) (N : List Str) (sc : Scope)
def parN : List (Bool × Nat) → List Expr → Bool
  | [], [] => true
  | (_, i) :: l, .Name x _ :: es => atN N i x && isLoc sc x && parN l es
  | _, _ => false
def parM : List (Bool × Nat) → List Expr → Bool
  | [], [] => true
  | (_, i) :: l, .Name x _ :: es => atN N i x && locB sc x && parM l es
  | _, _ => false
def nmsOf : List Expr → List Str
  | .Name x _ :: es => x :: nmsOf es
  | _ => []
mutual
def ckS : S → Stmt → Bool
  | .ex e, .Expr a _ => !isComp a && ckE t N sc e a
  | .asg tg e, .Assign [a] v _ => (match tg, a with
    | .nm i, .Name x _ => atN N i x && locB sc x && ckE t N sc e v
    | tg, a => isTup a && ckTg N sc none tg a && ckE t N sc e v && swOk v && (swN sc a v).isNone)
  | .asgO i e, .Assign [.Name x _] v _ => atN N i x && locB sc x && ckE t N sc e v
  | .asgC i e, .Assign [.Name x _] v _ => atN N i x && locB sc x && ckE t N sc e v
  | .star l e, .Assign [.Tuple es _ _] v _ => !isTup v && ckE t N sc e v && (match unst es with
    | some es' => ckTgs N sc none l es'
    | none => false)
  | .par l es, .Assign [.Tuple ts k p] (.Tuple vs k2 p2) _ => ckEs t N sc es vs && swOk (.Tuple vs k2 p2) && ((parN N sc l ts && decide (swN sc (.Tuple ts k p) (.Tuple vs k2 p2) = some (nmsOf ts)) && decide ((l.map (·.2)).Nodup) && decide (vs.length = ts.length)) || (parM N sc l ts && (swN sc (.Tuple ts k p) (.Tuple vs k2 p2)).isNone && decide (l.length ≤ 1000)))
  | .ret e, .Return (some a) _ => ckE t N sc e a
  | .retF e, .Return (some a) _ => ckE t N sc e a
  | .retN, .Return none _ => true
  | .iff c a b, .If x p q _ => ckT t N sc c x && ckSs a p && ckSs b q
  | .for_ it tg b, .For a x p [] _ => ckIt t N sc it a x && notSet x && ckTg N sc none tg a && ckSs b p
  | .whl c b, .While x p [] _ => ckT t N sc c x && ckSs b p
  | .app i e, .Expr (.Call (.Attribute (.Name x _) nm apos) [a] [] cpos) _ => decide (nm = ("append" : Str)) && (apos.endLine == cpos.line) && atN N i x && visB sc x && okN x && notStar a && ckE t N sc e a
  | .ext i e, .Expr (.Call (.Attribute (.Name x _) nm apos) [a] [] cpos) _ => decide (nm = ("extend" : Str)) && (apos.endLine == cpos.line) && atN N i x && visB sc x && okN x && notStar a && ckE t N sc e a
  | .setO i ix e, .Assign [.Subscript (.Name x _) y _] v _ => atN N i x && visB sc x && okN x && notSl y && ckE t N sc ix y && ckE t N sc e v
  | .setR a ix e, .Assign [.Subscript o y _] v _ => notSl y && ckE t N sc a o && ckE t N sc ix y && ckE t N sc e v
  | .aug i o e, .AugAssign (.Name x _) op v _ => (match o with
    | .add => true
    | .sub => true
    | _ => false) && decide (op = bopOf o) && atN N i x && locB sc x && okN x && ckE t N sc e v
  | .brk, .Break _ => true
  | .cont, .Continue _ => true
  | .pass, .Pass _ => true
  | .pass, .Expr (.Constant (.str _) _ _) _ => true
  | _, _ => false
def ckSs : Ss → List Stmt → Bool
  | .nil, [] => true
  | .cons (.frz _) ss, sts => ckSs ss sts
  | .cons a ss, st :: sts => ckS a st && ckSs ss sts
  | _, _ => false
end
end
section
variable {t : Tab} {wf : Nat} {N : List Str} {n : Nat}
theorem comp_sw {e : E} {a : Expr} {sc : Scope} (h : isComp a = false) (tg : Option Expr) (l : Nat) (env : PySem.Env) : swapsWith a tg l env = pure false := by
  cases a <;> first | rfl | cases h
/-- a target that is no name -/
theorem sole_sw {a v : Expr} {l : Nat} {env : PySem.Env} (h : isTup a = true) : swapsWithSole [a] v l env = pure false := by
  obtain ⟨_, _, _, rfl⟩ := tup_of h
  cases v <;> rfl
theorem sub_sw {o y v : Expr} {p : Pos} {l : Nat} {env : PySem.Env} : swapsWithSole [.Subscript o y p] v l env = pure false := by
  cases v <;> rfl
theorem sub_st {o y v : Expr} {p : Pos} {env : PySem.Env} : swappedStores [.Subscript o y p] v env = pure none := by
  cases v <;> rfl
theorem ps_tup {X : L2.Cx} {sc : Scope} {W : WX} (ok : XOk t wf N n X sc W) {a v : Expr} {pos : Pos} {te : TE} {g : TG} (he : PE X v te) (hg : PG X a g) (h : isTup a = true) (hw : swOk v = true) (hn : swN sc a v = none) : PS X (.Assign [a] v pos) (tAsg te g) := by
  obtain ⟨es, k, p, rfl⟩ := tup_of h
  exact ps_asg he hg (hs := sole_sw rfl) (hw := (swN_eq ok.hs ok.kd (by intro _ _ z; cases z) hw).trans (by rw [hn])) (h1 := rfl)
end
end Z
end

section
namespace Z
open PySem PySem.Spec PyProof.Rows L2

section
variable {t : Tab} {wf : Nat} {N : List Str} {n : Nat}
theorem nm_vis {X : L2.Cx} {sc : Scope} {W : WX} (ok : XOk t wf N n X sc W) {i : Nat} {x : Str} {p : Pos} (h1 : atN N i x = true) (h2 : visB sc x = true) (h3 : okN x = true) : PE X (.Name x p) (tVar i) := by
  obtain ⟨d1, d2, _⟩ := okN_d h3
  exact pe_var (i := i) (by rw [ok.hN]; exact of_decide_eq_true h1) (vis_of ok.hs h2) d1 d2
theorem few1 {e : Expr} {env : PySem.Env} {cpos : Pos} (h : notStar e = true) : ((backTo cpos (starEach [e] env)).all (fun x => !x.1) && (backToKw cpos (keywordEach [] env)).all (fun x => x.1.isSome)
      && decide (([e] : List Expr).length + ([] : List Keyword).length + (if ([] : List Keyword).isEmpty then 0 else 1) < 30)) = true := by
  rw [star_cons h]
  rfl
theorem isLoc_l {sc : Scope} {x : Str} (h : isLoc sc x = true) : sc.names.lookup x = some .local := by
  unfold isLoc at h
  split at h
  · assumption
  · cases h
theorem len2 {α : Type} : ∀ {xs : List α}, xs.length = 2 → ∃ a b, xs = [a, b]
  | [a, b], _ => ⟨a, b, rfl⟩
  | [], h => by cases h
  | [_], h => by cases h
  | _ :: _ :: _ :: _, h => by simp at h
theorem len3 {α : Type} : ∀ {xs : List α}, xs.length = 3 → ∃ a b c, xs = [a, b, c]
  | [a, b, c], _ => ⟨a, b, c, rfl⟩
  | [], h => by cases h
  | [_], h => by cases h
  | [_, _], h => by cases h
  | _ :: _ :: _ :: _ :: _, h => by simp at h
theorem parN_len {sc : Scope} : ∀ {l : List (Bool × Nat)} {ts : List Expr}, parN N sc l ts = true → l.length = ts.length
  | [], [], _ => rfl
  | [], _ :: _, h => by unfold parN at h; cases h
  | (_, _) :: _, [], h => by unfold parN at h; cases h
  | (b, i) :: l, e :: es, h => by
    cases e with
    | Name x p =>
      unfold parN at h
      rw [List.length_cons, List.length_cons, parN_len (and2 h).2]
    | _ => unfold parN at h; cases h
theorem sPar {X : L2.Cx} {sc : Scope} {W : WX} (ok : XOk t wf N n X sc W) {l : List (Bool × Nat)} {es : Es} {ts vs : List Expr} {k k2 : Nat} {p p2 pos : Pos} (h1 : parN N sc l ts = true) (h2 : ckEs t N sc es vs = true) (h3 : swOk (.Tuple vs k2 p2) = true)
    (h4 : swN sc (.Tuple ts k p) (.Tuple vs k2 p2) = some (nmsOf ts)) (h5 : (l.map (·.2)).Nodup) (h6 : vs.length = ts.length) : PS X (.Assign [.Tuple ts k p] (.Tuple vs k2 p2) pos) (tSt X.K X.mg W (denS (cxt t wf n) (.par l es))) := by
  have hN : X.N.Nodup := by rw [ok.hN]; exact ok.nd
  have at' : ∀ {i x}, atN N i x = true → X.N[i]? = some x := fun {i x} h => by rw [ok.hN]; exact of_decide_eq_true h
  have lc : ∀ {x}, isLoc sc x = true → X.env.scope.names.lookup x = some .local := fun {x} h => by rw [ok.hs]; exact isLoc_l h
  have hw : swappedStores [.Tuple ts k p] (.Tuple vs k2 p2) X.env = pure (some (nmsOf ts)) := (swN_eq ok.hs ok.kd (by intro _ _ z; cases z) h3).trans (by rw [h4])
  have len : ts.length = 2 ∨ ts.length = 3 := by
    unfold swN at h4
    dsimp only at h4
    split at h4
    · cases h4
    · next q =>
      simp only [Bool.or_eq_true, Bool.not_eq_true', Bool.or_eq_false_iff, beq_eq_false_iff_ne, bne_iff_ne] at q
      omega
  have args := a_px (sEs es ok vs h2) l
  have hlen := parN_len h1
  rcases len with len | len
  · obtain ⟨t1, t2, rfl⟩ := len2 len
    obtain ⟨⟨b1, i⟩, ⟨b2, j⟩, rfl⟩ := len2 (hlen.trans len)
    obtain ⟨v1, v2, rfl⟩ := len2 (h6.trans len)
    cases t1 <;> first | (unfold parN at h1; cases h1) | skip
    cases t2 <;> first | (unfold parN at h1; have h1 := (and2 h1).2; unfold parN at h1; cases h1) | skip
    unfold parN at h1
    obtain ⟨h1, h7⟩ := and2 h1
    obtain ⟨h1, h8⟩ := and2 h1
    unfold parN at h7
    obtain ⟨h7, _⟩ := and2 h7
    obtain ⟨h7, h9⟩ := and2 h7
    have hij : i ≠ j := by
      have : i ∉ [j] := (List.nodup_cons.mp h5).1
      simpa using this
    exact psW (ps_par ok.calm hN (at' h1) (at' h7) hij (lc h8) (lc h9) args hw (hs := rfl)) fun D σ H q => par_w q fun us H1 hl _ hq => by
      match us, hl, hq with
      | [u1, u2], _, hq => exact ⟨u1, u2, rfl, hq⟩
  · obtain ⟨t1, t2, t3, rfl⟩ := len3 len
    obtain ⟨⟨b1, i⟩, ⟨b2, j⟩, ⟨b3, m⟩, rfl⟩ := len3 (hlen.trans len)
    obtain ⟨v1, v2, v3, rfl⟩ := len3 (h6.trans len)
    cases t1 <;> first | (unfold parN at h1; cases h1) | skip
    cases t2 <;> first | (unfold parN at h1; have h1 := (and2 h1).2; unfold parN at h1; cases h1) | skip
    cases t3 <;> first | (unfold parN at h1; have h1 := (and2 h1).2; unfold parN at h1; have h1 := (and2 h1).2; unfold parN at h1; cases h1) | skip
    unfold parN at h1
    obtain ⟨h1, h7⟩ := and2 h1
    obtain ⟨h1, h8⟩ := and2 h1
    unfold parN at h7
    obtain ⟨h7, h10⟩ := and2 h7
    obtain ⟨h7, h9⟩ := and2 h7
    unfold parN at h10
    obtain ⟨h10, _⟩ := and2 h10
    obtain ⟨h10, h11⟩ := and2 h10
    obtain ⟨n1, n2⟩ := List.nodup_cons.mp h5
    have hij : i ≠ j := fun z => n1 (by simp [z])
    have him : i ≠ m := fun z => n1 (by simp [z])
    have hjm : j ≠ m := fun z => (List.nodup_cons.mp n2).1 (by simp [z])
    exact psW (ps_par3 ok.calm hN (at' h1) (at' h7) (at' h10) hij him hjm (lc h8) (lc h9) (lc h11) args hw (hs := rfl)) fun D σ H q => par_w q fun us H1 hl _ hq => by
      match us, hl, hq with
      | [u1, u2, u3], _, hq => exact ⟨u1, u2, u3, rfl, hq⟩
theorem asg_nms : ∀ {sc : Scope} {l : List (Bool × Nat)} {ts : List Expr} {env : PySem.Env}, parM N sc l ts = true → (assignEach ts env).length = ts.length ∧ (assignEach ts env).findIdx? (·.1) = none
  | _, [], [], _, _ => ⟨rfl, rfl⟩
  | _, [], _ :: _, _, h => by unfold parM at h; cases h
  | _, (_, _) :: _, [], _, h => by unfold parM at h; cases h
  | sc, (b, i) :: l, e :: es, env, h => by
    cases e with
    | Name x p =>
      unfold parM at h
      obtain ⟨e1, e2⟩ := asg_nms (env := env) (and2 h).2
      have hs : assignEach (.Name x p :: es) env = (false, assign (.Name x p) env) :: assignEach es env := rfl
      rw [hs]
      refine ⟨by rw [List.length_cons, e1]; rfl, ?_⟩
      rw [List.findIdx?_cons]
      simp only [Bool.false_eq_true, if_false, e2, Option.map_none]
    | _ => unfold parM at h; cases h
def gNms : List (Bool × Nat) → TGs
  | [] => gNil
  | (_, i) :: l => gCons (gName i) (gNms l)
theorem pgs_nms {X : L2.Cx} {sc : Scope} {W : WX} (ok : XOk t wf N n X sc W) (so : Stores X sc none) : ∀ {l : List (Bool × Nat)} {ts : List Expr}, parM N sc l ts = true → PGs X ts (gNms l)
  | [], [], _ => pgs_nil
  | [], _ :: _, h => by unfold parM at h; cases h
  | (_, _) :: _, [], h => by unfold parM at h; cases h
  | (b, i) :: l, e :: es, h => by
    cases e with
    | Name x p =>
      unfold parM at h
      obtain ⟨h1, h3⟩ := and2 h
      obtain ⟨h1, h2⟩ := and2 h1
      obtain ⟨l1, l2⟩ := so x h2
      exact pgs_cons (pg_name (by rw [ok.hN]; exact ok.nd) (by rw [ok.hN]; exact of_decide_eq_true h1) l1 l2) (pgs_nms ok so h3) rfl
    | _ => unfold parM at h; cases h
theorem gNms_at {Q : L2.St → Hp → Prop} {H : Hp} : ∀ {l : List (Bool × Nat)} {vs : List V} {σ : L2.St}, vs.length = l.length → Q (setV σ l vs) H → gNms l vs σ H Q
  | [], [], _, _, q => ⟨rfl, q⟩
  | [], _ :: _, _, h, _ => by cases h
  | _ :: _, [], _, h, _ => by cases h
  | (b, i) :: l, v :: vs, σ, h, q => ⟨v, vs, rfl, gNms_at (by simpa using h) q⟩
theorem parM_len {sc : Scope} : ∀ {l : List (Bool × Nat)} {ts : List Expr}, parM N sc l ts = true → l.length = ts.length
  | [], [], _ => rfl
  | [], _ :: _, h => by unfold parM at h; cases h
  | (_, _) :: _, [], h => by unfold parM at h; cases h
  | (b, i) :: l, e :: es, h => by
    cases e with
    | Name x p =>
      unfold parM at h
      rw [List.length_cons, List.length_cons, parM_len (and2 h).2]
    | _ => unfold parM at h; cases h
theorem sPar2 {X : L2.Cx} {sc : Scope} {W : WX} (ok : XOk t wf N n X sc W) (so : Stores X sc none) {l : List (Bool × Nat)} {es : Es} {ts vs : List Expr} {k k2 : Nat} {p p2 pos : Pos} (h1 : parM N sc l ts = true) (h2 : ckEs t N sc es vs = true) (h3 : swOk (.Tuple vs k2 p2) = true)
    (h4 : swN sc (.Tuple ts k p) (.Tuple vs k2 p2) = none) (h5 : l.length ≤ 1000) : PS X (.Assign [.Tuple ts k p] (.Tuple vs k2 p2) pos) (tSt X.K X.mg W (denS (cxt t wf n) (.par l es))) := by
  obtain ⟨e1, e2⟩ := asg_nms (env := X.env) h1
  have hl := parM_len h1
  have pg : PG X (.Tuple ts k p) (gTup X.K l.length (gNms l)) := pg_tup ok.calm (pgs_nms ok so h1) (e1.trans hl.symm) e2
  refine psW (ps_tup ok (pe_tup (x1 := k2) (a_px (sEs es ok vs h2) l)) pg rfl h3 h4) fun D σ H q => ?_
  show tPx X.K X.mg W (cxt t wf n) l es σ H _
  refine par_w q fun us H1 hl hq _ => ⟨?_, fun p np => ⟨p, us, rfl, .inl (.inl upd_same), hl, gNms_at hl (hq p _ np)⟩⟩
  rw [hl, sizeLine_eq]
  omega
theorem notSet_f {a : Expr} (h : notSet a = true) (env : PySem.Env) : ∀ x, foldedSetIterable a env x = pure x := fun x => by cases a <;> first | rfl | cases h
def isFrz : S → Bool
  | .frz _ => true
  | _ => false
theorem ckSs_cons {sc : Scope} {a : S} {ss : Ss} {st : Stmt} {sts : List Stmt} (h : isFrz a = false) : ckSs t N sc (.cons a ss) (st :: sts) = (ckS t N sc a st && ckSs t N sc ss sts) := by
  cases a <;> first | (cases h; done) | (rw [ckSs]; intro _ z; cases z)
theorem ckSs_nil {sc : Scope} {a : S} {ss : Ss} (h : isFrz a = false) : ckSs t N sc (.cons a ss) [] = false := by
  cases a <;> first | (cases h; done) | (unfold ckSs; rfl)
mutual
theorem sS : ∀ (a : S) {X : L2.Cx} {sc : Scope} {W : WX} (_ : XOk t wf N n X sc W) (_ : Stores X sc none) (st : Stmt), ckS t N sc a st = true → PS X st (tSt X.K X.mg W (denS (cxt t wf n) a)) := by
  intro a X sc W ok so st h
  have hN : X.N.Nodup := by rw [ok.hN]; exact ok.nd
  cases a with
  | ex e =>
    unfold ckS at h
    split at h <;> first | contradiction | (rename_i heq; cases heq)
    obtain ⟨h1, h2⟩ := and2 h
    exact psW (ps_expr (sE e ok _ h2) (hs := comp_sw (sc := sc) (e := e) (nt h1) none _ _)) fun D σ H q => ex_w q
  | asg tg e =>
    unfold ckS at h
    split at h <;> first | contradiction | (rename_i heq; cases heq)
    split at h
    · obtain ⟨h1, h3⟩ := and2 h
      obtain ⟨h1, h2⟩ := and2 h1
      exact psW (ps_nm ok so h1 h2 h3) fun D σ H q => asg_w q
    · obtain ⟨h1, h5⟩ := and2 h
      obtain ⟨h1, h4⟩ := and2 h1
      obtain ⟨h1, h3⟩ := and2 h1
      obtain ⟨h1, h2⟩ := and2 h1
      exact psW (ps_tup ok (sE e ok _ h3) (pg_T ok.hN ok.nd ok.calm so tg _ h2) h1 h4 (by simpa using h5)) fun D σ H q => asg_w q
  | asgO i e =>
    unfold ckS at h
    split at h <;> first | contradiction | (rename_i heq; cases heq)
    obtain ⟨h1, h3⟩ := and2 h
    obtain ⟨h1, h2⟩ := and2 h1
    exact psW (ps_nm ok so h1 h2 h3) fun D σ H q => asgO_w q
  | asgC i e =>
    unfold ckS at h
    split at h <;> first | contradiction | (rename_i heq; cases heq)
    obtain ⟨h1, h3⟩ := and2 h
    obtain ⟨h1, h2⟩ := and2 h1
    exact psW (ps_nm ok so h1 h2 h3) fun D σ H q => asgC_w q
  | star l e =>
    unfold ckS at h
    split at h <;> first | contradiction | (rename_i heq; cases heq)
    rename_i es k p v pos
    obtain ⟨h1, h3⟩ := and2 h
    obtain ⟨h1, h2⟩ := and2 h1
    split at h3
    · next es' eu =>
      obtain ⟨z1, z2, z3⟩ := unst_len (env := X.env) eu
      obtain ⟨y1, y2, y3⟩ := asg_facts (env := X.env) h3
      have ne : l.len - 1 + 1 = l.len := by
        cases es' with
        | nil => exact absurd rfl z3
        | cons _ _ => rw [List.length_cons] at y3; omega
      have hs : (assignEach es X.env).map (·.2) = (assignEach es' X.env).map (·.2) := by
        rcases unst_facts (env := X.env) eu with z | ⟨e', he, z⟩
        · exact z
        · exfalso
          have : ∀ {l : Tgs} {es : List Expr}, ckTgs N sc none l es = true → ∀ e ∈ es, notStar e = true := by
            intro l es
            induction es generalizing l with
            | nil => exact fun _ _ z => nomatch z
            | cons e es ih =>
              intro h e' he'
              cases l with
              | nil => unfold ckTgs at h; cases h
              | cons tg l =>
                unfold ckTgs at h
                obtain ⟨h1, h2⟩ := and2 h
                rcases List.mem_cons.mp he' with rfl | he'
                · cases tg <;> cases e' <;> first | rfl | (unfold ckTg at h1; cases h1)
                · exact ih h2 e' he'
          rw [this h3 e' he] at z
          cases z
      have pg := pg_star (m := l.len - 1) (k := k) (pos := p) ok.calm (pgs_T ok.hN ok.nd ok.calm so l es' h3) hs (by rw [z1, y3, ne]) (by rw [z2, y3])
      have hv : swappedStores [.Tuple es k p] v X.env = pure none := by
        cases v <;> first | rfl | cases h1
      exact psW (ps_asg (tD_of (sE e ok _ h2)) pg (hs := sole_sw rfl) (hw := hv) (h1 := rfl)) fun D σ H q => star_w q
    · cases h3
  | par l es =>
    unfold ckS at h
    split at h <;> first | contradiction | (rename_i heq; cases heq)
    obtain ⟨h1, h6⟩ := and2 h
    obtain ⟨h2, h3⟩ := and2 h1
    rcases Bool.or_eq_true_iff.mp h6 with h6 | h6
    · obtain ⟨h7, h10⟩ := and2 h6
      obtain ⟨h7, h9⟩ := and2 h7
      obtain ⟨h7, h8⟩ := and2 h7
      exact sPar ok h7 h2 h3 (dec h8) (dec h9) (dec h10)
    · obtain ⟨h7, h9⟩ := and2 h6
      obtain ⟨h7, h8⟩ := and2 h7
      exact sPar2 ok so h7 h2 h3 (by simpa using h8) (dec h9)
  | ret e =>
    unfold ckS at h
    split at h <;> first | contradiction | (rename_i heq; cases heq)
    exact psW (ps_ret (sE e ok _ h)) fun D σ H q => ret_w q
  | retF e =>
    unfold ckS at h
    split at h <;> first | contradiction | (rename_i heq; cases heq)
    exact psW (ps_ret (sE e ok _ h)) fun D σ H q => retF_w q
  | retN =>
    unfold ckS at h
    split at h <;> first | contradiction | (rename_i heq; cases heq)
    exact psW ps_retN fun D σ H q => retN_w q
  | iff c a b =>
    unfold ckS at h
    split at h <;> first | contradiction | (rename_i heq; cases heq)
    obtain ⟨h1, h3⟩ := and2 h
    obtain ⟨h1, h2⟩ := and2 h1
    exact psW (ps_if (sT c ok _ h1) (sSs a ok so _ h2) (sSs b ok so _ h3)) fun D σ H q => if_w q
  | for_ it tg b =>
    unfold ckS at h
    split at h <;> first | contradiction | (rename_i heq; cases heq)
    obtain ⟨h1, h4⟩ := and2 h
    obtain ⟨h1, h3⟩ := and2 h1
    obtain ⟨h1, h2⟩ := and2 h1
    exact psW (ps_for ok.po ok.calm (sIt it ok _ _ h1) (pg_T ok.hN ok.nd ok.calm so tg _ h3) (sSs b ok so _ h4) (notSet_f h2 _)) fun D σ H q => for_w q
  | whl c b =>
    unfold ckS at h
    split at h <;> first | contradiction | (rename_i heq; cases heq)
    obtain ⟨h1, h2⟩ := and2 h
    exact psW (ps_while ok.po (sT c ok _ h1) (sSs b ok so _ h2)) fun D σ H q => whl_w q
  | app i e =>
    unfold ckS at h
    split at h <;> first | contradiction | (rename_i heq; cases heq)
    obtain ⟨h1, h7⟩ := and2 h
    obtain ⟨h1, h6⟩ := and2 h1
    obtain ⟨h1, h5⟩ := and2 h1
    obtain ⟨h1, h4⟩ := and2 h1
    obtain ⟨h1, h3⟩ := and2 h1
    obtain ⟨h1, h2⟩ := and2 h1
    cases dec h1
    exact psW (ps_expr (pe_bm PySem.F.plainAttrs_list PySem.F.slot_list_append PySem.F.type_list_append mt_append (nm_vis ok h3 h4 h5) (pa_cons (sE e ok _ h7) pa_nil (star_cons h6)) (hbase := rfl) (hfew := few1 h6) (hline := h2) (hs := star_cons h6) (hplain := rfl)) (hs := rfl)) fun D σ H q => app_w q
  | ext i e =>
    unfold ckS at h
    split at h <;> first | contradiction | (rename_i heq; cases heq)
    obtain ⟨h1, h7⟩ := and2 h
    obtain ⟨h1, h6⟩ := and2 h1
    obtain ⟨h1, h5⟩ := and2 h1
    obtain ⟨h1, h4⟩ := and2 h1
    obtain ⟨h1, h3⟩ := and2 h1
    obtain ⟨h1, h2⟩ := and2 h1
    cases dec h1
    exact psW (ps_expr (pe_bm PySem.F.plainAttrs_list PySem.F.slot_list_extend PySem.F.type_list_extend mt_extend (nm_vis ok h3 h4 h5) (pa_cons (sE e ok _ h7) pa_nil (star_cons h6)) (hbase := rfl) (hfew := few1 h6) (hline := h2) (hs := star_cons h6) (hplain := rfl)) (hs := rfl)) fun D σ H q => ext_w q
  | setO i ix e =>
    unfold ckS at h
    split at h <;> first | contradiction | (rename_i heq; cases heq)
    rename_i y _ _ _
    obtain ⟨h1, h6⟩ := and2 h
    obtain ⟨h1, h5⟩ := and2 h1
    obtain ⟨h1, h4⟩ := and2 h1
    obtain ⟨h1, h3⟩ := and2 h1
    obtain ⟨h1, h2⟩ := and2 h1
    exact psW (ps_asg (sE e ok _ h6) (pg_sub (nm_vis ok h1 h2 h3) (sE ix ok _ h5) set_list (by
      intro v
      cases y <;> first | rfl | cases h4)) (hs := sub_sw) (hw := sub_st) (h1 := rfl)) fun D σ H q => setO_w q
  | setR a ix e =>
    unfold ckS at h
    split at h <;> first | contradiction | (rename_i heq; cases heq)
    rename_i y _ _ _
    obtain ⟨h1, h4⟩ := and2 h
    obtain ⟨h1, h3⟩ := and2 h1
    obtain ⟨h1, h2⟩ := and2 h1
    exact psW (ps_asg (sE e ok _ h4) (pg_sub (sE a ok _ h2) (sE ix ok _ h3) set_list (by
      intro v
      cases y <;> first | rfl | cases h1)) (hs := sub_sw) (hw := sub_st) (h1 := rfl)) fun D σ H q => setR_w q
  | aug i o e =>
    unfold ckS at h
    split at h <;> first | contradiction | (rename_i heq; cases heq)
    obtain ⟨h1, h6⟩ := and2 h
    obtain ⟨h1, h5⟩ := and2 h1
    obtain ⟨h1, h4⟩ := and2 h1
    obtain ⟨h1, h3⟩ := and2 h1
    obtain ⟨h1, h2⟩ := and2 h1
    cases dec h2
    have hi := of_decide_eq_true h3
    rw [← ok.hN] at hi
    obtain ⟨l1, l2⟩ := so _ h4
    cases o with
    | add => exact psW (ps_aug hN hi l1 (sE e ok _ h6) ip_add (hf := l2)) fun D σ H q => aug_w q
    | sub => exact psW (ps_aug hN hi l1 (sE e ok _ h6) ip_sub (hf := l2)) fun D σ H q => aug_w q
    | _ => cases h1
  | brk =>
    unfold ckS at h
    split at h <;> first | contradiction | (rename_i heq; cases heq)
    exact psW ps_break fun D σ H q => brk_w q
  | cont =>
    unfold ckS at h
    split at h <;> first | contradiction | (rename_i heq; cases heq)
    exact psW ps_continue fun D σ H q => cont_w q
  | pass =>
    unfold ckS at h
    split at h <;> first | contradiction | (rename_i heq; cases heq)
    · exact psW ps_pass fun D σ H q => pass_w q
    · exact psW ps_doc fun D σ H q => pass_w q
  | frz i =>
    unfold ckS at h
    cases h
theorem sSs : ∀ (ss : Ss) {X : L2.Cx} {sc : Scope} {W : WX} (_ : XOk t wf N n X sc W) (_ : Stores X sc none) (sts : List Stmt), ckSs t N sc ss sts = true → PSs X sts (tSt X.K X.mg W (denSs (cxt t wf n) ss)) := by
  intro ss X sc W ok so sts h
  cases ss with
  | nil =>
    unfold ckSs at h
    split at h <;> first | contradiction | (rename_i heq; cases heq)
    exact pssW pss_nil fun D σ H q => nil_w q
  | cons a ss =>
    cases hf : isFrz a with
    | true =>
      cases a with
      | frz i =>
        unfold ckSs at h
        exact pssW (sSs ss ok so sts h) fun D σ H q => frz_w q
      | _ => cases hf
    | false =>
      cases sts with
      | nil => rw [ckSs_nil hf] at h; cases h
      | cons st sts =>
        rw [ckSs_cons hf] at h
        obtain ⟨h1, h2⟩ := and2 h
        exact pssW (pss_cons (sS a ok so st h1) (sSs ss ok so sts h2)) fun D σ H q => seq_w q
end
end
end Z
end

section
namespace Z
open PySem PySem.Spec PyProof.Rows L2

section
variable {K : PySem.W.Frag} {mg : Str → Option Value} {F : Addr → Prop} {B : Nat → Option Addr} {H : Hp} {h : LH}
/-! ### where a def starts -/
theorem start_at {N : List Str} {vs : List V} {i : Nat} {v : V} (e : vs[i]? = some v) : (L2.start N vs)[i]? = some (some v) := by
  unfold L2.start
  have hi := (List.getElem?_eq_some_iff.mp e).1
  rw [List.getElem?_append_left (by rw [List.length_map]; exact hi), List.getElem?_map, e]
  rfl
theorem startE_val {f : Fn} {ds : List D} {i : Nat} {d : D} (e : (startE f ds)[i]? = some (.val d)) : ds[i]? = some d := by
  unfold startE at e
  by_cases hi : i < ds.length
  · rw [List.getElem?_append_left (by rw [List.length_map]; exact hi), List.getElem?_map] at e
    cases q : ds[i]? with
    | none => rw [q] at e; cases e
    | some x => rw [q] at e; cases e; rfl
  · rw [List.getElem?_append_right (by rw [List.length_map]; omega), List.getElem?_replicate] at e
    split at e <;> cases e
theorem startE_own {f : Fn} {ds : List D} {i : Nat} {xs : List D} (e : (startE f ds)[i]? = some (.own xs)) : False := by
  unfold startE at e
  by_cases hi : i < ds.length
  · rw [List.getElem?_append_left (by rw [List.length_map]; exact hi), List.getElem?_map] at e
    cases q : ds[i]? with
    | none => rw [q] at e; cases e
    | some x => rw [q] at e; cases e
  · rw [List.getElem?_append_right (by rw [List.length_map]; omega), List.getElem?_replicate] at e
    split at e <;> cases e
theorem SR.start {f : Fn} {ds : List D} {vs : List V} (nF : ∀ b, F b → H b ≠ none) (hr : HR K mg F B h H) (r : RDs K mg F B H ds vs) (hl : ds.length ≤ f.ns.length) : SR K mg F B (fun _ => none) (startE f ds) h (L2.start f.ns vs) H where
  len := by
    unfold startE L2.start
    rw [List.length_append, List.length_append, List.length_map, List.length_map, List.length_replicate, List.length_replicate, r.length]
  val := fun i d e => by
    obtain ⟨v, e1, e2⟩ := r.get (startE_val e)
    exact ⟨v, start_at e1, by rw [ft_none]; exact e2⟩
  own := fun i xs e => (startE_own e).elim
  ft := fun a z => by rw [ft_none] at z; exact nF a z
  inj := fun _ _ _ e => nomatch e
  sep := fun _ _ e => nomatch e
  ol := fun _ _ e => nomatch e
  heap := by rw [ft_none]; exact hr
end
/-- a def of the text -/
structure FnSrc (K : PySem.W.Frag) (mg : Str → Option Value) (t : Tab) (fn : Fn) : Prop where
  ex : ∃ (f : Addr) (fd : FuncData) (params : Arguments) (body : List Stmt) (scope : Scope) (dvs : List V) (kws : List (Str × V)), FunD K fn.name fn.name params body scope dvs kws f fd ∧ mg fn.name = some (.ref f) ∧
    C8.scC fn.ns (fn.ns.take fn.np) scope = true ∧ ckSs t fn.ns scope fn.body body = true ∧ (fn.ns.take fn.np).length = fn.np ∧
    ∀ k, k ≤ fn.np → fn.np ≤ k + fn.dfl.length → ∃ (dvs : List V) (ds : List Value), Vals dvs ds ∧ Binds K fd (fn.ns.take fn.np) ds ∧ ∀ F B H, RDs K mg F B H (fn.dfl.drop (fn.dfl.length + k - fn.np)) dvs
section
variable {t : Tab} {wf : Nat} {K : PySem.W.Frag} {mg : Str → Option Value} {prog : Program} {w : World} {base : Heap}
theorem cxS {CX : CXT} {N : List Str} {qual : Str} {scope : Scope} {f : Addr} {cd : Value} {A : Around} {outer : List PySem.Env} {s : Shared} {H : Hp} {E : XK} : Stores (cxOf CX prog w K mg base N qual scope f cd A outer s H E) scope none := fun x h => by
  unfold locB at h
  split at h
  · next e => exact ⟨.inl e, .inr e⟩
  · next e => exact ⟨.inr e, .inl rfl⟩
  · cases h
theorem post_ret {r : Res Fl} {F : Addr → Prop} {B : Nat → Option Addr} {H : Hp} {Q : VK} {E : XK} (nF : ∀ b, F b → H b ≠ none) 
    (q : r.post (fun fl h1 => ((match fl with
      | .ret r => pur r
      | .nx _ => pur (.v .non)
      | _ => bad : M Rv) h1).post (fun rv h' => ∀ B' H' v, Ext Z.E0 B B' H H' → HR K mg F B' h' H' → RR K mg F B' (fun _ => none) h' H H' rv v → Q v H') (EX K mg F B H E)) (EX K mg F B H E)) :
    r.post (FlR K mg F B (fun _ => none) H { nx := fun _ H' => Q .non H', rt := Q }) (EXs K mg F B (fun _ => none) H fun C d _ H' => E C d H') := by
  have p0 : ∀ {B' H'}, Ext (Pw fun _ => none) B B' H H' → Ext Z.E0 B B' H H' := fun x => x.mono fun _ ⟨_, z⟩ => nomatch z
  refine post_mono q (fun fl h1 z => ?_) fun c fs h1 z => fun B' H' σ' C dd vs x hr e1 e2 e3 => z B' H' C dd vs (p0 x) hr e1 e2 e3
  cases fl with
  | nx ρ' =>
    intro B' H' ow' σ' x n s
    exact z B' H' .non (p0 x) (s.heap.weak fun _ y _ => .inl y) .non
  | ret rv =>
    intro B' H' v x rr
    cases rv with
    | v d => exact z B' H' v (p0 x) rr.2 (by show RD K mg (Ft F fun _ => none) B' H' d v; rw [ft_none]; exact rr.1)
    | fr xs =>
      obtain ⟨a, vs, e1, e2, e3, nr, nf, r1, r2⟩ := rr
      refine z B' H' v (p0 x) (r2.weak fun _ y _ => .inl y) ⟨a, vs, e1, ?_, e3, nr, nf, (fun _ z => nomatch z), by rw [ft_none]; exact r1, by rw [ft_none]; exact r2⟩
      rcases e2 with ⟨_, z⟩ | z
      · cases z
      · exact z
    | bw xs => exact rr.elim
  | brk _ => exact z.elim
  | cont _ => exact z.elim
/-- what a def does, by its meaning m -/
def spF (K : PySem.W.Frag) (mg : Str → Option Value) (fn : Fn) (m : List D → M Rv) : Sp := fun vs H Q E => vs.length = (fn.ns.take fn.np).length ∧ ∃ F B h ds, (∀ b, F b → H b ≠ none) ∧ HR K mg F B h H ∧ RDs K mg F B H ds vs ∧
  (m ds h).post (fun rv h' => ∀ B' H' v, Ext Z.E0 B B' H H' → HR K mg F B' h' H' → RR K mg F B' (fun _ => none) h' H H' rv v → Q v H') (EX K mg F B H E)
structure Mods (K : PySem.W.Frag) (mg : Str → Option Value) (t : Tab) : Prop where
  src : ∀ (f : Nat) fn, t.fs[f]? = some fn → FnSrc K mg t fn
  glos : ∀ x d, t.glo x = some d → ∃ u v, mg x = some u ∧ RelV v u ∧ ∀ F B H, RD K mg F B H d v
  bis : ∀ b : Bi, mg (biN b) = none
  bix : ∀ x : Str, x ∈ (["isinstance", "range", "zip", "enumerate", "bool", "NoneType", "dict"] : List String).map Str.ofString → mg x = none
theorem fn_step (M : Mods K mg t) {n : Nat} (ih : ∀ (f : Nat) fn, t.fs[f]? = some fn → FnAt K mg prog w base n fn (run t.fs t.glo wf n f)) {f : Nat} {fn : Fn} (e : t.fs[f]? = some fn)
    {a : Addr} {fd : FuncData} {params : Arguments} {body : List Stmt} {scope : Scope} {dvs : List V} {kws : List (Str × V)} (F : FunD K fn.name fn.name params body scope dvs kws a fd) (hsc : C8.scC fn.ns (fn.ns.take fn.np) scope = true) (hck : ckSs t fn.ns scope fn.body body = true)
    (hl : (fn.ns.take fn.np).length = fn.np) : FnOk prog w K mg base (L2.CX prog w) (n + 1) a fd (fn.ns.take fn.np) (spF K mg fn (run t.fs t.glo wf (n + 1) f)) := by
  have S := C8.fnScope_by hsc
  refine F.ok S (fun vs H Q E z => z.1) fun cdv A outer s H vs Q E hr z => ?_
  have ok : XOk t wf fn.ns n (cxOf (L2.CX prog w) prog w K mg base fn.ns fn.name scope a cdv A outer s H E) scope (fun C d _ H' => E C d H') :=
    { hN := rfl
      nd := S.nd
      hs := rfl
      kd := S.kind
      calm := rfl
      room := hr
      tk := takes_of rfl rfl rfl rfl
      po := passes_of rfl
      fns := ih
      glos := M.glos
      bis := M.bis
      bix := M.bix }
  refine ⟨_, sSs fn.body ok cxS body hck, ?_⟩
  obtain ⟨z1, F', B, h, ds, nF, hr', r, z⟩ := z
  have hd : ds.length = fn.np := (r.length.trans z1).trans hl
  refine ⟨F', B, _, startE fn ds, h, SR.start nF hr' r ?_, post_ret nF ?_⟩
  · rw [hd, ← hl]
    exact List.length_take_le' _ _
  · unfold run at z
    rw [e] at z
    have z : (runF ⟨run t.fs t.glo wf n, t.glo, wf⟩ fn ds h).post _ _ := z
    unfold runF at z
    have ed : fn.dfl.drop (fn.dfl.length + ds.length - fn.np) = [] := by
      rw [hd, Nat.add_sub_cancel]
      exact List.drop_length
    rw [if_pos ⟨Nat.le_of_eq hd, by omega⟩, ed, List.append_nil] at z
    exact post_bnd.1 z
theorem fn_all (M : Mods K mg t) : ∀ (n f : Nat) fn, t.fs[f]? = some fn → FnAt K mg prog w base n fn (run t.fs t.glo wf n f) := by
  intro n
  induction n with
  | zero =>
    intro f fn e
    obtain ⟨a, fd, params, body, scope, dvs, kws, F, hm, hsc, hck, hl, hb⟩ := (M.src f fn e).ex
    refine ⟨a, fd, hm, F.kp, ⟨fun vs H Q E z => z.1, fun A outer s H args us vs Q E _ _ _ _ z => ?_⟩, fun k h1 h2 => ?_⟩
    · obtain ⟨_, F', B, h, ds, _, _, _, z⟩ := z
      exact z.elim
    · obtain ⟨dv, ds, q1, q2, q3⟩ := hb k h1 h2
      exact ⟨dv, ds, q1, q2, q3, hl⟩
  | succ n ih =>
    intro f fn e
    obtain ⟨a, fd, params, body, scope, dvs, kws, F, hm, hsc, hck, hl, hb⟩ := (M.src f fn e).ex
    refine ⟨a, fd, hm, F.kp, fn_step M ih e F hsc hck hl, fun k h1 h2 => ?_⟩
    obtain ⟨dv, ds, q1, q2, q3⟩ := hb k h1 h2
    exact ⟨dv, ds, q1, q2, q3, hl⟩
end
end Z
end

section
namespace Z
open PySem PySem.Spec PyProof.Rows L2

/-! ### what the module's top has made -/
mutual
def valB (K : PySem.W.Frag) : Nat → D → Value → Bool
  | _, .non, .none => true
  | _, .bl b, .bool c => b == c
  | _, .int i, .int j _ => decide (i = j)
  | _, .str s, .str x _ => decide (x = str s) && okS s
  | n + 1, .tup ds, .ref a => (match K.lookup a with
    | some ⟨.type c, _, .seq its _, _⟩ => decide (c = "tuple") && (decide (its.size ≤ sizeLine) && valBs K n ds its.toList)
    | _ => false)
  | _, _, _ => false
def valBs (K : PySem.W.Frag) : Nat → List D → List Value → Bool
  | _, [], [] => true
  | n, d :: ds, u :: us => valB K n d u && valBs K n ds us
  | _, _, _ => false
end
section
variable {K : PySem.W.Frag} {mg : Str → Option Value}
mutual
theorem valB_ok : ∀ (n : Nat) (d : D) (u : Value), valB K n d u = true → ∃ v, RelV v u ∧ ∀ F B H, RD K mg F B H d v := by
  intro n d u h
  cases d with
  | non => cases u <;> first | exact ⟨.non, rfl, fun _ _ _ => .non⟩ | (unfold valB at h; cases h)
  | bl b =>
    cases u with
    | bool c =>
      unfold valB at h
      cases (show b = c by simpa using h)
      exact ⟨.bl b, rfl, fun _ _ _ => .bl b⟩
    | _ => unfold valB at h; cases h
  | int i =>
    cases u with
    | int j tk =>
      unfold valB at h
      cases of_decide_eq_true h
      exact ⟨.int i, ⟨tk, rfl⟩, fun _ _ _ => .int i⟩
    | _ => unfold valB at h; cases h
  | str s =>
    cases u with
    | str x tk =>
      unfold valB at h
      obtain ⟨h1, h2⟩ := and2 h
      cases of_decide_eq_true h1
      exact ⟨.str (str s), ⟨tk, rfl⟩, fun _ _ _ => .str s h2⟩
    | _ => unfold valB at h; cases h
  | tup ds =>
    cases n with
    | zero => unfold valB at h; cases h
    | succ n =>
      cases u with
      | ref a =>
        unfold valB at h
        split at h
        · next c od its m sl e =>
          obtain ⟨h1, h2⟩ := and2 h
          obtain ⟨h2, h3⟩ := and2 h2
          cases of_decide_eq_true h1
          obtain ⟨vs, r1, r2⟩ := valBs_ok n ds its.toList h3
          exact ⟨.ref a, rfl, fun F B H => .tup (.inr ⟨_, its, m, e, rfl, rfl, of_decide_eq_true h2, r1⟩) (r2 F B H)⟩
        · cases h
      | _ => unfold valB at h; cases h
  | _ => cases n <;> cases u <;> (unfold valB at h; cases h)
theorem valBs_ok : ∀ (n : Nat) (ds : List D) (us : List Value), valBs K n ds us = true → ∃ vs, Vals vs us ∧ ∀ F B H, RDs K mg F B H ds vs := by
  intro n ds us h
  cases ds with
  | nil => cases us with
    | nil => exact ⟨[], .nil, fun _ _ _ => .nil⟩
    | cons _ _ => unfold valBs at h; cases h
  | cons d ds => cases us with
    | nil => unfold valBs at h; cases h
    | cons u us =>
      unfold valBs at h
      obtain ⟨h1, h2⟩ := and2 h
      obtain ⟨v, a1, a2⟩ := valB_ok n d u h1
      obtain ⟨vs, b1, b2⟩ := valBs_ok n ds us h2
      exact ⟨v :: vs, .cons a1 b1, fun F B H => .cons (a2 F B H) (b2 F B H)⟩
end
end
/-! ### the module's names and defs -/
def dvOf (x : Str) (j : Nat) : D → He.Dv
  | .non => .non
  | .bl b => .bl b
  | .int i => .int i
  | .str s => .str (str s)
  | _ => .adr (He.dflAt (x, none) j)
def dvsOf (x : Str) : Nat → List D → List He.Dv
  | _, [] => []
  | j, d :: ds => dvOf x j d :: dvsOf x (j + 1) ds
def ddOf (st : Stmt) (fn : Fn) : He.DefD := ⟨(fn.name, none), fn.name, fn.name, defArgs st, defBody st, defScope st, dvsOf fn.name 0 fn.dfl, []⟩
def dflC (K : PySem.W.Frag) (x : Str) : Nat → List D → Bool
  | _, [] => true
  | j, d :: ds => (match d with
    | .non => true
    | .bl _ => true
    | .int _ => true
    | .str s => okS s
    | .tup es => valB K 9 (.tup es) (.ref (He.dflAt (x, none) j K) )
    | _ => false) && dflC K x (j + 1) ds
def gloC (K : PySem.W.Frag) (p : Str × D) : Bool := match PySem.W.nsIn K mainGlobals p.1 with
  | some (some u) => valB K 9 p.2 u
  | _ => false
/-- all that the head is to tell of the tables -/
def exC (gl : List (Str × D)) (fs : List Fn) (K : PySem.W.Frag) : Bool := gl.all (gloC K) && fs.all fun fn => dflC K fn.name 0 fn.dfl
def freeNames : List String := ["len", "abs", "int", "str", "list", "tuple", "sorted", "all", "any", "max", "min", "set", "isinstance", "range", "zip", "enumerate", "bool", "NoneType", "dict"]
def faOf (fs : List Fn) : List He.Fa := fs.map (fun fn => .glo fn.name) ++ freeNames.map fun x => .free x
/-- what the binder does with all arguments given; with k of them -/
def BindN (st : Stmt) (fn : Fn) : Prop := ∀ (kV doc pm : Value) (an : Option Addr) (cdv ct : Value) (us : List Value), us.length = (fn.ns.take fn.np).length → bindArgs (PySem.W.fnOf fn.name fn.name (defArgs st) (defBody st) (defScope st) .none kV doc pm an cdv ct) ⟨us, []⟩ = pure ((fn.ns.take fn.np).zip us)
def BindK (st : Stmt) (fn : Fn) (n : Nat) : Prop := ∀ (T : Addr) (kV doc pm : Value) (an : Option Addr) (cdv ct : Value) (us its : List Value), us.length = n → its.length = fn.dfl.length →
  ∃ k, bindArgs (PySem.W.fnOf fn.name fn.name (defArgs st) (defBody st) (defScope st) (.ref T) kV doc pm an cdv ct) ⟨us, []⟩ = seqItems? (.ref T) >>= k ∧ k (some its.toArray) = pure ((fn.ns.take fn.np).zip (us ++ its.drop (fn.dfl.length + n - fn.np)))
def BindA (st : Stmt) (fn : Fn) : Prop := (fn.dfl = [] ∧ BindN st fn) ∨ (fn.dfl ≠ [] ∧ ∀ k, k ≤ fn.np → fn.np ≤ k + fn.dfl.length → BindK st fn k)
def ckFn (t : Tab) (st : Stmt) (fn : Fn) : Bool := C8.scC fn.ns (fn.ns.take fn.np) (defScope st) && (ckSs t fn.ns (defScope st) fn.body (defBody st) && decide ((fn.ns.take fn.np).length = fn.np))
section
variable {K : PySem.W.Frag} {mg : Str → Option Value}
theorem dvs_len {x : Str} : ∀ {j : Nat} {ds : List D}, (dvsOf x j ds).length = ds.length
  | _, [] => rfl
  | j, d :: ds => by
    unfold dvsOf
    rw [List.length_cons, List.length_cons, dvs_len]
theorem dfl_ok {x : Str} : ∀ {j : Nat} {ds : List D}, dflC K x j ds = true → ∀ F B H, RDs K mg F B H ds ((dvsOf x j ds).map (He.Dv.v K))
  | _, [], _ => fun _ _ _ => .nil
  | j, d :: ds, h => fun F B H => by
    unfold dflC at h
    obtain ⟨h1, h2⟩ := and2 h
    refine .cons ?_ (dfl_ok h2 F B H)
    cases d with
    | non => exact .non
    | bl b => exact .bl b
    | int i => exact .int i
    | str s => exact .str s h1
    | tup es =>
      obtain ⟨v, r, q⟩ := valB_ok 9 (.tup es) (.ref (He.dflAt (x, none) j K)) h1
      have r2 := q F B H
      cases r2 with
      | tup g1 g2 =>
        cases (show Value.ref _ = Value.ref (He.dflAt (x, none) j K) from r.symm)
        exact .tup g1 g2
    | _ => cases h1
theorem src_of {t : Tab} {st : Stmt} {fn : Fn} {f : Addr} {fd : FuncData} (F : FunD K fn.name fn.name (defArgs st) (defBody st) (defScope st) ((dvsOf fn.name 0 fn.dfl).map (He.Dv.v K)) [] f fd) (hm : mg fn.name = some (.ref f)) (hc : ckFn t st fn = true)
    (hd : dflC K fn.name 0 fn.dfl = true) (hb : BindA st fn) : FnSrc K mg t fn := by
  obtain ⟨h1, h2⟩ := and2 hc
  obtain ⟨h2, h3⟩ := and2 h2
  have h3 := dec h3
  refine ⟨f, fd, _, _, _, _, _, F, hm, h1, h2, h3, fun k k1 k2 => ?_⟩
  rcases hb with ⟨e, b⟩ | ⟨e, b⟩
  · rw [e] at F k2 ⊢
    exact ⟨[], [], .nil, FunD.bindsN (ps := fn.ns.take fn.np) F b, fun _ _ _ => by rw [List.drop_nil]; exact .nil⟩
  · have ne : (dvsOf fn.name 0 fn.dfl).map (He.Dv.v K) ≠ [] := fun z => by
      have := congrArg List.length z
      rw [List.length_map, dvs_len] at this
      exact e (List.length_eq_zero_iff.mp this)
    have el : ((dvsOf fn.name 0 fn.dfl).map (He.Dv.v K)).length = fn.dfl.length := by rw [List.length_map, dvs_len]
    obtain ⟨ds, q1, q2⟩ := FunD.binds1 (ps := fn.ns.take fn.np) F k (fn.dfl.length + k - fn.np) ne (by rw [el, h3]; omega) (fun T kV doc pm an cdv ct us its hu hi => b k k1 k2 T kV doc pm an cdv ct us its hu (by rw [hi, el]))
    exact ⟨_, ds, q1, q2, fun F B H => (dfl_ok hd F B H).drop _⟩
/-- the module behind its head: every def of the table -/
theorem mods_of {w : World} {h : Heap} {gl : List (Str × D)} {fs : List Fn} {sts : List Stmt} (X : K.In h) (G : h.Ns mainGlobals mg) (c : He.SaysX (faOf fs) ((sts.zip fs).map fun p => ddOf p.1 p.2) [] [] (exC gl fs) w h K)
    (hl : sts.length = fs.length) (hck : (sts.zip fs).all (fun p => ckFn ⟨fs, gl⟩ p.1 p.2) = true) (hb : ∀ p ∈ sts.zip fs, BindA p.1 p.2) : Mods K mg ⟨fs, gl⟩ := by
  have cd : He.SaysD (faOf fs) ((sts.zip fs).map fun p => ddOf p.1 p.2) K := c.t.d
  obtain ⟨m1, m2⟩ := and2 c.more
  have free : ∀ x ∈ freeNames, mg (x : Str) = none := fun x hx => He.free_ok X G (cd.facts (List.mem_append_right _ (List.mem_map.mpr ⟨x, hx, rfl⟩)))
  refine ⟨fun f fn e => ?_, fun x d e => ?_, fun b => ?_, fun x hx => ?_⟩
  · have e : fs[f]? = some fn := e
    have hf := (List.getElem?_eq_some_iff.mp e).1
    obtain ⟨st, es⟩ : ∃ st, sts[f]? = some st := ⟨sts[f]'(by rw [hl]; exact hf), List.getElem?_eq_getElem _⟩
    have em : (st, fn) ∈ sts.zip fs := List.mem_of_getElem? (i := f) (by rw [List.getElem?_zip_eq_some]; exact ⟨es, e⟩)
    obtain ⟨fd, F⟩ := cd.defs (List.mem_map.mpr ⟨(st, fn), em, rfl⟩)
    have hm := He.glo_ok X G (x := fn.name) (cd.facts (List.mem_append_left _ (List.mem_map.mpr ⟨fn, List.mem_of_getElem? e, rfl⟩)))
    exact src_of F hm (List.all_eq_true.mp hck _ em) (List.all_eq_true.mp m2 fn (List.mem_of_getElem? e)) (hb _ em)
  · have hx : (x, d) ∈ gl := by
      have e : gl.lookup x = some d := e
      exact PySem.mem_of_lookup e
    have q := List.all_eq_true.mp m1 _ hx
    unfold gloC at q
    split at q
    · next u eu =>
      obtain ⟨v, r, z⟩ := valB_ok (mg := mg) 9 d u q
      exact ⟨u, v, PySem.W.mg_of X G eu, r, z⟩
    · cases q
  · cases b <;> exact free _ (by unfold freeNames biN; simp)
  · obtain ⟨y, hy, rfl⟩ := List.mem_map.mp hx
    refine free y ?_
    revert y
    decide
/-- whatever the world -/
def CXw (P : Program) : CXT := fun outer H s E u s' => ∃ w, L2.CX P w outer H s E u s'
theorem FnOk.up {P : Program} {w : World} {base : Heap} {k : Nat} {f : Addr} {fd : FuncData} {ps : List Str} {sp : Sp} (F : FnOk P w K mg base (L2.CX P w) k f fd ps sp) : FnOk P w K mg base (CXw P) k f fd ps sp :=
  ⟨F.len, fun A outer s H args us vs Q E hr he hb hv hs => codeAny_mono (F.run A outer s H args us vs Q E hr he hb hv hs) fun r s' h => by
    cases r with
    | error e => exact ⟨w, h⟩
    | ok fl => cases fl <;> exact h⟩
/-- the law's def, as the head wants it -/
theorem law_F {P : Program} {w : World} {h : Heap} {gl : List (Str × D)} {fs : List Fn} {sts : List Stmt} {wf n nl f : Nat} {fn : Fn} {st : Stmt} {x : Str} {fa : Addr}
    (hw : ∀ ns : List Int, ns.length ≤ nl → ∃ h', run fs (Tab.glo ⟨fs, gl⟩) wf (n + 1) f [.scr ns] [] = .ok (.v (.bl true)) h')
    (Y : ∃ K : PySem.W.Frag, K.In h ∧ He.SaysX (faOf fs) ((sts.zip fs).map fun p => ddOf p.1 p.2) [] [] (exC gl fs) w h K) (G : h.Ns mainGlobals mg) (hmg : mg fn.name = some (.ref fa)) (e : fs[f]? = some fn) (est : sts[f]? = some st)
    (hfn : fn.ns.take fn.np = [x]) (hd : fn.dfl = []) (hl : sts.length = fs.length) (hck : (sts.zip fs).all (fun p => ckFn ⟨fs, gl⟩ p.1 p.2) = true) (hb : ∀ p ∈ sts.zip fs, BindA p.1 p.2) :
    ∃ (K : PySem.W.Frag) (fd : FuncData) (sp : Sp), K.In h ∧ (∀ (s : Shared) (u : Value), BindsTo s fd ⟨[u], []⟩ [(x, u)]) ∧
      (∀ (H : Hp) (a : Addr) (ns : List Int), ns.length ≤ nl → Only H → SqL K H a (ns.map V.int) → sp [.ref a] H (fun v _ => v = .bl true) fun _ _ _ => False) ∧
      ∀ base : Heap, K.In base → base.Ns mainGlobals mg → FnOk P w K mg base (CXw P) (n + 1) fa fd [x] sp := by
  obtain ⟨K, X, c⟩ := Y
  have M := mods_of X G c hl hck hb
  have em : (st, fn) ∈ sts.zip fs := List.mem_of_getElem? (i := f) (by rw [List.getElem?_zip_eq_some]; exact ⟨est, e⟩)
  have cd : He.SaysD (faOf fs) ((sts.zip fs).map fun p => ddOf p.1 p.2) K := c.t.d
  obtain ⟨fd, F⟩ := cd.defs (List.mem_map.mpr ⟨(st, fn), em, rfl⟩)
  have hm := He.glo_ok X G (x := fn.name) (cd.facts (List.mem_append_left _ (List.mem_map.mpr ⟨fn, List.mem_of_getElem? e, rfl⟩)))
  rw [hmg] at hm
  cases hm
  obtain ⟨h1, h2⟩ := and2 (List.all_eq_true.mp hck _ em)
  obtain ⟨h2, h3⟩ := and2 h2
  have h3 := dec h3
  refine ⟨K, fd, spF K mg fn (run fs (Tab.glo ⟨fs, gl⟩) wf (n + 1) f), X, fun s u => ?_, fun H a ns hn hO hS => ?_, fun base _ _ => ?_⟩
  rotate_left
  rotate_left
  · rw [← hfn]
    exact FnOk.up (fn_step M (fn_all M n) e F h1 h2 h3)
  · have bn : BindN st fn := by
      rcases hb _ em with ⟨_, b⟩ | ⟨ne, _⟩
      · exact b
      · exact absurd hd ne
    have F' := F
    have ed : (ddOf st fn).dvs K = [] := by
      show (dvsOf fn.name 0 fn.dfl).map (He.Dv.v K) = []
      rw [hd]
      rfl
    rw [ed] at F'
    have q := FunD.bindsA (ps := fn.ns.take fn.np) F' bn s [u] (by rw [hfn]; rfl)
    rw [hfn] at q
    exact q
  · obtain ⟨h', eq⟩ := hw ns hn
    refine ⟨by rw [hfn]; rfl, Z.E0, fun _ => none, [], [.scr ns], fun _ z => z.elim, ⟨fun r o z => by simp at z, (fun _ _ z => nomatch z), (fun _ _ _ z => nomatch z), (fun _ _ z => nomatch z)⟩, .cons (.scr ?_) .nil, ?_⟩
    · rcases hS with hS | hS
      · exact .inl ⟨hS, fun z => z, (fun _ z => nomatch z)⟩
      · exact .inr fun H' => .inr hS
    · show (run fs (Tab.glo ⟨fs, gl⟩) wf (n + 1) f [.scr ns] []).post _ _
      rw [eq]
      intro B' H' v x hr r
      cases (show RD K mg (Ft Z.E0 fun _ => none) B' H' (.bl true) v from r)
      rfl
end
end Z
end

section
namespace ZW
open PySem (Str)
open Z

/-! ### rules for walking the little language by simp: what a part must give -/
abbrev XF : Str → List (Str × D) → LH → Prop := fun _ _ _ => False
/-- after a value -/
def kO {α : Type} (o : Option α) (Q : α → LH → Prop) (h : LH) : Prop := match o with
  | some a => Q a h
  | none => False
def kS (c : Cx) (ss : Ss) (Q : Fl → LH → Prop) (fl : Fl) (h : LH) : Prop := match fl with
  | .nx ρ => (denSs c ss ρ h).post Q XF
  | .ret r => Q (.ret r) h
  | .brk ρ => Q (.brk ρ) h
  | .cont ρ => Q (.cont ρ) h
def kB (x : Rv) (Q : Bool → LH → Prop) (h : LH) : Prop := match x with
  | .v (.bl k) => Q k h
  | _ => False
def kI (x : Rv) (Q : Int → LH → Prop) (h : LH) : Prop := match x with
  | .v (.int k) => Q k h
  | _ => False
def kF (x : Rv) (Q : List D → LH → Prop) (h : LH) : Prop := match x with
  | .fr xs => Q xs h
  | _ => False
def kStr (x : Rv) (Q : List Nat → LH → Prop) (h : LH) : Prop := match x with
  | .v (.str s) => Q s h
  | _ => False
def kVar (s : Slot) (Q : Rv → LH → Prop) (h : LH) : Prop := match s with
  | .val d => Q (.v d) h
  | _ => False
def kOwn (s : Slot) (Q : List D → LH → Prop) (h : LH) : Prop := match s with
  | .own d => Q d h
  | _ => False
def kRet (Q : Rv → LH → Prop) (fl : Fl) (h : LH) : Prop := match fl with
  | .ret r => Q r h
  | .nx _ => Q (.v .non) h
  | _ => False
section
variable {c : Cx} {ρ : Env} {h : LH}
theorem post_mono' {α : Type} {r : Res α} {Q Q' : α → LH → Prop} (p : r.post Q XF) (hq : ∀ a h, Q a h → Q' a h) : r.post Q' XF := by
  cases r with
  | ok a h => exact hq a h p
  | exc _ _ _ => exact p
  | bad => exact p
theorem pB {α β : Type} {m : M α} {f : α → M β} {Q : β → LH → Prop} : (bnd m f h).post Q XF = (m h).post (fun a h' => (f a h').post Q XF) XF := by
  unfold bnd
  cases m h <;> rfl
theorem pP {α : Type} {a : α} {Q : α → LH → Prop} : (pur a h).post Q XF = Q a h := rfl
theorem pO {α : Type} {o : Option α} {Q : α → LH → Prop} : (opt o h).post Q XF = kO o Q h := by
  unfold opt kO
  cases o <;> rfl
theorem pR {α : Type} {f : LH → Option α} {Q : α → LH → Prop} : (rd f h).post Q XF = kO (f h) Q h := by
  unfold rd kO
  cases f h <;> rfl
theorem kO_some {α : Type} {a : α} {Q : α → LH → Prop} : kO (some a) Q h = Q a h := rfl
theorem kO_none {α : Type} {Q : α → LH → Prop} : kO (none : Option α) Q h = False := rfl
theorem kO_map {α β : Type} {o : Option α} {f : α → β} {Q : β → LH → Prop} : kO (o.map f) Q h = kO o (fun a => Q (f a)) h := by cases o <;> rfl
theorem kO_bind {α β : Type} {o : Option α} {f : α → Option β} {Q : β → LH → Prop} : kO (o.bind f) Q h = kO o (fun a => kO (f a) Q) h := by cases o <;> rfl
theorem kO_if {α : Type} {p : Prop} [Decidable p] {a : α} {Q : α → LH → Prop} : kO (if p then some a else none) Q h = (p ∧ Q a h) := by
  by_cases hp : p
  · rw [if_pos hp]; exact propext ⟨fun z => ⟨hp, z⟩, fun z => z.2⟩
  · rw [if_neg hp]; exact propext ⟨fun z => z.elim, fun z => hp z.1⟩
theorem kS_nx {ss : Ss} {Q : Fl → LH → Prop} {ρ' : Env} : kS c ss Q (.nx ρ') h = (denSs c ss ρ' h).post Q XF := rfl
theorem kS_ret {ss : Ss} {Q : Fl → LH → Prop} {r : Rv} : kS c ss Q (.ret r) h = Q (.ret r) h := rfl
theorem kS_brk {ss : Ss} {Q : Fl → LH → Prop} {ρ' : Env} : kS c ss Q (.brk ρ') h = Q (.brk ρ') h := rfl
theorem kS_cont {ss : Ss} {Q : Fl → LH → Prop} {ρ' : Env} : kS c ss Q (.cont ρ') h = Q (.cont ρ') h := rfl
theorem kB_bl {k : Bool} {Q : Bool → LH → Prop} : kB (.v (.bl k)) Q h = Q k h := rfl
theorem kI_int {k : Int} {Q : Int → LH → Prop} : kI (.v (.int k)) Q h = Q k h := rfl
theorem kF_fr {xs : List D} {Q : List D → LH → Prop} : kF (.fr xs) Q h = Q xs h := rfl
theorem kStr_str {xs : List Nat} {Q : List Nat → LH → Prop} : kStr (.v (.str xs)) Q h = Q xs h := rfl
theorem kVar_val {d : D} {Q : Rv → LH → Prop} : kVar (.val d) Q h = Q (.v d) h := rfl
theorem kOwn_own {d : List D} {Q : List D → LH → Prop} : kOwn (.own d) Q h = Q d h := rfl
theorem kRet_ret {Q : Rv → LH → Prop} {r : Rv} : kRet Q (.ret r) h = Q r h := rfl
theorem kRet_nx {Q : Rv → LH → Prop} {ρ' : Env} : kRet Q (.nx ρ') h = Q (.v .non) h := rfl
theorem dg_v {d : D} : dg (.v d) = some d := rfl
theorem dg_fr {d : List D} : dg (.fr d) = some (.lst d) := rfl
theorem wdg_v {d : D} : wdg (.v d) = d := rfl
theorem wdg_fr {d : List D} : wdg (.fr d) = .lst d := rfl
theorem wdg_bw {d : List D} : wdg (.bw d) = .lst d := rfl
theorem get_0 {s : Slot} {ρ : Env} : get (s :: ρ) 0 = s := rfl
theorem get_s {s : Slot} {ρ : Env} {i : Nat} : get (s :: ρ) (i + 1) = get ρ i := rfl
/-! expressions -/
variable {Q : Rv → LH → Prop}
theorem e_var {i : Nat} : (denR c (.var i) ρ h).post Q XF = kVar (get ρ i) Q h := by
  unfold denR kVar
  cases get ρ i <;> rfl
theorem e_own {i : Nat} : (denR c (.own i) ρ h).post Q XF = kOwn (get ρ i) (fun xs => Q (.bw xs)) h := by
  unfold denR kOwn
  cases get ρ i <;> rfl
theorem e_int {i : Int} : (denR c (.int i) ρ h).post Q XF = Q (.v (.int i)) h := by unfold denR; rfl
theorem e_bl {i : Bool} : (denR c (.bl i) ρ h).post Q XF = Q (.v (.bl i)) h := by unfold denR; rfl
theorem e_non : (denR c .non ρ h).post Q XF = Q (.v .non) h := by unfold denR; rfl
theorem e_str {i : List Nat} : (denR c (.str i) ρ h).post Q XF = Q (.v (.str i)) h := by unfold denR; rfl
theorem e_glo {x : Str} : (denR c (.glo x) ρ h).post Q XF = kO (c.glo x) (fun d => Q (.v d)) h := by
  rw [denR]
  rw [pO, kO_map]
theorem ifB {α : Type} {p : Prop} [Decidable p] {a : α} {Q : α → LH → Prop} : ((if p then pur a else bad : M α) h).post Q XF = (p ∧ Q a h) := by
  by_cases hp : p
  · rw [if_pos hp]; exact propext ⟨fun z => ⟨hp, z⟩, fun z => z.2⟩
  · rw [if_neg hp]; exact propext ⟨fun z => z.elim, fun z => hp z.1⟩
theorem e_tup {es : Es} : (denR c (.tup es) ρ h).post Q XF = (denEs c es ρ h).post (fun ds h' => ds.length ≤ szL ∧ Q (.v (.tup ds)) h') XF := by
  rw [denR]
  rw [pB]
  simp only [ifB]
theorem e_lst {es : Es} : (denR c (.lst es) ρ h).post Q XF = (denEs c es ρ h).post (fun ds h' => ds.length ≤ szL ∧ Q (.fr ds) h') XF := by
  rw [denR]
  rw [pB]
  simp only [ifB]
theorem e_bin {o : Bop} {a b : E} : (denR c (.bin o a b) ρ h).post Q XF = (denR c a ρ h).post (fun x h1 => (denR c b ρ h1).post (fun y h2 => kO (binD o (wdg x) (wdg y)) Q h2) XF) XF := by
  rw [denR]
  simp only [pB, pO]
theorem e_cmp {o : Cop} {a b : E} : (denR c (.cmp o a b) ρ h).post Q XF = (denR c a ρ h).post (fun x h1 => (denR c b ρ h1).post (fun y h2 => kO (cmpD h2 o (wdg x) (wdg y)) (fun k => Q (.v (.bl k))) h2) XF) XF := by
  rw [denR]
  simp only [pB, pR, kO_map]
theorem ifM {α : Type} {k : Bool} {m n : M α} {Q : α → LH → Prop} : ((if k = true then m else n) h).post Q XF = if k = true then (m h).post Q XF else (n h).post Q XF := by cases k <;> rfl
theorem e_neg {a : E} : (denR c (.neg a) ρ h).post Q XF = (denR c a ρ h).post (fun x h1 => kI x (fun k => Q (.v (.int (-k)))) h1) XF := by
  rw [denR]
  rw [pB]
  congr 1
  funext x h1
  unfold kI
  cases x <;> first | rfl | (rename_i d; cases d <;> rfl)
theorem e_not {a : E} : (denR c (.not a) ρ h).post Q XF = (denR c a ρ h).post (fun x h1 => kB x (fun k => Q (.v (.bl (!k)))) h1) XF := by
  rw [denR]
  rw [pB]
  congr 1
  funext x h1
  unfold kB
  cases x <;> first | rfl | (rename_i d; cases d <;> rfl)
theorem e_and {es : Es} : (denR c (.and es) ρ h).post Q XF = (denAnd c es ρ h).post (fun k => Q (.v (.bl k))) XF := by
  rw [denR]
  rw [pB]
  rfl
theorem e_or {es : Es} : (denR c (.or es) ρ h).post Q XF = (denOr c es ρ h).post (fun k => Q (.v (.bl k))) XF := by
  rw [denR]
  rw [pB]
  rfl
theorem e_ifE {t : T} {a b : E} : (denR c (.ifE t a b) ρ h).post Q XF = (denT c t ρ h).post (fun k h1 => if k = true then (denR c a ρ h1).post Q XF else (denR c b ρ h1).post Q XF) XF := by
  rw [denR]
  rw [pB]
  simp only [ifM]
theorem e_idx {a i : E} : (denR c (.idx a i) ρ h).post Q XF = (denR c a ρ h).post (fun x h1 => (denR c i ρ h1).post (fun y h2 => kO (ixD h2 (wdg x) (wdg y)) (fun d => Q (.v d)) h2) XF) XF := by
  rw [denR]
  simp only [pB, pR, kO_map]
theorem e_sl {a : E} {lo hi : Op} : (denR c (.sl a lo hi) ρ h).post Q XF = (denR c a ρ h).post (fun x h1 => (denOp c lo ρ h1).post (fun l h2 => (denOp c hi ρ h2).post (fun u h3 => kO (slD h3 (wdg x) l u) Q h3) XF) XF) XF := by
  rw [denR]
  simp only [pB, pR]
theorem e_call {f : Nat} {es : Es} : (denR c (.call f es) ρ h).post Q XF = (denEs c es ρ h).post (fun ds h' => (c.call f ds h').post Q XF) XF := by
  rw [denR]
  rw [pB]
theorem e_bi {b : Bi} {es : Es} : (denR c (.bi b es) ρ h).post Q XF = (denWs c es ρ h).post (fun ds h' => kO (biD h' b ds) Q h') XF := by
  rw [denR]
  simp only [pB, pR]
theorem e_sset {a : E} : (denR c (.sset a) ρ h).post Q XF = (denR c a ρ h).post (fun x h1 => kO (lstV h1 (wdg x)) (fun xs => kO (strsOf xs) fun ys h' => ys.length < 64 ∧ Q (.fr ((sortS (ddS ys)).map .str)) h') h1) XF := by
  rw [denR, pB]
  congr 1
  funext x h1
  rw [pR, kO_bind]
  congr 1
  funext xs h2
  rw [kO_bind]
  congr 1
  funext ys h3
  rw [kO_if]
theorem e_isi {a : E} {cs : List String} : (denR c (.isi a cs) ρ h).post Q XF = (denR c a ρ h).post (fun x h1 => kO (isiD h1 (wdg x) cs) (fun k => Q (.v (.bl k))) h1) XF := by
  rw [denR]
  simp only [pB, pR, kO_map]
theorem e_mth {m : Mt} {a : E} {es : Es} : (denR c (.mth m a es) ρ h).post Q XF = (denR c a ρ h).post (fun x h1 => kStr x (fun s h2 => (denWs c es ρ h2).post (fun ds h3 => kO (mtD h3 m s ds) Q h3) XF) h1) XF := by
  rw [denR]
  rw [pB]
  congr 1
  funext x h1
  unfold kStr
  cases x with
  | v d => cases d <;> first | rfl | simp only [pB, pR]
  | _ => rfl
theorem op_no {Q : Option Int → LH → Prop} : (denOp c .no ρ h).post Q XF = Q none h := by unfold denOp; rfl
theorem op_yes {e : E} {Q : Option Int → LH → Prop} : (denOp c (.yes e) ρ h).post Q XF = (denR c e ρ h).post (fun x h1 => kI x (fun k => Q (some k)) h1) XF := by
  rw [denOp]
  rw [pB]
  congr 1
  funext x h1
  unfold kI
  cases x <;> first | rfl | (rename_i d; cases d <;> rfl)
theorem es_nil {Q : List D → LH → Prop} : (denEs c .nil ρ h).post Q XF = Q [] h := by unfold denEs; rfl
theorem es_cons {e : E} {es : Es} {Q : List D → LH → Prop} : (denEs c (.cons e es) ρ h).post Q XF = (denR c e ρ h).post (fun x h1 => kO (dg x) (fun d h2 => (denEs c es ρ h2).post (fun ds => Q (d :: ds)) XF) h1) XF := by
  rw [denEs]
  simp only [pB, pO]
  rfl
theorem ws_nil {Q : List D → LH → Prop} : (denWs c .nil ρ h).post Q XF = Q [] h := by unfold denWs; rfl
theorem ws_cons {e : E} {es : Es} {Q : List D → LH → Prop} : (denWs c (.cons e es) ρ h).post Q XF = (denR c e ρ h).post (fun x h1 => (denWs c es ρ h1).post (fun ds => Q (wdg x :: ds)) XF) XF := by
  rw [denWs]
  simp only [pB]
  rfl
theorem an_one {e : E} {Q : Bool → LH → Prop} : (denAnd c (.cons e .nil) ρ h).post Q XF = (denR c e ρ h).post (fun x h1 => kB x Q h1) XF := by
  rw [denAnd]
  rw [pB]
  congr 1
  funext x h1
  unfold kB
  cases x <;> first | rfl | (rename_i d; cases d <;> rfl)
theorem an_cons {e e2 : E} {es : Es} {Q : Bool → LH → Prop} : (denAnd c (.cons e (.cons e2 es)) ρ h).post Q XF = (denR c e ρ h).post (fun x h1 => kB x (fun k h2 => if k = true then (denAnd c (.cons e2 es) ρ h2).post Q XF else Q false h2) h1) XF := by
  rw [denAnd]
  rw [pB]
  congr 1
  funext x h1
  unfold kB
  cases x with
  | v d => cases d <;> first | rfl | (rename_i k; cases k <;> rfl)
  | _ => rfl
theorem or_one {e : E} {Q : Bool → LH → Prop} : (denOr c (.cons e .nil) ρ h).post Q XF = (denR c e ρ h).post (fun x h1 => kB x Q h1) XF := by
  rw [denOr]
  rw [pB]
  congr 1
  funext x h1
  unfold kB
  cases x <;> first | rfl | (rename_i d; cases d <;> rfl)
theorem or_cons {e e2 : E} {es : Es} {Q : Bool → LH → Prop} : (denOr c (.cons e (.cons e2 es)) ρ h).post Q XF = (denR c e ρ h).post (fun x h1 => kB x (fun k h2 => if k = true then Q true h2 else (denOr c (.cons e2 es) ρ h2).post Q XF) h1) XF := by
  rw [denOr]
  rw [pB]
  congr 1
  funext x h1
  unfold kB
  cases x with
  | v d => cases d <;> first | rfl | (rename_i k; cases k <;> rfl)
  | _ => rfl
/-! tests -/
theorem t_e {e : E} {Q : Bool → LH → Prop} : (denT c (.e e) ρ h).post Q XF = (denR c e ρ h).post (fun x h1 => kB x Q h1) XF := by
  rw [denT]
  rw [pB]
  congr 1
  funext x h1
  unfold kB
  cases x <;> first | rfl | (rename_i d; cases d <;> rfl)
theorem t_cmp' {o : Cop} {a b : E} {Q : Bool → LH → Prop} : (denT c (.cmp o a b) ρ h).post Q XF = (denR c a ρ h).post (fun x h1 => (denR c b ρ h1).post (fun y h2 => kO (cmpD h2 o (wdg x) (wdg y)) Q h2) XF) XF := by
  rw [denT]
  simp only [pB, pR]
theorem t_not' {t : T} {Q : Bool → LH → Prop} : (denT c (.not t) ρ h).post Q XF = (denT c t ρ h).post (fun k => Q (!k)) XF := by
  rw [denT, pB]
  rfl
theorem t_and' {ts : Ts} {Q : Bool → LH → Prop} : (denT c (.and ts) ρ h).post Q XF = (denTs c ts ρ h).post Q XF := by rw [denT]
theorem t_or' {ts : Ts} {Q : Bool → LH → Prop} : (denT c (.or ts) ρ h).post Q XF = (denTo c ts ρ h).post Q XF := by rw [denT]
theorem ts_nil {Q : Bool → LH → Prop} : (denTs c .nil ρ h).post Q XF = Q true h := by unfold denTs; rfl
theorem ts_cons {t : T} {ts : Ts} {Q : Bool → LH → Prop} : (denTs c (.cons t ts) ρ h).post Q XF = (denT c t ρ h).post (fun k h1 => if k = true then (denTs c ts ρ h1).post Q XF else Q false h1) XF := by
  rw [denTs, pB]
  simp only [ifM]
  rfl
theorem to_nil {Q : Bool → LH → Prop} : (denTo c .nil ρ h).post Q XF = Q false h := by unfold denTo; rfl
theorem to_cons {t : T} {ts : Ts} {Q : Bool → LH → Prop} : (denTo c (.cons t ts) ρ h).post Q XF = (denT c t ρ h).post (fun k h1 => if k = true then Q true h1 else (denTo c ts ρ h1).post Q XF) XF := by
  rw [denTo, pB]
  simp only [ifM]
  rfl
/-! statements -/
variable {R : Fl → LH → Prop}
theorem ss_nil : (denSs c .nil ρ h).post R XF = R (.nx ρ) h := by rw [denSs]; rfl
theorem ss_cons {a : S} {ss : Ss} : (denSs c (.cons a ss) ρ h).post R XF = (denS c a ρ h).post (fun fl h1 => kS c ss R fl h1) XF := by
  rw [denSs, pB]
  congr 1
  funext fl h1
  cases fl <;> rfl
theorem s_ex {e : E} : (denS c (.ex e) ρ h).post R XF = (denR c e ρ h).post (fun _ => R (.nx ρ)) XF := by rw [denS, pB]; rfl
theorem s_asg {tg : Tg} {e : E} : (denS c (.asg tg e) ρ h).post R XF = (denR c e ρ h).post (fun x h1 => kO (dg x) (fun d h2 => kO (bindTg tg d ρ) (fun ρ' => R (.nx ρ')) h2) h1) XF := by
  rw [denS]
  simp only [pB, pO]
  rfl
theorem s_asgO {i : Nat} {e : E} : (denS c (.asgO i e) ρ h).post R XF = (denR c e ρ h).post (fun x h1 => kF x (fun xs => R (.nx (ρ.set i (.own xs)))) h1) XF := by
  rw [denS, pB]
  congr 1
  funext x h1
  unfold kF
  cases x <;> rfl
theorem s_asgC {i : Nat} {e : E} : (denS c (.asgC i e) ρ h).post R XF = (denR c e ρ h).post (fun x h1 => kF x (fun xs h2 => R (.nx (ρ.set i (.val (.ref h2.length)))) (h2 ++ [.lst xs])) h1) XF := by
  rw [denS, pB]
  congr 1
  funext x h1
  unfold kF
  cases x <;> rfl
theorem s_par {l : List (Bool × Nat)} {es : Es} : (denS c (.par l es) ρ h).post R XF = (denPar c l es ρ h).post (fun ss => R (.nx (setAll ρ l ss))) XF := by
  rw [denS, pB]
  rfl
theorem par_nil {Q : List Slot → LH → Prop} : (denPar c [] .nil ρ h).post Q XF = Q [] h := rfl
theorem par_t {i : Nat} {l : List (Bool × Nat)} {e : E} {es : Es} {Q : List Slot → LH → Prop} : (denPar c ((true, i) :: l) (.cons e es) ρ h).post Q XF = (denR c e ρ h).post (fun x h1 => kF x (fun xs h2 => (denPar c l es ρ h2).post (fun r => Q (.own xs :: r)) XF) h1) XF := by
  rw [denPar, pB]
  congr 1
  funext x h1
  unfold kF
  cases x with
  | fr xs =>
    show (bnd (denPar c l es ρ) _ h1).post _ _ = _
    rw [pB]
    rfl
  | _ => rfl
theorem par_f {i : Nat} {l : List (Bool × Nat)} {e : E} {es : Es} {Q : List Slot → LH → Prop} : (denPar c ((false, i) :: l) (.cons e es) ρ h).post Q XF = (denR c e ρ h).post (fun x h1 => kO (dg x) (fun d h2 => (denPar c l es ρ h2).post (fun r => Q (.val d :: r)) XF) h1) XF := by
  rw [denPar]
  simp only [pB, pO]
  rfl
def kTup (d : D) (Q : List D → LH → Prop) (h : LH) : Prop := match d with
  | .tup ds => Q ds h
  | _ => False
theorem kTup_tup {ds : List D} {Q : List D → LH → Prop} : kTup (.tup ds) Q h = Q ds h := rfl
theorem s_star {l : Tgs} {e : E} : (denS c (.star l e) ρ h).post R XF = (denR c e ρ h).post (fun x h1 => kO (dg x) (fun d h2 => kTup d (fun ds h3 => l.len ≤ ds.length + 1 ∧ kO (bindTgs l (ds.take (l.len - 1) ++ [.lst (ds.drop (l.len - 1))]) ρ) (fun ρ' => R (.nx ρ')) h3) h2) h1) XF := by
  rw [denS]
  simp only [pB, pO]
  congr 1
  funext x h1
  congr 1
  funext d h2
  unfold kTup
  cases d with
  | tup ds =>
    show ((if l.len ≤ ds.length + 1 then bnd (opt (bindTgs l (ds.take (l.len - 1) ++ [.lst (ds.drop (l.len - 1))]) ρ)) fun ρ' => pur (.nx ρ') else bad : M Fl) h2).post R XF = _
    by_cases hl : l.len ≤ ds.length + 1
    · rw [if_pos hl, pB, pO]
      exact propext ⟨fun z => ⟨hl, z⟩, fun z => z.2⟩
    · rw [if_neg hl]
      exact propext ⟨fun z => z.elim, fun z => hl z.1⟩
  | _ => rfl
theorem s_ret {e : E} : (denS c (.ret e) ρ h).post R XF = (denR c e ρ h).post (fun x h1 => kO (dg x) (fun d => R (.ret (.v d))) h1) XF := by
  rw [denS]
  simp only [pB, pO]
  rfl
def kRF (x : Rv) (Q : List D → LH → Prop) (h : LH) : Prop := match x with
  | .fr xs => Q xs h
  | .bw xs => Q xs h
  | _ => False
theorem kRF_fr {xs : List D} {Q : List D → LH → Prop} : kRF (.fr xs) Q h = Q xs h := rfl
theorem kRF_bw {xs : List D} {Q : List D → LH → Prop} : kRF (.bw xs) Q h = Q xs h := rfl
theorem s_retF {e : E} : (denS c (.retF e) ρ h).post R XF = (denR c e ρ h).post (fun x h1 => kRF x (fun xs => R (.ret (.fr xs))) h1) XF := by
  rw [denS, pB]
  congr 1
  funext x h1
  unfold kRF
  cases x <;> rfl
theorem s_retN : (denS c .retN ρ h).post R XF = R (.ret (.v .non)) h := by rw [denS]; rfl
theorem s_iff {t : T} {a b : Ss} : (denS c (.iff t a b) ρ h).post R XF = (denT c t ρ h).post (fun k h1 => if k = true then (denSs c a ρ h1).post R XF else (denSs c b ρ h1).post R XF) XF := by
  rw [denS, pB]
  simp only [ifM]
theorem s_app {i : Nat} {e : E} : (denS c (.app i e) ρ h).post R XF = kOwn (get ρ i) (fun xs h0 => (denR c e ρ h0).post (fun x h1 => kO (dg x) (fun d h2 => xs.length < szL ∧ R (.nx (ρ.set i (.own (xs ++ [d])))) h2) h1) XF) h := by
  rw [denS]
  unfold kOwn
  cases get ρ i with
  | own xs =>
    show (bnd (denR c e ρ) _ h).post R XF = _
    simp only [pB, pO, ifB]
  | _ => rfl
theorem s_setO {i : Nat} {ix e : E} : (denS c (.setO i ix e) ρ h).post R XF = kOwn (get ρ i) (fun xs h0 => (denR c e ρ h0).post (fun x h1 => kO (dg x) (fun d h2 => (denR c ix ρ h2).post (fun y h3 => kI y (fun k h4 => kO (L2.ixN xs.length k) (fun j => R (.nx (ρ.set i (.own (xs.set j d))))) h4) h3) XF) h1) XF) h := by
  rw [denS]
  unfold kOwn
  cases get ρ i with
  | own xs =>
    show (bnd (denR c e ρ) _ h).post R XF = _
    simp only [pB, pO]
    congr 1
    funext x h1
    congr 1
    funext d h2
    congr 1
    funext y h3
    unfold kI
    cases y with
    | v d =>
      cases d with
      | int k =>
        show ((match L2.ixN xs.length k with
          | some j => pur (Fl.nx (ρ.set i (.own (xs.set j d))))
          | none => bad : M Fl) h3).post R XF = kO _ _ _
        cases L2.ixN xs.length k <;> rfl
      | _ => rfl
    | _ => rfl
  | _ => rfl
def kRef (x : Rv) (Q : Nat → LH → Prop) (h : LH) : Prop := match x with
  | .v (.ref k) => Q k h
  | _ => False
theorem kRef_ref {k : Nat} {Q : Nat → LH → Prop} : kRef (.v (.ref k)) Q h = Q k h := rfl
theorem s_setR {a ix e : E} : (denS c (.setR a ix e) ρ h).post R XF = (denR c e ρ h).post (fun x h1 => kO (dg x) (fun d h2 => (denR c a ρ h2).post (fun l h3 => (denR c ix ρ h3).post (fun y h4 => kRef l (fun r h5 => kI y (fun k h6 =>
    kO (seqV h6 (.ref r)) (fun xs h7 => kO (L2.ixN xs.length k) (fun j h8 => R (.nx ρ) (h8.set r (.lst (xs.set j d)))) h7) h6) h5) h4) XF) XF) h1) XF := by
  rw [denS]
  simp only [pB, pO]
  congr 1
  funext x h1
  congr 1
  funext d h2
  congr 1
  funext l h3
  congr 1
  funext y h4
  unfold kRef
  cases l with
  | v dl =>
    cases dl with
    | ref r =>
      unfold kI
      cases y with
      | v dy =>
        cases dy with
        | int k =>
          show (bnd (rd fun h => seqV h (.ref r)) _ h4).post R XF = kO _ _ _
          rw [pB, pR]
          congr 1
          funext xs h5
          cases L2.ixN xs.length k <;> rfl
        | _ => rfl
      | _ => rfl
    | _ => rfl
  | _ => rfl
theorem s_frz {i : Nat} : (denS c (.frz i) ρ h).post R XF = kOwn (get ρ i) (fun xs => R (.nx (ρ.set i (.val (.lst xs))))) h := by
  rw [denS]
  unfold kOwn
  cases get ρ i <;> rfl
theorem s_brk : (denS c .brk ρ h).post R XF = R (.brk ρ) h := by rw [denS]; rfl
theorem s_cont : (denS c .cont ρ h).post R XF = R (.cont ρ) h := by rw [denS]; rfl
theorem s_pass : (denS c .pass ρ h).post R XF = R (.nx ρ) h := by rw [denS]; rfl
/-! calls -/
theorem w_run {fs : List Fn} {gl : Str → Option D} {wf n f : Nat} {fn : Fn} {ds : List D} {Q : Rv → LH → Prop} (e : fs[f]? = some fn) (hn : ds.length = fn.np) :
    (run fs gl wf (n + 1) f ds h).post Q XF = (denSs ⟨run fs gl wf n, gl, wf⟩ fn.body (startE fn ds) h).post (kRet Q) XF := by
  show ((match fs[f]? with
    | some fn => runF ⟨run fs gl wf n, gl, wf⟩ fn ds
    | none => bad : M Rv) h).post Q XF = _
  rw [e]
  show (runF ⟨run fs gl wf n, gl, wf⟩ fn ds h).post Q XF = _
  unfold runF
  have ed : fn.dfl.drop (fn.dfl.length + ds.length - fn.np) = [] := by
    rw [hn, Nat.add_sub_cancel]
    exact List.drop_length
  rw [if_pos ⟨Nat.le_of_eq hn, by omega⟩, ed, List.append_nil, pB]
  congr 1
  funext fl h1
  cases fl <;> rfl
/-! targets -/
theorem bt_nm {i : Nat} {d : D} {ρ : Env} : bindTg (.nm i) d ρ = some (ρ.set i (.val d)) := by rw [bindTg]
theorem bt_tp {l : Tgs} {ds : List D} {ρ : Env} : bindTg (.tp l) (.tup ds) ρ = bindTgs l ds ρ := by rw [bindTg]
theorem bt_lp {l : Tgs} {ds : List D} {ρ : Env} : bindTg (.lp l) (.lst ds) ρ = bindTgs l ds ρ := by rw [bindTg]
theorem bts_nil {ρ : Env} : bindTgs .nil [] ρ = some ρ := by rw [bindTgs]
theorem bts_cons {t : Tg} {l : Tgs} {d : D} {ds : List D} {ρ : Env} : bindTgs (.cons t l) (d :: ds) ρ = (bindTg t d ρ).bind (bindTgs l ds) := by
  rw [bindTgs]
  cases bindTg t d ρ <;> rfl
/-! walks -/
def kSeq (d : D) (Q : List D → LH → Prop) (h : LH) : Prop := match d with
  | .tup xs => Q xs h
  | .lst xs => Q xs h
  | .scr ns => Q (ns.map .int) h
  | .str s => Q (s.map fun k => .str [k]) h
  | _ => False
theorem kSeq_tup {xs : List D} {Q : List D → LH → Prop} : kSeq (.tup xs) Q h = Q xs h := rfl
theorem kSeq_lst {xs : List D} {Q : List D → LH → Prop} : kSeq (.lst xs) Q h = Q xs h := rfl
theorem kSeq_scr {ns : List Int} {Q : List D → LH → Prop} : kSeq (.scr ns) Q h = Q (ns.map .int) h := rfl
theorem kSeq_str {s : List Nat} {Q : List D → LH → Prop} : kSeq (.str s) Q h = Q (s.map fun k => .str [k]) h := rfl
theorem it_seq {e : E} {Q : List D → LH → Prop} : (denIt c (.seq e) ρ h).post Q XF = (denR c e ρ h).post (fun x h1 => kO (dg x) (fun d => kSeq d Q) h1) XF := by
  rw [denIt]
  simp only [pB, pO]
  congr 1
  funext x h1
  congr 1
  funext d h2
  cases d <;> rfl
theorem it_rng {e : E} {Q : List D → LH → Prop} : (denIt c (.rng e) ρ h).post Q XF = (denR c e ρ h).post (fun x h1 => kI x (fun j h2 => small62 j = true ∧ Q (rngL 0 j.toNat) h2) h1) XF := by
  rw [denIt, pB]
  congr 1
  funext x h1
  unfold kI
  cases x with
  | v d =>
    cases d with
    | int j =>
      show ((if small62 j then pur (rngL 0 j.toNat) else bad : M _) h1).post Q XF = _
      rw [ifB]
    | _ => rfl
  | _ => rfl
theorem it_rng2 {a b : E} {Q : List D → LH → Prop} : (denIt c (.rng2 a b) ρ h).post Q XF = (denR c a ρ h).post (fun x h1 => (denR c b ρ h1).post (fun y h2 => kI x (fun i h3 => kI y (fun j h4 => (small62 i && small62 j) = true ∧ Q (rngL i (j - i).toNat) h4) h3) h2) XF) XF := by
  rw [denIt, pB]
  congr 1
  funext x h1
  rw [pB]
  congr 1
  funext y h2
  unfold kI
  cases x with
  | v d =>
    cases d with
    | int i =>
      cases y with
      | v e =>
        cases e with
        | int j =>
          show ((if small62 i && small62 j then pur (rngL i (j - i).toNat) else bad : M _) h2).post Q XF = _
          rw [ifB]
        | _ => rfl
      | _ => rfl
    | _ => rfl
  | _ => rfl
def kZip (d e : D) (Q : List D → LH → Prop) (h : LH) : Prop := match d, e with
  | .lst xs, .lst ys => Q (zipL xs ys) h
  | .tup xs, .tup ys => Q (zipL xs ys) h
  | _, _ => False
theorem kZip_lst {xs ys : List D} {Q : List D → LH → Prop} : kZip (.lst xs) (.lst ys) Q h = Q (zipL xs ys) h := rfl
theorem kZip_tup {xs ys : List D} {Q : List D → LH → Prop} : kZip (.tup xs) (.tup ys) Q h = Q (zipL xs ys) h := rfl
theorem it_zip {a b : E} {Q : List D → LH → Prop} : (denIt c (.zip a b) ρ h).post Q XF = (denR c a ρ h).post (fun x h1 => kO (dg x) (fun d h2 => (denR c b ρ h2).post (fun y h3 => kO (dg y) (fun e => kZip d e Q) h3) XF) h1) XF := by
  rw [denIt]
  simp only [pB, pO]
  congr 1
  funext x h1
  congr 1
  funext d h2
  congr 1
  funext y h3
  congr 1
  funext e h4
  unfold kZip
  cases d <;> cases e <;> rfl
def kLst (d : D) (Q : List D → LH → Prop) (h : LH) : Prop := match d with
  | .lst xs => Q xs h
  | _ => False
theorem kLst_lst {xs : List D} {Q : List D → LH → Prop} : kLst (.lst xs) Q h = Q xs h := rfl
theorem it_enum {a : E} {Q : List D → LH → Prop} : (denIt c (.enum a) ρ h).post Q XF = (denR c a ρ h).post (fun x h1 => kO (dg x) (fun d => kLst d fun xs => Q (enumL 0 xs)) h1) XF := by
  rw [denIt]
  simp only [pB, pO]
  congr 1
  funext x h1
  congr 1
  funext d h2
  cases d <;> rfl
/-- one turn of a for, of a comprehension -/
def turnW (c : Cx) (tg : Tg) (body : Ss) (x : D) (ρ : Env) : M Fl := fun h => match bindTg tg x ρ with
  | none => .bad
  | some ρ' => denSs c body ρ' h
def turnX (c : Cx) (tg : Tg) (ifs : Ts) (elt : E) (ws : List Nat) (ρ : Env) (x : D) : M (Option D) := fun h => match bindTg tg x (wipe ρ ws) with
  | none => .bad
  | some ρ' => bnd (denTs c ifs ρ') (fun k => if k then bnd (denR c elt ρ') (fun y => bnd (opt (dg y)) fun d => pur (some d)) else pur none) h
theorem tw_post {tg : Tg} {body : Ss} {x : D} {R : Fl → LH → Prop} : (turnW c tg body x ρ h).post R XF = kO (bindTg tg x ρ) (fun ρ' h1 => (denSs c body ρ' h1).post R XF) h := by
  unfold turnW kO
  cases bindTg tg x ρ <;> rfl
theorem tx_post {tg : Tg} {ifs : Ts} {elt : E} {ws : List Nat} {x : D} {R : Option D → LH → Prop} : (turnX c tg ifs elt ws ρ x h).post R XF =
    kO (bindTg tg x (wipe ρ ws)) (fun ρ' h1 => (denTs c ifs ρ' h1).post (fun k h2 => if k = true then (denR c elt ρ' h2).post (fun y h3 => kO (dg y) (fun d => R (some d)) h3) XF else R none h2) XF) h := by
  unfold turnX kO
  cases bindTg tg x (wipe ρ ws) with
  | none => rfl
  | some ρ' =>
    show (bnd (denTs c ifs ρ') _ h).post R XF = _
    simp only [pB, ifM, pO, pP]
    rfl
theorem s_for {it : Z.It} {tg : Tg} {body : Ss} : (denS c (.for_ it tg body) ρ h).post R XF = (denIt c it ρ h).post (fun xs h1 => (forL (turnW c tg body) xs ρ h1).post R XF) XF := by
  rw [denS, pB]
  rfl
theorem calm_eq {α : Type} {m : M α} {Q : α → LH → Prop} : (calmM m h).post Q XF = (m h).post Q XF := by
  unfold calmM
  cases m h <;> rfl
theorem e_comp {it : Z.It} {tg : Tg} {ifs : Ts} {elt : E} {ws : List Nat} : (denR c (.comp it tg ifs elt ws) ρ h).post Q XF = (denIt c it ρ h).post (fun xs h1 => (compL (turnX c tg ifs elt ws ρ) xs h1).post (fun ys h2 => ys.length ≤ szL ∧ Q (.fr ys) h2) XF) XF := by
  rw [denR, pB]
  congr 1
  funext xs h1
  rw [pB, calm_eq]
  simp only [ifB]
  rfl
/-- what a turn of a for reaches -/
def kT (I : Env → LH → Prop) (R : Fl → LH → Prop) (fl : Fl) (h : LH) : Prop := match fl with
  | .nx ρ => I ρ h
  | .cont ρ => I ρ h
  | .brk ρ => R (.nx ρ) h
  | .ret r => R (.ret r) h
theorem kT_nx {I : Env → LH → Prop} : kT I R (.nx ρ) h = I ρ h := rfl
theorem kT_cont {I : Env → LH → Prop} : kT I R (.cont ρ) h = I ρ h := rfl
theorem kT_brk {I : Env → LH → Prop} : kT I R (.brk ρ) h = R (.nx ρ) h := rfl
theorem kT_ret {I : Env → LH → Prop} {r : Rv} : kT I R (.ret r) h = R (.ret r) h := rfl
theorem w_for {f : D → Env → M Fl} : ∀ (xs : List D) (I : Nat → Env → LH → Prop) {ρ : Env} {h : LH}, I 0 ρ h → (∀ i d ρ h, xs[i]? = some d → I i ρ h → (f d ρ h).post (kT (I (i + 1)) R) XF) → (∀ ρ h, I xs.length ρ h → R (.nx ρ) h) → (forL f xs ρ h).post R XF
  | [], I, ρ, h, h0, _, he => he ρ h h0
  | x :: r, I, ρ, h, h0, hs, he => by
    unfold forL
    rw [pB]
    have q := hs 0 x ρ h rfl h0
    refine post_mono' q fun fl h1 z => ?_
    have go : ∀ ρ1, I 1 ρ1 h1 → (forL f r ρ1 h1).post R XF := fun ρ1 z => w_for r (fun i => I (i + 1)) z (fun i d ρ h e => hs (i + 1) d ρ h (by simpa using e)) he
    cases fl with
    | nx ρ1 => exact go ρ1 z
    | cont ρ1 => exact go ρ1 z
    | brk ρ1 => exact z
    | ret r => exact z
theorem w_comp {f : D → M (Option D)} : ∀ (xs : List D) (I : Nat → List D → LH → Prop) (acc : List D) {h : LH} {Q : List D → LH → Prop}, I 0 acc h → (∀ i d ys h, xs[i]? = some d → I i ys h → (f d h).post (fun o h' => I (i + 1) (match o with
      | some y => ys ++ [y]
      | none => ys) h') XF) → (∀ ys h, I xs.length (acc ++ ys) h → Q ys h) → (compL f xs h).post Q XF
  | [], I, acc, h, Q, h0, _, he => he [] h (by rw [List.append_nil]; exact h0)
  | x :: r, I, acc, h, Q, h0, hs, he => by
    unfold compL
    rw [pB]
    refine post_mono' (hs 0 x acc h rfl h0) fun o h1 z => ?_
    rw [pB]
    cases o with
    | none =>
      refine post_mono' (w_comp r (fun i => I (i + 1)) acc z (fun i d ys h e => hs (i + 1) d ys h (by simpa using e)) (Q := Q) he) fun ys h2 z2 => z2
    | some y =>
      refine w_comp r (fun i => I (i + 1)) (acc ++ [y]) z (fun i d ys h e => hs (i + 1) d ys h (by simpa using e)) fun ys h2 z2 => ?_
      show Q (y :: ys) h2
      refine he _ _ ?_
      rw [List.append_assoc] at z2
      exact z2
theorem w_comp_pure {f : D → M (Option D)} {g : D → Option D} {h : LH} : ∀ (xs : List D) {Q : List D → LH → Prop}, (∀ d ∈ xs, ∀ R : Option D → LH → Prop, R (g d) h → (f d h).post R XF) → Q (xs.filterMap g) h → (compL f xs h).post Q XF
  | [], Q, _, q => q
  | x :: r, Q, hs, q => by
    unfold compL
    rw [pB]
    refine hs x List.mem_cons_self _ ?_
    rw [pB]
    refine w_comp_pure r (fun d hd => hs d (List.mem_cons_of_mem _ hd)) ?_
    cases e : g x with
    | none =>
      rw [List.filterMap_cons, e] at q
      exact q
    | some y =>
      rw [List.filterMap_cons, e] at q
      exact q
end
end ZW
end

section
namespace ZW
open PySem (Str)
open Z
/-! ### the operations -/
section
variable {i j : Int} {h : LH}
theorem b_add : binD .add (.int i) (.int j) = some (.v (.int (i + j))) := rfl
theorem b_addS {a b : List Nat} : binD .add (.str a) (.str b) = if a.length + b.length ≤ szL then some (.v (.str (a ++ b))) else none := rfl
theorem b_addT {a b : List D} : binD .add (.tup a) (.tup b) = if a.length + b.length ≤ szL then some (.v (.tup (a ++ b))) else none := rfl
theorem b_addL {a b : List D} : binD .add (.lst a) (.lst b) = if a.length + b.length ≤ szL then some (.fr (a ++ b)) else none := rfl
theorem b_sub : binD .sub (.int i) (.int j) = some (.v (.int (i - j))) := rfl
theorem b_mul : binD .mul (.int i) (.int j) = if (small i || small j) = true then some (.v (.int (i * j))) else none := rfl
theorem b_mulL {a : List D} : binD .mul (.lst a) (.int j) = if -(2 ^ 63) ≤ j ∧ j < 2 ^ 63 ∧ a.length * j.toNat ≤ szL then some (.fr (List.replicate j.toNat a).flatten) else none := rfl
theorem b_fdiv : binD .fdiv (.int i) (.int j) = if 0 < j ∧ j < 1073741824 then some (.v (.int (i / j))) else none := rfl
theorem b_mod : binD .mod (.int i) (.int j) = if 0 < j then some (.v (.int (i % j))) else none := rfl
theorem b_pow : binD .pow (.int i) (.int j) = if 0 ≤ j ∧ j ≤ 1000000 ∧ i.natAbs < 2 ^ 64 then some (.v (.int (i ^ j.toNat))) else none := rfl
theorem c_lt : cmpD h .lt (.int i) (.int j) = some (decide (i < j)) := rfl
theorem c_le : cmpD h .le (.int i) (.int j) = some (decide (i ≤ j)) := rfl
theorem c_gt : cmpD h .gt (.int i) (.int j) = some (decide (j < i)) := rfl
theorem c_ge : cmpD h .ge (.int i) (.int j) = some (decide (j ≤ i)) := rfl
theorem c_eq {a b : D} : cmpD h .eq a b = if (plain 60 a && plain 60 b) = true then some (eqD a b) else none := by cases a <;> cases b <;> rfl
theorem c_ne {a b : D} : cmpD h .ne a b = if (plain 60 a && plain 60 b) = true then some (!eqD a b) else none := by cases a <;> cases b <;> rfl
theorem p_int {n : Nat} : plain n (.int i) = true := by cases n <;> rfl
theorem p_bl {n : Nat} {b : Bool} : plain n (.bl b) = true := by cases n <;> rfl
theorem p_non {n : Nat} : plain n .non = true := by cases n <;> rfl
theorem p_str {n : Nat} {s : List Nat} : plain n (.str s) = true := by cases n <;> rfl
theorem q_int : eqD (.int i) (.int j) = (i == j) := by unfold eqD; rfl
theorem q_str {a b : List Nat} : eqD (.str a) (.str b) = decide (a = b) := by unfold eqD; rfl
theorem q_bl {a b : Bool} : eqD (.bl a) (.bl b) = (a == b) := by unfold eqD; rfl
theorem m_len {xs : List D} : biD h .len [.lst xs] = some (.v (.int xs.length)) := rfl
theorem m_lenT {xs : List D} : biD h .len [.tup xs] = some (.v (.int xs.length)) := rfl
theorem m_lenS {xs : List Int} : biD h .len [.scr xs] = some (.v (.int xs.length)) := by simp [biD, seqV, lstV]
theorem m_abs : biD h .abs [.int i] = some (.v (.int (if i < 0 then -i else i))) := rfl
theorem m_intB {k : Bool} : biD h .int [.bl k] = some (.v (.int (if k then 1 else 0))) := rfl
theorem m_max : biD h .max [.int i, .int j] = some (.v (.int (if j > i then j else i))) := rfl
theorem m_min : biD h .min [.int i, .int j] = some (.v (.int (if j < i then j else i))) := rfl
theorem m_listT {xs : List D} : biD h .list [.tup xs] = some (.fr xs) := rfl
theorem m_listL {xs : List D} : biD h .list [.lst xs] = some (.fr xs) := rfl
theorem m_tupL {xs : List D} : biD h .tuple [.lst xs] = some (.v (.tup xs)) := rfl
theorem m_all {xs : List Bool} : biD h .all [.lst (xs.map .bl)] = some (.v (.bl (xs.all id))) := by
  have : boolsOf (xs.map D.bl) = some xs := by
    induction xs with
    | nil => rfl
    | cons x r ih =>
      show (boolsOf (r.map D.bl)).map _ = _
      rw [ih]
      rfl
  show (boolsOf (xs.map D.bl)).map _ = _
  rw [this]
  rfl
theorem m_any {xs : List Bool} : biD h .any [.lst (xs.map .bl)] = some (.v (.bl (xs.any id))) := by
  have : boolsOf (xs.map D.bl) = some xs := by
    induction xs with
    | nil => rfl
    | cons x r ih =>
      show (boolsOf (r.map D.bl)).map _ = _
      rw [ih]
      rfl
  show (boolsOf (xs.map D.bl)).map _ = _
  rw [this]
  rfl
theorem strsOf_map : ∀ xs : List (List Nat), strsOf (xs.map D.str) = some xs
  | [] => rfl
  | x :: r => by
    show (strsOf (r.map D.str)).map _ = _
    rw [strsOf_map r]
    rfl
/-- a place in a list of a cell -/
theorem ix_ref {r : Nat} {xs : List D} (e : h[r]? = some (.lst xs)) : ixD h (.ref r) (.int i) = L2.atI xs i := by
  show (match seqV h (.ref r) with
    | some xs => L2.atI xs i
    | none => none) = _
  have : seqV h (.ref r) = some xs := by
    show (match h[r]? with
      | some (.lst xs) => some xs
      | _ => none) = _
    rw [e]
  rw [this]
theorem seq_ref {r : Nat} {xs : List D} (e : h[r]? = some (.lst xs)) : seqV h (.ref r) = some xs := by
  show (match h[r]? with
    | some (.lst xs) => some xs
    | _ => none) = _
  rw [e]
theorem ix_lst {xs : List D} : ixD h (.lst xs) (.int i) = L2.atI xs i := rfl
theorem ix_tup {xs : List D} : ixD h (.tup xs) (.int i) = L2.atI xs i := rfl
theorem ix_scr {xs : List Int} : ixD h (.scr xs) (.int i) = L2.atI (xs.map .int) i := rfl
theorem ix_str {s : List Nat} : ixD h (.str s) (.int i) = if s.length ≤ szL then (L2.atI s i).map fun c => .str [c] else none := rfl
theorem ixN_nat {n k : Nat} (hk : k < n) : L2.ixN n (k : Int) = some k := by
  unfold L2.ixN
  rw [if_pos (by omega), if_pos (by omega)]
  rfl
theorem ixN_of {n : Nat} {i : Int} (h0 : 0 ≤ i) (hk : i < n) : L2.ixN n i = some i.toNat := by
  unfold L2.ixN
  rw [if_pos h0, if_pos hk]
theorem atI_nat {α : Type} {xs : List α} {k : Nat} {x : α} (e : xs[k]? = some x) : L2.atI xs (k : Int) = some x := by
  have hk := (List.getElem?_eq_some_iff.mp e).1
  unfold L2.atI
  rw [ixN_nat hk]
  exact e
theorem atI_of {α : Type} {xs : List α} {i : Int} (h0 : 0 ≤ i) (hk : i < xs.length) : ∃ x, L2.atI xs i = some x ∧ x ∈ xs ∧ xs[i.toNat]? = some x := by
  have hi : i.toNat < xs.length := by omega
  refine ⟨xs[i.toNat], ?_, List.getElem_mem hi, List.getElem?_eq_getElem hi⟩
  unfold L2.atI
  rw [ixN_of h0 hk]
  exact List.getElem?_eq_getElem hi
theorem at_0 {α : Type} {x : α} {xs : List α} : L2.atI (x :: xs) 0 = some x := atI_nat (k := 0) rfl
theorem at_1 {α : Type} {x y : α} {xs : List α} : L2.atI (x :: y :: xs) 1 = some y := atI_nat (k := 1) rfl
theorem at_2 {α : Type} {x y z : α} {xs : List α} : L2.atI (x :: y :: z :: xs) 2 = some z := atI_nat (k := 2) rfl
theorem ixN_0 {n : Nat} : L2.ixN (n + 1) 0 = some 0 := ixN_nat (k := 0) (by omega)
theorem ixN_2 {n : Nat} : L2.ixN (n + 1 + 1 + 1) 2 = some 2 := ixN_nat (k := 2) (by omega)
theorem set_get {h : LH} {r : Nat} {o o' : Ob} (e : h[r]? = some o) : (h.set r o')[r]? = some o' := List.getElem?_set_self (List.getElem?_eq_some_iff.mp e).1
end
end ZW
end

section
namespace ZW
open PySem (Str)
open Z
/-! ### the drawing defs, alike in many laws -/
def fBox : Fn := { name := "_law_box", ns := ["_law_script", "_law_k", "_law_cell"], np := 2, body := (.cons (.asg (.nm 2) (.int 0)) (.cons (.iff (.cmp .lt (.var 1) (.bi .len (.cons (.var 0) .nil))) (.cons (.asg (.nm 2) (.idx (.var 0) (.var 1))) .nil) .nil) (.cons (.retF (.lst (.cons (.bin .mul (.bi .abs (.cons (.var 2) .nil)) (.bi .int (.cons (.cmp .ge (.bi .abs (.cons (.var 2) .nil)) (.bin .pow (.int 10) (.int 18))) .nil))) (.cons (.bin .add (.bin .add (.bin .mod (.var 2) (.int 2147483629)) (.bin .mul (.int 7919) (.var 1))) (.int 11)) (.cons (.int 0) .nil))))) .nil))), dfl := [] }
def fTake : Fn := { name := "_law_take", ns := ["_law_box_here", "_law_many", "_law_found", "_law_once"], np := 2, body := (.cons (.iff (.cmp .gt (.idx (.var 0) (.int 0)) (.int 0)) (.cons (.asg (.nm 2) (.bin .mod (.idx (.var 0) (.int 0)) (.var 1))) (.cons (.setR (.var 0) (.int 0) (.bin .fdiv (.idx (.var 0) (.int 0)) (.var 1))) (.cons (.ret (.var 2)) .nil))) .nil) (.cons (.setR (.var 0) (.int 2) (.bin .add (.idx (.var 0) (.int 2)) (.int 1))) (.cons (.asg (.nm 3) (.bin .mod (.bin .pow (.bin .add (.idx (.var 0) (.int 1)) (.bin .mul (.int 39373) (.idx (.var 0) (.int 2)))) (.int 5)) (.int 2147483647))) (.cons (.ret (.bin .mod (.bin .fdiv (.bin .mod (.bin .add (.bin .mul (.var 3) (.bin .add (.bin .mod (.var 3) (.int 40009)) (.int 7))) (.bin .mul (.idx (.var 0) (.int 2)) (.int 7919))) (.int 2147483629)) (.int 64)) (.var 1))) .nil)))), dfl := [] }
def fPick (tk : Nat) : Fn := { name := "_law_pick", ns := ["_law_box_here", "_law_some"], np := 2, body := (.cons (.ret (.idx (.var 1) (.call tk (.cons (.var 0) (.cons (.bi .len (.cons (.var 1) .nil)) .nil))))) .nil), dfl := [] }
/-- the drawing box at r: f more draws may be made -/
def Box (f : Nat) (r : Nat) (h : LH) : Prop := ∃ a b c : Int, h[r]? = some (.lst [.int a, .int b, .int c]) ∧ 0 ≤ a ∧ 0 ≤ b ∧ b < 10000000000 ∧ 0 ≤ c ∧ c + f ≤ 1000000
theorem Box.less {f g r : Nat} {h : LH} (b : Box f r h) (hg : g ≤ f) : Box g r h := by
  obtain ⟨x, y, z, e, h1, h2, h3, h4, h5⟩ := b
  exact ⟨x, y, z, e, h1, h2, h3, h4, by omega⟩
theorem small_of {i : Int} (h1 : -1000000000000 < i) (h2 : i < 1000000000000) : small i = true := by
  unfold small
  rw [decide_eq_true_eq]
  omega
section
variable {fs : List Fn} {gl : Str → Option D} {wf n : Nat} {h : LH} {Q : Rv → LH → Prop}
theorem take_ok {i : Nat} (et : fs[i]? = some fTake) {f r : Nat} {k : Int} (hk : 0 < k) (hk2 : k < 1000000) (hb : Box (f + 1) r h) (q : ∀ (j : Int) h', 0 ≤ j → j < k → Box f r h' → Q (.v (.int j)) h') : (run fs gl wf (n + 1) i [.ref r, .int k] h).post Q XF := by
  obtain ⟨a, b, c, e, ha, hb1, hb2, hc, hf⟩ := hb
  rw [w_run (fn := fTake) et rfl]
  rw [show startE fTake [.ref r, .int k] = [.val (.ref r), .val (.int k), .emp, .emp] from rfl]
  have e2 : ∀ o, (h.set r o)[r]? = some o := fun o => set_get e
  simp only [fTake, ZW.kO_some, ZW.kO_none, ZW.kO_map, ZW.kO_bind, ZW.kO_if, ZW.kS_nx, ZW.kS_ret, ZW.kS_brk, ZW.kS_cont, ZW.kB_bl, ZW.kI_int, ZW.kF_fr, ZW.kStr_str, ZW.kVar_val, ZW.kOwn_own, ZW.kRet_ret, ZW.kRet_nx, ZW.dg_v, ZW.dg_fr, ZW.wdg_v, ZW.wdg_fr, ZW.wdg_bw, ZW.get_0, ZW.get_s, ZW.e_var, ZW.e_own, ZW.e_int, ZW.e_bl, ZW.e_non, ZW.e_str, ZW.e_glo, ZW.e_tup, ZW.e_lst, ZW.e_bin, ZW.e_cmp, ZW.e_neg, ZW.e_not, ZW.e_and, ZW.e_or, ZW.e_ifE, ZW.e_idx, ZW.e_sl, ZW.e_call, ZW.e_bi, ZW.e_sset, ZW.e_isi, ZW.e_mth, ZW.op_no, ZW.op_yes, ZW.es_nil, ZW.es_cons, ZW.ws_nil, ZW.ws_cons, ZW.an_one, ZW.an_cons, ZW.or_one, ZW.or_cons, ZW.t_e, ZW.t_cmp', ZW.t_not', ZW.t_and', ZW.t_or', ZW.ts_nil, ZW.ts_cons, ZW.to_nil, ZW.to_cons, ZW.ss_nil, ZW.ss_cons, ZW.s_ex, ZW.s_asg, ZW.s_asgO, ZW.s_asgC, ZW.s_par, ZW.par_nil, ZW.par_t, ZW.par_f, ZW.kTup_tup, ZW.s_star, ZW.s_ret, ZW.kRF_fr, ZW.kRF_bw, ZW.s_retF, ZW.s_retN, ZW.s_iff, ZW.s_app, ZW.s_setO, ZW.kRef_ref, ZW.s_setR, ZW.s_frz, ZW.s_brk, ZW.s_cont, ZW.s_pass, ZW.bt_nm, ZW.bt_tp, ZW.bt_lp, ZW.bts_nil, ZW.bts_cons, ZW.kSeq_tup, ZW.kSeq_lst, ZW.kSeq_scr, ZW.kSeq_str, ZW.it_seq, ZW.it_rng, ZW.it_rng2, ZW.kZip_lst, ZW.kZip_tup, ZW.it_zip, ZW.kLst_lst, ZW.it_enum, ZW.tw_post, ZW.tx_post, ZW.s_for, ZW.e_comp, ZW.kT_nx, ZW.kT_cont, ZW.kT_brk, ZW.kT_ret, Z.setAll, List.set_cons_zero, List.set_cons_succ, if_true, if_false, Bool.false_eq_true, Option.bind_some, Option.map_some, Z.wipe, ix_ref e, seq_ref e, at_0, at_1, at_2, c_gt, decide_eq_true_eq, b_mod, b_fdiv, b_add, b_mul, b_pow, List.length_cons, ixN_0, ixN_2, ix_ref (e2 _), seq_ref (e2 _)]
  split
  · next ha0 =>
    refine ⟨hk, ⟨hk, by omega⟩, q _ _ (Int.emod_nonneg _ (by omega)) (Int.emod_lt_of_pos _ hk) ⟨a / k, b, c, e2 _, Int.ediv_nonneg ha (by omega), hb1, hb2, hc, by omega⟩⟩
  · have m1 : ∀ x : Int, 0 ≤ x % 2147483647 ∧ x % 2147483647 < 2147483647 := fun x => ⟨Int.emod_nonneg _ (by omega), Int.emod_lt_of_pos _ (by omega)⟩
    refine ⟨by rw [small_of (by omega) (by omega)]; rfl, ⟨by decide, by decide, by omega⟩, by decide, by decide, ?_, ?_, by decide, ⟨by decide, by decide⟩, hk, q _ _ (Int.emod_nonneg _ (by omega)) (Int.emod_lt_of_pos _ hk) ⟨a, b, c + 1, e2 _, ha, hb1, hb2, by omega, by omega⟩⟩
    · rw [small_of (i := _ % 2147483647) (by have := m1 ((b + 39373 * (c + 1)) ^ Int.toNat 5); omega) (by have := m1 ((b + 39373 * (c + 1)) ^ Int.toNat 5); omega)]
      rfl
    · rw [small_of (i := c + 1) (by omega) (by omega)]
      rfl
theorem box_ok {i : Nat} (eb : fs[i]? = some fBox) {ns : List Int} {k : Nat} (hk : k ≤ 1000) (q : ∀ a b : Int, 0 ≤ a → 0 ≤ b → b < 10000000000 → Q (.fr [.int a, .int b, .int 0]) h) : (run fs gl wf (n + 1) i [.scr ns, .int k] h).post Q XF := by
  rw [w_run (fn := fBox) eb rfl]
  rw [show startE fBox [.scr ns, .int k] = [.val (.scr ns), .val (.int k), .emp] from rfl]
  have main : ∀ z : Int, ((denSs ⟨run fs gl wf n, gl, wf⟩ (.cons (.retF (.lst (.cons (.bin .mul (.bi .abs (.cons (.var 2) .nil)) (.bi .int (.cons (.cmp .ge (.bi .abs (.cons (.var 2) .nil)) (.bin .pow (.int 10) (.int 18))) .nil))) (.cons (.bin .add (.bin .add (.bin .mod (.var 2) (.int 2147483629)) (.bin .mul (.int 7919) (.var 1))) (.int 11)) (.cons (.int 0) .nil))))) .nil) [.val (.scr ns), .val (.int k), .val (.int z)] h).post (kRet Q) XF) := fun z => by
    simp only [ZW.kO_some, ZW.kO_none, ZW.kO_map, ZW.kO_bind, ZW.kO_if, ZW.kS_nx, ZW.kS_ret, ZW.kS_brk, ZW.kS_cont, ZW.kB_bl, ZW.kI_int, ZW.kF_fr, ZW.kStr_str, ZW.kVar_val, ZW.kOwn_own, ZW.kRet_ret, ZW.kRet_nx, ZW.dg_v, ZW.dg_fr, ZW.wdg_v, ZW.wdg_fr, ZW.wdg_bw, ZW.get_0, ZW.get_s, ZW.e_var, ZW.e_own, ZW.e_int, ZW.e_bl, ZW.e_non, ZW.e_str, ZW.e_glo, ZW.e_tup, ZW.e_lst, ZW.e_bin, ZW.e_cmp, ZW.e_neg, ZW.e_not, ZW.e_and, ZW.e_or, ZW.e_ifE, ZW.e_idx, ZW.e_sl, ZW.e_call, ZW.e_bi, ZW.e_sset, ZW.e_isi, ZW.e_mth, ZW.op_no, ZW.op_yes, ZW.es_nil, ZW.es_cons, ZW.ws_nil, ZW.ws_cons, ZW.an_one, ZW.an_cons, ZW.or_one, ZW.or_cons, ZW.t_e, ZW.t_cmp', ZW.t_not', ZW.t_and', ZW.t_or', ZW.ts_nil, ZW.ts_cons, ZW.to_nil, ZW.to_cons, ZW.ss_nil, ZW.ss_cons, ZW.s_ex, ZW.s_asg, ZW.s_asgO, ZW.s_asgC, ZW.s_par, ZW.par_nil, ZW.par_t, ZW.par_f, ZW.kTup_tup, ZW.s_star, ZW.s_ret, ZW.kRF_fr, ZW.kRF_bw, ZW.s_retF, ZW.s_retN, ZW.s_iff, ZW.s_app, ZW.s_setO, ZW.kRef_ref, ZW.s_setR, ZW.s_frz, ZW.s_brk, ZW.s_cont, ZW.s_pass, ZW.bt_nm, ZW.bt_tp, ZW.bt_lp, ZW.bts_nil, ZW.bts_cons, ZW.kSeq_tup, ZW.kSeq_lst, ZW.kSeq_scr, ZW.kSeq_str, ZW.it_seq, ZW.it_rng, ZW.it_rng2, ZW.kZip_lst, ZW.kZip_tup, ZW.it_zip, ZW.kLst_lst, ZW.it_enum, ZW.tw_post, ZW.tx_post, ZW.s_for, ZW.e_comp, ZW.kT_nx, ZW.kT_cont, ZW.kT_brk, ZW.kT_ret, Z.setAll, List.set_cons_zero, List.set_cons_succ, if_true, if_false, Bool.false_eq_true, Option.bind_some, Option.map_some, Z.wipe, m_abs, m_intB, c_ge, b_pow, b_mul, b_mod, b_add, List.length_cons, List.length_nil]
    have h1 : 0 ≤ z % 2147483629 ∧ z % 2147483629 < 2147483629 := ⟨Int.emod_nonneg _ (by omega), Int.emod_lt_of_pos _ (by omega)⟩
    refine ⟨⟨by decide, by decide, by decide⟩, ?_, by decide, by rw [small_of (i := 7919) (by omega) (by omega)]; rfl, by decide, q _ _ ?_ (by omega) (by omega)⟩
    · have g1 : ∀ b : Bool, small (if b = true then 1 else 0) = true := by decide
      rw [g1, Bool.or_true]
    · have h2 : (0 : Int) ≤ if z < 0 then -z else z := by split <;> omega
      have g2 : ∀ b : Bool, (0 : Int) ≤ if b = true then 1 else 0 := by decide
      exact Int.mul_nonneg h2 (g2 _)
  simp only [fBox, ZW.kO_some, ZW.kO_none, ZW.kO_map, ZW.kO_bind, ZW.kO_if, ZW.kS_nx, ZW.kS_ret, ZW.kS_brk, ZW.kS_cont, ZW.kB_bl, ZW.kI_int, ZW.kF_fr, ZW.kStr_str, ZW.kVar_val, ZW.kOwn_own, ZW.kRet_ret, ZW.kRet_nx, ZW.dg_v, ZW.dg_fr, ZW.wdg_v, ZW.wdg_fr, ZW.wdg_bw, ZW.get_0, ZW.get_s, ZW.e_var, ZW.e_own, ZW.e_int, ZW.e_bl, ZW.e_non, ZW.e_str, ZW.e_glo, ZW.e_tup, ZW.e_lst, ZW.e_bin, ZW.e_cmp, ZW.e_neg, ZW.e_not, ZW.e_and, ZW.e_or, ZW.e_ifE, ZW.e_idx, ZW.e_sl, ZW.e_call, ZW.e_bi, ZW.e_sset, ZW.e_isi, ZW.e_mth, ZW.op_no, ZW.op_yes, ZW.es_nil, ZW.es_cons, ZW.ws_nil, ZW.ws_cons, ZW.an_one, ZW.an_cons, ZW.or_one, ZW.or_cons, ZW.t_e, ZW.t_cmp', ZW.t_not', ZW.t_and', ZW.t_or', ZW.ts_nil, ZW.ts_cons, ZW.to_nil, ZW.to_cons, ZW.ss_nil, ZW.ss_cons, ZW.s_ex, ZW.s_asg, ZW.s_asgO, ZW.s_asgC, ZW.s_par, ZW.par_nil, ZW.par_t, ZW.par_f, ZW.kTup_tup, ZW.s_star, ZW.s_ret, ZW.kRF_fr, ZW.kRF_bw, ZW.s_retF, ZW.s_retN, ZW.s_iff, ZW.s_app, ZW.s_setO, ZW.kRef_ref, ZW.s_setR, ZW.s_frz, ZW.s_brk, ZW.s_cont, ZW.s_pass, ZW.bt_nm, ZW.bt_tp, ZW.bt_lp, ZW.bts_nil, ZW.bts_cons, ZW.kSeq_tup, ZW.kSeq_lst, ZW.kSeq_scr, ZW.kSeq_str, ZW.it_seq, ZW.it_rng, ZW.it_rng2, ZW.kZip_lst, ZW.kZip_tup, ZW.it_zip, ZW.kLst_lst, ZW.it_enum, ZW.tw_post, ZW.tx_post, ZW.s_for, ZW.e_comp, ZW.kT_nx, ZW.kT_cont, ZW.kT_brk, ZW.kT_ret, Z.setAll, List.set_cons_zero, List.set_cons_succ, if_true, if_false, Bool.false_eq_true, Option.bind_some, Option.map_some, Z.wipe, m_lenS, c_lt, decide_eq_true_eq]
  split
  · next hlt =>
    obtain ⟨x, e1, e2, _⟩ := atI_of (xs := ns.map D.int) (i := (k : Int)) (by omega) (by rw [List.length_map]; exact hlt)
    obtain ⟨z, _, rfl⟩ := List.mem_map.mp e2
    simp only [ix_scr, e1, ZW.kO_some, ZW.kO_none, ZW.kO_map, ZW.kO_bind, ZW.kO_if, ZW.kS_nx, ZW.kS_ret, ZW.kS_brk, ZW.kS_cont, ZW.kB_bl, ZW.kI_int, ZW.kF_fr, ZW.kStr_str, ZW.kVar_val, ZW.kOwn_own, ZW.kRet_ret, ZW.kRet_nx, ZW.dg_v, ZW.dg_fr, ZW.wdg_v, ZW.wdg_fr, ZW.wdg_bw, ZW.get_0, ZW.get_s, ZW.e_var, ZW.e_own, ZW.e_int, ZW.e_bl, ZW.e_non, ZW.e_str, ZW.e_glo, ZW.e_tup, ZW.e_lst, ZW.e_bin, ZW.e_cmp, ZW.e_neg, ZW.e_not, ZW.e_and, ZW.e_or, ZW.e_ifE, ZW.e_idx, ZW.e_sl, ZW.e_call, ZW.e_bi, ZW.e_sset, ZW.e_isi, ZW.e_mth, ZW.op_no, ZW.op_yes, ZW.es_nil, ZW.es_cons, ZW.ws_nil, ZW.ws_cons, ZW.an_one, ZW.an_cons, ZW.or_one, ZW.or_cons, ZW.t_e, ZW.t_cmp', ZW.t_not', ZW.t_and', ZW.t_or', ZW.ts_nil, ZW.ts_cons, ZW.to_nil, ZW.to_cons, ZW.ss_nil, ZW.ss_cons, ZW.s_ex, ZW.s_asg, ZW.s_asgO, ZW.s_asgC, ZW.s_par, ZW.par_nil, ZW.par_t, ZW.par_f, ZW.kTup_tup, ZW.s_star, ZW.s_ret, ZW.kRF_fr, ZW.kRF_bw, ZW.s_retF, ZW.s_retN, ZW.s_iff, ZW.s_app, ZW.s_setO, ZW.kRef_ref, ZW.s_setR, ZW.s_frz, ZW.s_brk, ZW.s_cont, ZW.s_pass, ZW.bt_nm, ZW.bt_tp, ZW.bt_lp, ZW.bts_nil, ZW.bts_cons, ZW.kSeq_tup, ZW.kSeq_lst, ZW.kSeq_scr, ZW.kSeq_str, ZW.it_seq, ZW.it_rng, ZW.it_rng2, ZW.kZip_lst, ZW.kZip_tup, ZW.it_zip, ZW.kLst_lst, ZW.it_enum, ZW.tw_post, ZW.tx_post, ZW.s_for, ZW.e_comp, ZW.kT_nx, ZW.kT_cont, ZW.kT_brk, ZW.kT_ret, Z.setAll, List.set_cons_zero, List.set_cons_succ, if_true, if_false, Bool.false_eq_true, Option.bind_some, Option.map_some, Z.wipe]
    have := main z
    simp only [ZW.kO_some, ZW.kO_none, ZW.kO_map, ZW.kO_bind, ZW.kO_if, ZW.kS_nx, ZW.kS_ret, ZW.kS_brk, ZW.kS_cont, ZW.kB_bl, ZW.kI_int, ZW.kF_fr, ZW.kStr_str, ZW.kVar_val, ZW.kOwn_own, ZW.kRet_ret, ZW.kRet_nx, ZW.dg_v, ZW.dg_fr, ZW.wdg_v, ZW.wdg_fr, ZW.wdg_bw, ZW.get_0, ZW.get_s, ZW.e_var, ZW.e_own, ZW.e_int, ZW.e_bl, ZW.e_non, ZW.e_str, ZW.e_glo, ZW.e_tup, ZW.e_lst, ZW.e_bin, ZW.e_cmp, ZW.e_neg, ZW.e_not, ZW.e_and, ZW.e_or, ZW.e_ifE, ZW.e_idx, ZW.e_sl, ZW.e_call, ZW.e_bi, ZW.e_sset, ZW.e_isi, ZW.e_mth, ZW.op_no, ZW.op_yes, ZW.es_nil, ZW.es_cons, ZW.ws_nil, ZW.ws_cons, ZW.an_one, ZW.an_cons, ZW.or_one, ZW.or_cons, ZW.t_e, ZW.t_cmp', ZW.t_not', ZW.t_and', ZW.t_or', ZW.ts_nil, ZW.ts_cons, ZW.to_nil, ZW.to_cons, ZW.ss_nil, ZW.ss_cons, ZW.s_ex, ZW.s_asg, ZW.s_asgO, ZW.s_asgC, ZW.s_par, ZW.par_nil, ZW.par_t, ZW.par_f, ZW.kTup_tup, ZW.s_star, ZW.s_ret, ZW.kRF_fr, ZW.kRF_bw, ZW.s_retF, ZW.s_retN, ZW.s_iff, ZW.s_app, ZW.s_setO, ZW.kRef_ref, ZW.s_setR, ZW.s_frz, ZW.s_brk, ZW.s_cont, ZW.s_pass, ZW.bt_nm, ZW.bt_tp, ZW.bt_lp, ZW.bts_nil, ZW.bts_cons, ZW.kSeq_tup, ZW.kSeq_lst, ZW.kSeq_scr, ZW.kSeq_str, ZW.it_seq, ZW.it_rng, ZW.it_rng2, ZW.kZip_lst, ZW.kZip_tup, ZW.it_zip, ZW.kLst_lst, ZW.it_enum, ZW.tw_post, ZW.tx_post, ZW.s_for, ZW.e_comp, ZW.kT_nx, ZW.kT_cont, ZW.kT_brk, ZW.kT_ret, Z.setAll, List.set_cons_zero, List.set_cons_succ, if_true, if_false, Bool.false_eq_true, Option.bind_some, Option.map_some, Z.wipe] at this
    exact this
  · have := main 0
    simp only [ZW.kO_some, ZW.kO_none, ZW.kO_map, ZW.kO_bind, ZW.kO_if, ZW.kS_nx, ZW.kS_ret, ZW.kS_brk, ZW.kS_cont, ZW.kB_bl, ZW.kI_int, ZW.kF_fr, ZW.kStr_str, ZW.kVar_val, ZW.kOwn_own, ZW.kRet_ret, ZW.kRet_nx, ZW.dg_v, ZW.dg_fr, ZW.wdg_v, ZW.wdg_fr, ZW.wdg_bw, ZW.get_0, ZW.get_s, ZW.e_var, ZW.e_own, ZW.e_int, ZW.e_bl, ZW.e_non, ZW.e_str, ZW.e_glo, ZW.e_tup, ZW.e_lst, ZW.e_bin, ZW.e_cmp, ZW.e_neg, ZW.e_not, ZW.e_and, ZW.e_or, ZW.e_ifE, ZW.e_idx, ZW.e_sl, ZW.e_call, ZW.e_bi, ZW.e_sset, ZW.e_isi, ZW.e_mth, ZW.op_no, ZW.op_yes, ZW.es_nil, ZW.es_cons, ZW.ws_nil, ZW.ws_cons, ZW.an_one, ZW.an_cons, ZW.or_one, ZW.or_cons, ZW.t_e, ZW.t_cmp', ZW.t_not', ZW.t_and', ZW.t_or', ZW.ts_nil, ZW.ts_cons, ZW.to_nil, ZW.to_cons, ZW.ss_nil, ZW.ss_cons, ZW.s_ex, ZW.s_asg, ZW.s_asgO, ZW.s_asgC, ZW.s_par, ZW.par_nil, ZW.par_t, ZW.par_f, ZW.kTup_tup, ZW.s_star, ZW.s_ret, ZW.kRF_fr, ZW.kRF_bw, ZW.s_retF, ZW.s_retN, ZW.s_iff, ZW.s_app, ZW.s_setO, ZW.kRef_ref, ZW.s_setR, ZW.s_frz, ZW.s_brk, ZW.s_cont, ZW.s_pass, ZW.bt_nm, ZW.bt_tp, ZW.bt_lp, ZW.bts_nil, ZW.bts_cons, ZW.kSeq_tup, ZW.kSeq_lst, ZW.kSeq_scr, ZW.kSeq_str, ZW.it_seq, ZW.it_rng, ZW.it_rng2, ZW.kZip_lst, ZW.kZip_tup, ZW.it_zip, ZW.kLst_lst, ZW.it_enum, ZW.tw_post, ZW.tx_post, ZW.s_for, ZW.e_comp, ZW.kT_nx, ZW.kT_cont, ZW.kT_brk, ZW.kT_ret, Z.setAll, List.set_cons_zero, List.set_cons_succ, if_true, if_false, Bool.false_eq_true, Option.bind_some, Option.map_some, Z.wipe] at this
    exact this
theorem pick_ok {i tk : Nat} (ep : fs[i]? = some (fPick tk)) (et : fs[tk]? = some fTake) {f r : Nat} {xs : List D} (h0 : xs ≠ []) (h1 : xs.length < 1000000) (hb : Box (f + 1) r h) (q : ∀ x h', x ∈ xs → Box f r h' → Q (.v x) h') : (run fs gl wf (n + 2) i [.ref r, .lst xs] h).post Q XF := by
  rw [w_run (fn := fPick tk) ep rfl]
  rw [show startE (fPick tk) [.ref r, .lst xs] = [.val (.ref r), .val (.lst xs)] from rfl]
  have hp : 0 < xs.length := List.length_pos_iff.mpr h0
  simp only [fPick, ZW.kO_some, ZW.kO_none, ZW.kO_map, ZW.kO_bind, ZW.kO_if, ZW.kS_nx, ZW.kS_ret, ZW.kS_brk, ZW.kS_cont, ZW.kB_bl, ZW.kI_int, ZW.kF_fr, ZW.kStr_str, ZW.kVar_val, ZW.kOwn_own, ZW.kRet_ret, ZW.kRet_nx, ZW.dg_v, ZW.dg_fr, ZW.wdg_v, ZW.wdg_fr, ZW.wdg_bw, ZW.get_0, ZW.get_s, ZW.e_var, ZW.e_own, ZW.e_int, ZW.e_bl, ZW.e_non, ZW.e_str, ZW.e_glo, ZW.e_tup, ZW.e_lst, ZW.e_bin, ZW.e_cmp, ZW.e_neg, ZW.e_not, ZW.e_and, ZW.e_or, ZW.e_ifE, ZW.e_idx, ZW.e_sl, ZW.e_call, ZW.e_bi, ZW.e_sset, ZW.e_isi, ZW.e_mth, ZW.op_no, ZW.op_yes, ZW.es_nil, ZW.es_cons, ZW.ws_nil, ZW.ws_cons, ZW.an_one, ZW.an_cons, ZW.or_one, ZW.or_cons, ZW.t_e, ZW.t_cmp', ZW.t_not', ZW.t_and', ZW.t_or', ZW.ts_nil, ZW.ts_cons, ZW.to_nil, ZW.to_cons, ZW.ss_nil, ZW.ss_cons, ZW.s_ex, ZW.s_asg, ZW.s_asgO, ZW.s_asgC, ZW.s_par, ZW.par_nil, ZW.par_t, ZW.par_f, ZW.kTup_tup, ZW.s_star, ZW.s_ret, ZW.kRF_fr, ZW.kRF_bw, ZW.s_retF, ZW.s_retN, ZW.s_iff, ZW.s_app, ZW.s_setO, ZW.kRef_ref, ZW.s_setR, ZW.s_frz, ZW.s_brk, ZW.s_cont, ZW.s_pass, ZW.bt_nm, ZW.bt_tp, ZW.bt_lp, ZW.bts_nil, ZW.bts_cons, ZW.kSeq_tup, ZW.kSeq_lst, ZW.kSeq_scr, ZW.kSeq_str, ZW.it_seq, ZW.it_rng, ZW.it_rng2, ZW.kZip_lst, ZW.kZip_tup, ZW.it_zip, ZW.kLst_lst, ZW.it_enum, ZW.tw_post, ZW.tx_post, ZW.s_for, ZW.e_comp, ZW.kT_nx, ZW.kT_cont, ZW.kT_brk, ZW.kT_ret, Z.setAll, List.set_cons_zero, List.set_cons_succ, if_true, if_false, Bool.false_eq_true, Option.bind_some, Option.map_some, Z.wipe, m_len]
  refine take_ok et (k := (xs.length : Nat)) (by omega) (by omega) hb fun j h' j0 j1 b' => ?_
  obtain ⟨x, e1, e2, _⟩ := atI_of j0 j1
  simp only [ZW.kO_some, ZW.kO_none, ZW.kO_map, ZW.kO_bind, ZW.kO_if, ZW.kS_nx, ZW.kS_ret, ZW.kS_brk, ZW.kS_cont, ZW.kB_bl, ZW.kI_int, ZW.kF_fr, ZW.kStr_str, ZW.kVar_val, ZW.kOwn_own, ZW.kRet_ret, ZW.kRet_nx, ZW.dg_v, ZW.dg_fr, ZW.wdg_v, ZW.wdg_fr, ZW.wdg_bw, ZW.get_0, ZW.get_s, ZW.e_var, ZW.e_own, ZW.e_int, ZW.e_bl, ZW.e_non, ZW.e_str, ZW.e_glo, ZW.e_tup, ZW.e_lst, ZW.e_bin, ZW.e_cmp, ZW.e_neg, ZW.e_not, ZW.e_and, ZW.e_or, ZW.e_ifE, ZW.e_idx, ZW.e_sl, ZW.e_call, ZW.e_bi, ZW.e_sset, ZW.e_isi, ZW.e_mth, ZW.op_no, ZW.op_yes, ZW.es_nil, ZW.es_cons, ZW.ws_nil, ZW.ws_cons, ZW.an_one, ZW.an_cons, ZW.or_one, ZW.or_cons, ZW.t_e, ZW.t_cmp', ZW.t_not', ZW.t_and', ZW.t_or', ZW.ts_nil, ZW.ts_cons, ZW.to_nil, ZW.to_cons, ZW.ss_nil, ZW.ss_cons, ZW.s_ex, ZW.s_asg, ZW.s_asgO, ZW.s_asgC, ZW.s_par, ZW.par_nil, ZW.par_t, ZW.par_f, ZW.kTup_tup, ZW.s_star, ZW.s_ret, ZW.kRF_fr, ZW.kRF_bw, ZW.s_retF, ZW.s_retN, ZW.s_iff, ZW.s_app, ZW.s_setO, ZW.kRef_ref, ZW.s_setR, ZW.s_frz, ZW.s_brk, ZW.s_cont, ZW.s_pass, ZW.bt_nm, ZW.bt_tp, ZW.bt_lp, ZW.bts_nil, ZW.bts_cons, ZW.kSeq_tup, ZW.kSeq_lst, ZW.kSeq_scr, ZW.kSeq_str, ZW.it_seq, ZW.it_rng, ZW.it_rng2, ZW.kZip_lst, ZW.kZip_tup, ZW.it_zip, ZW.kLst_lst, ZW.it_enum, ZW.tw_post, ZW.tx_post, ZW.s_for, ZW.e_comp, ZW.kT_nx, ZW.kT_cont, ZW.kT_brk, ZW.kT_ret, Z.setAll, List.set_cons_zero, List.set_cons_succ, if_true, if_false, Bool.false_eq_true, Option.bind_some, Option.map_some, Z.wipe, ix_lst, e1]
  exact q x h' e2 b'
/-! names -/
def fNames (tk : Nat) : Fn := { name := "_law_names", ns := ["_law_box_here", "_law_many", "_law_letters", "_law_found", "_law_k", "_law_name", "_law_j", "_law_barred", "_law_one"], np := 2, body := (.cons (.par [(false, 2), (true, 3)] (.cons (.str [97, 98, 99, 100, 101, 102, 103, 104, 105, 106, 107, 108, 109, 110, 111, 112, 113, 114, 115, 116, 117, 118, 119, 120, 121, 122]) (.cons (.lst .nil) .nil))) (.cons (.for_ (.rng (.var 1)) (.nm 4) (.cons (.asg (.nm 5) (.mth .join (.str []) (.cons (.comp (.rng (.idx (.lst (.cons (.int 1) (.cons (.int 6) (.cons (.int 3) .nil)))) (.call tk (.cons (.var 0) (.cons (.int 3) .nil))))) (.nm 6) .nil (.idx (.var 2) (.call tk (.cons (.var 0) (.cons (.int 26) .nil)))) [6]) .nil))) (.cons (.iff (.and (.cons (.cmp .ne (.own 3) (.lst .nil)) (.cons (.cmp .eq (.call tk (.cons (.var 0) (.cons (.int 4) .nil))) (.int 0)) .nil))) (.cons (.asg (.nm 5) (.bin .add (.sl (.idx (.own 3) (.int 0)) .no (.yes (.int 5))) (.idx (.var 2) (.call tk (.cons (.var 0) (.cons (.int 26) .nil)))))) .nil) .nil) (.cons (.asg (.nm 7) (.bin .add (.own 3) (.lst (.cons (.str [121, 101, 115]) (.cons (.str [110, 111]) (.cons (.str [119, 97, 115]) (.cons (.str [110, 111, 116]) (.cons (.str [97, 110, 100]) (.cons (.str [111, 114]) (.cons (.str [116, 104, 101, 110]) (.cons (.str [116, 105, 108, 108]) .nil))))))))))) (.cons (.app 3 (.idx (.comp (.seq (.bin .add (.lst (.cons (.var 5) .nil)) (.comp (.seq (.var 2)) (.nm 8) .nil (.bin .add (.sl (.var 5) .no (.yes (.int 5))) (.var 8)) [8]))) (.nm 8) (.cons (.cmp .nin (.var 8) (.var 7)) .nil) (.var 8) [8]) (.int 0))) .nil))))) (.cons (.retF (.own 3)) .nil))), dfl := [] }
abbrev letters : List Nat := [97, 98, 99, 100, 101, 102, 103, 104, 105, 106, 107, 108, 109, 110, 111, 112, 113, 114, 115, 116, 117, 118, 119, 120, 121, 122]
theorem ix_own {xs : List D} {i : Int} : ixD h (.lst xs) (.int i) = L2.atI xs i := rfl
theorem m_join {sep : List Nat} {ss : List (List Nat)} : mtD h .join sep [.lst (ss.map .str)] = if sumLen ss + ss.length * sep.length ≤ szL then some (.v (.str (joinS sep ss))) else none := by
  unfold mtD seqV lstV
  simp only [Option.bind_some, strsOf_map]
theorem join_len : ∀ ss : List (List Nat), (joinS [] ss).length = sumLen ss
  | [] => rfl
  | [x] => by show x.length = x.length + 0; rfl
  | x :: y :: r => by
    show (x ++ [] ++ joinS [] (y :: r)).length = x.length + sumLen (y :: r)
    rw [List.append_nil, List.length_append, join_len (y :: r)]
theorem sum_ones : ∀ ss : List (List Nat), (∀ s ∈ ss, s.length = 1) → sumLen ss = ss.length
  | [], _ => rfl
  | x :: r, h => by
    show x.length + sumLen r = r.length + 1
    rw [sum_ones r fun s hs => h s (List.mem_cons_of_mem _ hs), h x List.mem_cons_self]
    omega
theorem p_strs {n : Nat} : ∀ ss : List (List Nat), plain (n + 1) (.lst (ss.map .str)) = true
  | [] => rfl
  | x :: r => by
    have := p_strs (n := n) r
    unfold plain at this ⊢
    rw [List.map_cons]
    unfold plains
    rw [this, p_str]
    rfl
theorem flat_strs : ∀ ss : List (List Nat), (ss.map D.str).all flat = true
  | [] => rfl
  | x :: r => by
    rw [List.map_cons, List.all_cons, flat_strs r]
    rfl
theorem any_strs {s : List Nat} : ∀ ss : List (List Nat), ((ss.map D.str).any fun y => eqD y (.str s)) = decide (s ∈ ss)
  | [] => by simp
  | x :: r => by
    rw [List.map_cons, List.any_cons, any_strs r, q_str]
    by_cases h1 : x = s
    · subst h1; simp
    · have : ¬ s = x := fun z => h1 z.symm
      simp [h1, this]
theorem in_strs {s : List Nat} {ss : List (List Nat)} : inD h (.str s) (.lst (ss.map .str)) = some (decide (s ∈ ss)) := by
  show (if (flat (.str s) && (ss.map D.str).all flat) = true then some ((ss.map D.str).any fun y => eqD y (.str s)) else none) = _
  rw [flat_strs, any_strs]
  rfl
theorem c_nin {s : List Nat} {ss : List (List Nat)} : cmpD h .nin (.str s) (.lst (ss.map .str)) = some (!decide (s ∈ ss)) := by
  have : cmpD h .nin (.str s) (.lst (ss.map .str)) = (inD h (.str s) (.lst (ss.map .str))).map (!·) := by
    cases s with
    | nil => rfl
    | cons c r => cases r <;> rfl
  rw [this, in_strs]
  rfl
theorem c_in {s : List Nat} {ss : List (List Nat)} : cmpD h .in_ (.str s) (.lst (ss.map .str)) = some (decide (s ∈ ss)) := by
  have : cmpD h .in_ (.str s) (.lst (ss.map .str)) = inD h (.str s) (.lst (ss.map .str)) := by
    cases s with
    | nil => rfl
    | cons c r => cases r <;> rfl
  rw [this, in_strs]
theorem rng_at : ∀ (m i : Nat) (lo : Int) (d : D), (rngL lo m)[i]? = some d → d = .int (lo + i) ∧ i < m
  | 0, i, _, _, e => by simp [rngL] at e
  | m + 1, 0, lo, d, e => by
    have : D.int lo = d := by simpa [rngL] using e
    exact ⟨by rw [← this]; simp, by omega⟩
  | m + 1, i + 1, lo, d, e => by
    obtain ⟨e1, e2⟩ := rng_at m i (lo + 1) d (by simpa [rngL] using e)
    refine ⟨?_, by omega⟩
    rw [e1]
    refine congrArg D.int ?_
    omega
theorem rng_len : ∀ (m : Nat) (lo : Int), (rngL lo m).length = m
  | 0, _ => rfl
  | m + 1, lo => by
    show (rngL (lo + 1) m).length + 1 = m + 1
    rw [rng_len m]
theorem sl5 {s : List Nat} (hs : s.length ≤ 1000000) : slD h (.str s) none (some 5) = some (.v (.str (cut s none (some 5)))) := by
  show (if s.length ≤ szL then some _ else none) = _
  rw [if_pos (by unfold szL; omega)]
theorem cut5 {s : List Nat} : (cut s none (some 5)).length ≤ 5 := by
  unfold cut
  rw [List.length_take]
  refine Nat.le_trans (Nat.min_le_left _ _) ?_
  unfold HT.sIx
  simp
  omega
/-- of n + 1 candidates that differ, one is not among n -/
theorem free_one {α : Type} [DecidableEq α] : ∀ (bs cs : List α), cs.Nodup → bs.length < cs.length → ∃ c ∈ cs, c ∉ bs
  | [], c :: cs, _, _ => ⟨c, List.mem_cons_self, fun z => nomatch z⟩
  | [], [], _, h => by simp at h
  | b :: bs, cs, hn, hl => by
    have h2 : bs.length < (cs.erase b).length := by
      have := List.length_erase (a := b) (l := cs)
      rw [this]
      rw [List.length_cons] at hl
      split <;> omega
    obtain ⟨c, hc, hb⟩ := free_one bs (cs.erase b) (hn.erase b) h2
    have hc' := List.mem_of_mem_erase hc
    refine ⟨c, hc', fun z => ?_⟩
    rcases List.mem_cons.mp z with rfl | z
    · exact (List.Nodup.mem_erase_iff hn).mp hc |>.1 rfl
    · exact hb z
theorem fm_strs (p : List Nat → Bool) : ∀ cs : List (List Nat), ((cs.map D.str).filterMap fun d => match d with
    | .str s => if p s = true then some (D.str s) else none
    | _ => none) = (cs.filter p).map D.str
  | [] => rfl
  | c :: cs => by
    rw [List.map_cons, List.filterMap_cons]
    dsimp only
    cases hp : p c with
    | true =>
      rw [List.filter_cons_of_pos hp]
      simp only [if_true, List.map_cons]
      rw [fm_strs p cs]
    | false =>
      rw [List.filter_cons_of_neg (by rw [hp]; exact Bool.false_ne_true)]
      simp only [Bool.false_eq_true, if_false]
      exact fm_strs p cs
abbrev words8 : List (List Nat) := [[121, 101, 115], [110, 111], [119, 97, 115], [110, 111, 116], [97, 110, 100], [111, 114], [116, 104, 101, 110], [116, 105, 108, 108]]
abbrev namesTl : Ss := .cons (.asg (.nm 7) (.bin .add (.own 3) (.lst (.cons (.str [121, 101, 115]) (.cons (.str [110, 111]) (.cons (.str [119, 97, 115]) (.cons (.str [110, 111, 116]) (.cons (.str [97, 110, 100]) (.cons (.str [111, 114]) (.cons (.str [116, 104, 101, 110]) (.cons (.str [116, 105, 108, 108]) .nil))))))))))) (.cons (.app 3 (.idx (.comp (.seq (.bin .add (.lst (.cons (.var 5) .nil)) (.comp (.seq (.var 2)) (.nm 8) .nil (.bin .add (.sl (.var 5) .no (.yes (.int 5))) (.var 8)) [8]))) (.nm 8) (.cons (.cmp .nin (.var 8) (.var 7)) .nil) (.var 8) [8]) (.int 0))) .nil)
theorem namesTl_ok {c : Cx} {a b s4 s6 s7 s8 : Slot} {xs : List (List Nat)} {z : List Nat} {h : LH} {R : Fl → LH → Prop} (hx : xs.length ≤ 8) (hz : z.length ≤ 6)
    (q : ∀ (w : List Nat) s7 s8, w.length ≤ 6 → R (.nx [a, b, .val (.str letters), .own ((xs ++ [w]).map .str), s4, .val (.str z), s6, s7, s8]) h) : (denSs c namesTl [a, b, .val (.str letters), .own (xs.map .str), s4, .val (.str z), s6, s7, s8] h).post R XF := by
  have eb : List.map D.str xs ++ [D.str [121, 101, 115], D.str [110, 111], D.str [119, 97, 115], D.str [110, 111, 116], D.str [97, 110, 100], D.str [111, 114], D.str [116, 104, 101, 110], D.str [116, 105, 108, 108]] = (xs ++ words8).map D.str := by
    rw [List.map_append]
    rfl
  have c5 := cut5 (s := z)
  have e5 := sl5 (h := h) (s := z) (by omega)
  simp only [namesTl, ZW.kO_some, ZW.kO_none, ZW.kO_map, ZW.kO_bind, ZW.kO_if, ZW.kS_nx, ZW.kS_ret, ZW.kS_brk, ZW.kS_cont, ZW.kB_bl, ZW.kI_int, ZW.kF_fr, ZW.kStr_str, ZW.kVar_val, ZW.kOwn_own, ZW.kRet_ret, ZW.kRet_nx, ZW.dg_v, ZW.dg_fr, ZW.wdg_v, ZW.wdg_fr, ZW.wdg_bw, ZW.get_0, ZW.get_s, ZW.e_var, ZW.e_own, ZW.e_int, ZW.e_bl, ZW.e_non, ZW.e_str, ZW.e_glo, ZW.e_tup, ZW.e_lst, ZW.e_bin, ZW.e_cmp, ZW.e_neg, ZW.e_not, ZW.e_and, ZW.e_or, ZW.e_ifE, ZW.e_idx, ZW.e_sl, ZW.e_call, ZW.e_bi, ZW.e_sset, ZW.e_isi, ZW.e_mth, ZW.op_no, ZW.op_yes, ZW.es_nil, ZW.es_cons, ZW.ws_nil, ZW.ws_cons, ZW.an_one, ZW.an_cons, ZW.or_one, ZW.or_cons, ZW.t_e, ZW.t_cmp', ZW.t_not', ZW.t_and', ZW.t_or', ZW.ts_nil, ZW.ts_cons, ZW.to_nil, ZW.to_cons, ZW.ss_nil, ZW.ss_cons, ZW.s_ex, ZW.s_asg, ZW.s_asgO, ZW.s_asgC, ZW.s_par, ZW.par_nil, ZW.par_t, ZW.par_f, ZW.kTup_tup, ZW.s_star, ZW.s_ret, ZW.kRF_fr, ZW.kRF_bw, ZW.s_retF, ZW.s_retN, ZW.s_iff, ZW.s_app, ZW.s_setO, ZW.kRef_ref, ZW.s_setR, ZW.s_frz, ZW.s_brk, ZW.s_cont, ZW.s_pass, ZW.bt_nm, ZW.bt_tp, ZW.bt_lp, ZW.bts_nil, ZW.bts_cons, ZW.kSeq_tup, ZW.kSeq_lst, ZW.kSeq_scr, ZW.kSeq_str, ZW.it_seq, ZW.it_rng, ZW.it_rng2, ZW.kZip_lst, ZW.kZip_tup, ZW.it_zip, ZW.kLst_lst, ZW.it_enum, ZW.tw_post, ZW.tx_post, ZW.s_for, ZW.e_comp, ZW.kT_nx, ZW.kT_cont, ZW.kT_brk, ZW.kT_ret, Z.setAll, List.set_cons_zero, List.set_cons_succ, if_true, if_false, Bool.false_eq_true, Option.bind_some, Option.map_some, Z.wipe, List.length_cons, List.length_nil, b_addL, eb]
  refine ⟨by decide, by rw [List.length_map]; unfold szL; omega, by decide, ?_⟩
  refine w_comp_pure (g := fun d => match d with
    | .str s => some (.str (cut z none (some 5) ++ s))
    | _ => none) _ (fun d hd R hR => ?_) ?_
  · obtain ⟨k, hk, rfl⟩ := List.mem_map.mp hd
    simp only [ZW.kO_some, ZW.kO_none, ZW.kO_map, ZW.kO_bind, ZW.kO_if, ZW.kS_nx, ZW.kS_ret, ZW.kS_brk, ZW.kS_cont, ZW.kB_bl, ZW.kI_int, ZW.kF_fr, ZW.kStr_str, ZW.kVar_val, ZW.kOwn_own, ZW.kRet_ret, ZW.kRet_nx, ZW.dg_v, ZW.dg_fr, ZW.wdg_v, ZW.wdg_fr, ZW.wdg_bw, ZW.get_0, ZW.get_s, ZW.e_var, ZW.e_own, ZW.e_int, ZW.e_bl, ZW.e_non, ZW.e_str, ZW.e_glo, ZW.e_tup, ZW.e_lst, ZW.e_bin, ZW.e_cmp, ZW.e_neg, ZW.e_not, ZW.e_and, ZW.e_or, ZW.e_ifE, ZW.e_idx, ZW.e_sl, ZW.e_call, ZW.e_bi, ZW.e_sset, ZW.e_isi, ZW.e_mth, ZW.op_no, ZW.op_yes, ZW.es_nil, ZW.es_cons, ZW.ws_nil, ZW.ws_cons, ZW.an_one, ZW.an_cons, ZW.or_one, ZW.or_cons, ZW.t_e, ZW.t_cmp', ZW.t_not', ZW.t_and', ZW.t_or', ZW.ts_nil, ZW.ts_cons, ZW.to_nil, ZW.to_cons, ZW.ss_nil, ZW.ss_cons, ZW.s_ex, ZW.s_asg, ZW.s_asgO, ZW.s_asgC, ZW.s_par, ZW.par_nil, ZW.par_t, ZW.par_f, ZW.kTup_tup, ZW.s_star, ZW.s_ret, ZW.kRF_fr, ZW.kRF_bw, ZW.s_retF, ZW.s_retN, ZW.s_iff, ZW.s_app, ZW.s_setO, ZW.kRef_ref, ZW.s_setR, ZW.s_frz, ZW.s_brk, ZW.s_cont, ZW.s_pass, ZW.bt_nm, ZW.bt_tp, ZW.bt_lp, ZW.bts_nil, ZW.bts_cons, ZW.kSeq_tup, ZW.kSeq_lst, ZW.kSeq_scr, ZW.kSeq_str, ZW.it_seq, ZW.it_rng, ZW.it_rng2, ZW.kZip_lst, ZW.kZip_tup, ZW.it_zip, ZW.kLst_lst, ZW.it_enum, ZW.tw_post, ZW.tx_post, ZW.s_for, ZW.e_comp, ZW.kT_nx, ZW.kT_cont, ZW.kT_brk, ZW.kT_ret, Z.setAll, List.set_cons_zero, List.set_cons_succ, if_true, if_false, Bool.false_eq_true, Option.bind_some, Option.map_some, Z.wipe, e5, b_addS]
    exact ⟨by rw [List.length_singleton]; unfold szL; omega, hR⟩
  · have e6 : (letters.map fun k => D.str [k]).filterMap (fun d => match d with
      | .str s => some (D.str (cut z none (some 5) ++ s))
      | _ => none) = (letters.map fun k => cut z none (some 5) ++ [k]).map D.str := rfl
    rw [e6]
    have e7 : [D.str z] ++ (letters.map fun k => cut z none (some 5) ++ [k]).map D.str = (z :: letters.map fun k => cut z none (some 5) ++ [k]).map D.str := rfl
    refine ⟨by rw [List.length_map, List.length_map]; decide, by rw [List.length_map, List.length_map]; decide, ?_⟩
    rw [e7]
    refine w_comp_pure (g := fun d => match d with
      | .str s => if (!decide (s ∈ xs ++ words8)) = true then some (D.str s) else none
      | _ => none) _ (fun d hd R hR => ?_) ?_
    · obtain ⟨s, hs, rfl⟩ := List.mem_map.mp hd
      simp only [ZW.kO_some, ZW.kO_none, ZW.kO_map, ZW.kO_bind, ZW.kO_if, ZW.kS_nx, ZW.kS_ret, ZW.kS_brk, ZW.kS_cont, ZW.kB_bl, ZW.kI_int, ZW.kF_fr, ZW.kStr_str, ZW.kVar_val, ZW.kOwn_own, ZW.kRet_ret, ZW.kRet_nx, ZW.dg_v, ZW.dg_fr, ZW.wdg_v, ZW.wdg_fr, ZW.wdg_bw, ZW.get_0, ZW.get_s, ZW.e_var, ZW.e_own, ZW.e_int, ZW.e_bl, ZW.e_non, ZW.e_str, ZW.e_glo, ZW.e_tup, ZW.e_lst, ZW.e_bin, ZW.e_cmp, ZW.e_neg, ZW.e_not, ZW.e_and, ZW.e_or, ZW.e_ifE, ZW.e_idx, ZW.e_sl, ZW.e_call, ZW.e_bi, ZW.e_sset, ZW.e_isi, ZW.e_mth, ZW.op_no, ZW.op_yes, ZW.es_nil, ZW.es_cons, ZW.ws_nil, ZW.ws_cons, ZW.an_one, ZW.an_cons, ZW.or_one, ZW.or_cons, ZW.t_e, ZW.t_cmp', ZW.t_not', ZW.t_and', ZW.t_or', ZW.ts_nil, ZW.ts_cons, ZW.to_nil, ZW.to_cons, ZW.ss_nil, ZW.ss_cons, ZW.s_ex, ZW.s_asg, ZW.s_asgO, ZW.s_asgC, ZW.s_par, ZW.par_nil, ZW.par_t, ZW.par_f, ZW.kTup_tup, ZW.s_star, ZW.s_ret, ZW.kRF_fr, ZW.kRF_bw, ZW.s_retF, ZW.s_retN, ZW.s_iff, ZW.s_app, ZW.s_setO, ZW.kRef_ref, ZW.s_setR, ZW.s_frz, ZW.s_brk, ZW.s_cont, ZW.s_pass, ZW.bt_nm, ZW.bt_tp, ZW.bt_lp, ZW.bts_nil, ZW.bts_cons, ZW.kSeq_tup, ZW.kSeq_lst, ZW.kSeq_scr, ZW.kSeq_str, ZW.it_seq, ZW.it_rng, ZW.it_rng2, ZW.kZip_lst, ZW.kZip_tup, ZW.it_zip, ZW.kLst_lst, ZW.it_enum, ZW.tw_post, ZW.tx_post, ZW.s_for, ZW.e_comp, ZW.kT_nx, ZW.kT_cont, ZW.kT_brk, ZW.kT_ret, Z.setAll, List.set_cons_zero, List.set_cons_succ, if_true, if_false, Bool.false_eq_true, Option.bind_some, Option.map_some, Z.wipe, c_nin]
      cases hb : (!decide (s ∈ xs ++ words8)) with
      | true =>
        simp only [hb, if_true] at hR ⊢
        exact hR
      | false =>
        simp only [hb, Bool.false_eq_true, if_false] at hR ⊢
        exact hR
    · rw [fm_strs (fun s => !decide (s ∈ xs ++ words8))]
      have nd : (letters.map fun k => cut z none (some 5) ++ [k]).Nodup := by
        refine List.Pairwise.map _ (fun a b hab he => hab ?_) (show letters.Nodup by decide)
        have := List.append_cancel_left he
        exact (List.cons.inj this).1
      obtain ⟨w, hw1, hw2⟩ := free_one (xs ++ words8) _ nd (by rw [List.length_append, List.length_map]; show xs.length + 8 < 26; omega)
      have hin : w ∈ (z :: letters.map fun k => cut z none (some 5) ++ [k]).filter fun s => !decide (s ∈ xs ++ words8) := List.mem_filter.mpr ⟨List.mem_cons_of_mem _ hw1, by simpa using hw2⟩
      have hle : ((z :: letters.map fun k => cut z none (some 5) ++ [k]).filter fun s => !decide (s ∈ xs ++ words8)).length ≤ 27 := List.length_filter_le _ _
      cases hc : (z :: letters.map fun k => cut z none (some 5) ++ [k]).filter fun s => !decide (s ∈ xs ++ words8) with
      | nil => rw [hc] at hin; cases hin
      | cons w0 r =>
        have hw0 : w0 ∈ (z :: letters.map fun k => cut z none (some 5) ++ [k]).filter fun s => !decide (s ∈ xs ++ words8) := by rw [hc]; exact List.mem_cons_self
        rw [hc] at hle
        have hl0 : w0.length ≤ 6 := by
          rcases List.mem_cons.mp (List.mem_filter.mp hw0).1 with rfl | z1
          · exact hz
          · obtain ⟨k, _, rfl⟩ := List.mem_map.mp z1
            rw [List.length_append, List.length_singleton]
            omega
        refine ⟨by rw [List.length_map]; unfold szL; omega, ?_⟩
        rw [List.map_cons]
        simp only [ZW.kO_some, ZW.kO_none, ZW.kO_map, ZW.kO_bind, ZW.kO_if, ZW.kS_nx, ZW.kS_ret, ZW.kS_brk, ZW.kS_cont, ZW.kB_bl, ZW.kI_int, ZW.kF_fr, ZW.kStr_str, ZW.kVar_val, ZW.kOwn_own, ZW.kRet_ret, ZW.kRet_nx, ZW.dg_v, ZW.dg_fr, ZW.wdg_v, ZW.wdg_fr, ZW.wdg_bw, ZW.get_0, ZW.get_s, ZW.e_var, ZW.e_own, ZW.e_int, ZW.e_bl, ZW.e_non, ZW.e_str, ZW.e_glo, ZW.e_tup, ZW.e_lst, ZW.e_bin, ZW.e_cmp, ZW.e_neg, ZW.e_not, ZW.e_and, ZW.e_or, ZW.e_ifE, ZW.e_idx, ZW.e_sl, ZW.e_call, ZW.e_bi, ZW.e_sset, ZW.e_isi, ZW.e_mth, ZW.op_no, ZW.op_yes, ZW.es_nil, ZW.es_cons, ZW.ws_nil, ZW.ws_cons, ZW.an_one, ZW.an_cons, ZW.or_one, ZW.or_cons, ZW.t_e, ZW.t_cmp', ZW.t_not', ZW.t_and', ZW.t_or', ZW.ts_nil, ZW.ts_cons, ZW.to_nil, ZW.to_cons, ZW.ss_nil, ZW.ss_cons, ZW.s_ex, ZW.s_asg, ZW.s_asgO, ZW.s_asgC, ZW.s_par, ZW.par_nil, ZW.par_t, ZW.par_f, ZW.kTup_tup, ZW.s_star, ZW.s_ret, ZW.kRF_fr, ZW.kRF_bw, ZW.s_retF, ZW.s_retN, ZW.s_iff, ZW.s_app, ZW.s_setO, ZW.kRef_ref, ZW.s_setR, ZW.s_frz, ZW.s_brk, ZW.s_cont, ZW.s_pass, ZW.bt_nm, ZW.bt_tp, ZW.bt_lp, ZW.bts_nil, ZW.bts_cons, ZW.kSeq_tup, ZW.kSeq_lst, ZW.kSeq_scr, ZW.kSeq_str, ZW.it_seq, ZW.it_rng, ZW.it_rng2, ZW.kZip_lst, ZW.kZip_tup, ZW.it_zip, ZW.kLst_lst, ZW.it_enum, ZW.tw_post, ZW.tx_post, ZW.s_for, ZW.e_comp, ZW.kT_nx, ZW.kT_cont, ZW.kT_brk, ZW.kT_ret, Z.setAll, List.set_cons_zero, List.set_cons_succ, if_true, if_false, Bool.false_eq_true, Option.bind_some, Option.map_some, Z.wipe, ix_lst, at_0]
        refine ⟨by rw [List.length_map]; unfold szL; omega, ?_⟩
        have e8 : List.map D.str xs ++ [D.str w0] = (xs ++ [w0]).map D.str := by rw [List.map_append]; rfl
        rw [e8]
        exact q w0 _ _ hl0
theorem ne_nil {xs : List (List Nat)} : cmpD h .ne (.lst (xs.map .str)) (.lst []) = some (!xs.isEmpty) := by
  have e1 : plain 60 (.lst (xs.map D.str)) = true := p_strs xs
  have e2 : plain 60 (.lst []) = true := p_strs []
  rw [c_ne, e1, e2]
  cases xs with
  | nil => rfl
  | cons x r =>
    show (if true = true then some (!eqD (.lst (.str x :: r.map D.str)) (.lst [])) else none) = _
    rw [if_pos rfl]
    unfold eqD eqDs
    rfl
theorem names_ok {i tk : Nat} (en : fs[i]? = some (fNames tk)) (et : fs[tk]? = some fTake) {f r m : Nat} (hm : m ≤ 8) (hb : Box (f + 9 * m) r h)
    (q : ∀ (xs : List (List Nat)) h', xs.length = m → (∀ s ∈ xs, s.length ≤ 6) → Box f r h' → Q (.fr (xs.map .str)) h') : (run fs gl wf (n + 2) i [.ref r, .int m] h).post Q XF := by
  rw [w_run (fn := fNames tk) en rfl]
  rw [show startE (fNames tk) [.ref r, .int m] = [.val (.ref r), .val (.int m), .emp, .emp, .emp, .emp, .emp, .emp, .emp] from rfl]
  simp only [fNames]
  generalize et2 : namesTl = tl
  unfold namesTl at et2
  rw [et2]
  simp only [ZW.kO_some, ZW.kO_none, ZW.kO_map, ZW.kO_bind, ZW.kO_if, ZW.kS_nx, ZW.kS_ret, ZW.kS_brk, ZW.kS_cont, ZW.kB_bl, ZW.kI_int, ZW.kF_fr, ZW.kStr_str, ZW.kVar_val, ZW.kOwn_own, ZW.kRet_ret, ZW.kRet_nx, ZW.dg_v, ZW.dg_fr, ZW.wdg_v, ZW.wdg_fr, ZW.wdg_bw, ZW.get_0, ZW.get_s, ZW.e_var, ZW.e_own, ZW.e_int, ZW.e_bl, ZW.e_non, ZW.e_str, ZW.e_glo, ZW.e_tup, ZW.e_lst, ZW.e_bin, ZW.e_cmp, ZW.e_neg, ZW.e_not, ZW.e_and, ZW.e_or, ZW.e_ifE, ZW.e_idx, ZW.e_sl, ZW.e_call, ZW.e_bi, ZW.e_sset, ZW.e_isi, ZW.e_mth, ZW.op_no, ZW.op_yes, ZW.es_nil, ZW.es_cons, ZW.ws_nil, ZW.ws_cons, ZW.an_one, ZW.an_cons, ZW.or_one, ZW.or_cons, ZW.t_e, ZW.t_cmp', ZW.t_not', ZW.t_and', ZW.t_or', ZW.ts_nil, ZW.ts_cons, ZW.to_nil, ZW.to_cons, ZW.ss_nil, ZW.ss_cons, ZW.s_ex, ZW.s_asg, ZW.s_asgO, ZW.s_asgC, ZW.s_par, ZW.par_nil, ZW.par_t, ZW.par_f, ZW.kTup_tup, ZW.s_star, ZW.s_ret, ZW.kRF_fr, ZW.kRF_bw, ZW.s_retF, ZW.s_retN, ZW.s_iff, ZW.s_app, ZW.s_setO, ZW.kRef_ref, ZW.s_setR, ZW.s_frz, ZW.s_brk, ZW.s_cont, ZW.s_pass, ZW.bt_nm, ZW.bt_tp, ZW.bt_lp, ZW.bts_nil, ZW.bts_cons, ZW.kSeq_tup, ZW.kSeq_lst, ZW.kSeq_scr, ZW.kSeq_str, ZW.it_seq, ZW.it_rng, ZW.it_rng2, ZW.kZip_lst, ZW.kZip_tup, ZW.it_zip, ZW.kLst_lst, ZW.it_enum, ZW.tw_post, ZW.tx_post, ZW.s_for, ZW.e_comp, ZW.kT_nx, ZW.kT_cont, ZW.kT_brk, ZW.kT_ret, Z.setAll, List.set_cons_zero, List.set_cons_succ, if_true, if_false, Bool.false_eq_true, Option.bind_some, Option.map_some, Z.wipe, List.length_nil]
  refine ⟨by decide, by unfold small62; rw [decide_eq_true_eq]; omega, ?_⟩
  refine w_for _ (fun k ρ h => k ≤ m ∧ ∃ (xs : List (List Nat)) (s4 s5 s6 s7 s8 : Slot), xs.length = k ∧ (∀ s ∈ xs, s.length ≤ 6) ∧ ρ = [.val (.ref r), .val (.int m), .val (.str letters), .own (xs.map .str), s4, s5, s6, s7, s8] ∧ Box (f + 9 * (m - k)) r h) ?_ ?_ ?_
  · exact ⟨Nat.zero_le _, [], _, _, _, _, _, rfl, (fun _ z => nomatch z), rfl, by simpa using hb⟩
  · rintro k d ρ h ed ⟨hk, xs, s4, s5, s6, s7, s8, hx1, hx2, rfl, hb⟩
    obtain ⟨rfl, hkm⟩ := rng_at _ _ _ _ ed
    have hkm : k < m := by omega
    simp only [ZW.kO_some, ZW.kO_none, ZW.kO_map, ZW.kO_bind, ZW.kO_if, ZW.kS_nx, ZW.kS_ret, ZW.kS_brk, ZW.kS_cont, ZW.kB_bl, ZW.kI_int, ZW.kF_fr, ZW.kStr_str, ZW.kVar_val, ZW.kOwn_own, ZW.kRet_ret, ZW.kRet_nx, ZW.dg_v, ZW.dg_fr, ZW.wdg_v, ZW.wdg_fr, ZW.wdg_bw, ZW.get_0, ZW.get_s, ZW.e_var, ZW.e_own, ZW.e_int, ZW.e_bl, ZW.e_non, ZW.e_str, ZW.e_glo, ZW.e_tup, ZW.e_lst, ZW.e_bin, ZW.e_cmp, ZW.e_neg, ZW.e_not, ZW.e_and, ZW.e_or, ZW.e_ifE, ZW.e_idx, ZW.e_sl, ZW.e_call, ZW.e_bi, ZW.e_sset, ZW.e_isi, ZW.e_mth, ZW.op_no, ZW.op_yes, ZW.es_nil, ZW.es_cons, ZW.ws_nil, ZW.ws_cons, ZW.an_one, ZW.an_cons, ZW.or_one, ZW.or_cons, ZW.t_e, ZW.t_cmp', ZW.t_not', ZW.t_and', ZW.t_or', ZW.ts_nil, ZW.ts_cons, ZW.to_nil, ZW.to_cons, ZW.ss_nil, ZW.ss_cons, ZW.s_ex, ZW.s_asg, ZW.s_asgO, ZW.s_asgC, ZW.s_par, ZW.par_nil, ZW.par_t, ZW.par_f, ZW.kTup_tup, ZW.s_star, ZW.s_ret, ZW.kRF_fr, ZW.kRF_bw, ZW.s_retF, ZW.s_retN, ZW.s_iff, ZW.s_app, ZW.s_setO, ZW.kRef_ref, ZW.s_setR, ZW.s_frz, ZW.s_brk, ZW.s_cont, ZW.s_pass, ZW.bt_nm, ZW.bt_tp, ZW.bt_lp, ZW.bts_nil, ZW.bts_cons, ZW.kSeq_tup, ZW.kSeq_lst, ZW.kSeq_scr, ZW.kSeq_str, ZW.it_seq, ZW.it_rng, ZW.it_rng2, ZW.kZip_lst, ZW.kZip_tup, ZW.it_zip, ZW.kLst_lst, ZW.it_enum, ZW.tw_post, ZW.tx_post, ZW.s_for, ZW.e_comp, ZW.kT_nx, ZW.kT_cont, ZW.kT_brk, ZW.kT_ret, Z.setAll, List.set_cons_zero, List.set_cons_succ, if_true, if_false, Bool.false_eq_true, Option.bind_some, Option.map_some, Z.wipe, List.length_cons, List.length_nil]
    refine ⟨by decide, take_ok et (f := f + 9 * (m - k) - 1) (k := 3) (by omega) (by omega) (hb.less (by omega)) fun j h1 j0 j1 b1 => ?_⟩
    obtain ⟨x, e1, e2, _⟩ := atI_of (xs := [D.int 1, D.int 6, D.int 3]) j0 (by simpa using j1)
    obtain ⟨cnt, hc, rfl⟩ : ∃ cnt : Nat, cnt ≤ 6 ∧ x = .int cnt := by
      simp only [List.mem_cons, List.not_mem_nil, or_false] at e2
      rcases e2 with rfl | rfl | rfl
      · exact ⟨1, by omega, rfl⟩
      · exact ⟨6, by omega, rfl⟩
      · exact ⟨3, by omega, rfl⟩
    simp only [ZW.kO_some, ZW.kO_none, ZW.kO_map, ZW.kO_bind, ZW.kO_if, ZW.kS_nx, ZW.kS_ret, ZW.kS_brk, ZW.kS_cont, ZW.kB_bl, ZW.kI_int, ZW.kF_fr, ZW.kStr_str, ZW.kVar_val, ZW.kOwn_own, ZW.kRet_ret, ZW.kRet_nx, ZW.dg_v, ZW.dg_fr, ZW.wdg_v, ZW.wdg_fr, ZW.wdg_bw, ZW.get_0, ZW.get_s, ZW.e_var, ZW.e_own, ZW.e_int, ZW.e_bl, ZW.e_non, ZW.e_str, ZW.e_glo, ZW.e_tup, ZW.e_lst, ZW.e_bin, ZW.e_cmp, ZW.e_neg, ZW.e_not, ZW.e_and, ZW.e_or, ZW.e_ifE, ZW.e_idx, ZW.e_sl, ZW.e_call, ZW.e_bi, ZW.e_sset, ZW.e_isi, ZW.e_mth, ZW.op_no, ZW.op_yes, ZW.es_nil, ZW.es_cons, ZW.ws_nil, ZW.ws_cons, ZW.an_one, ZW.an_cons, ZW.or_one, ZW.or_cons, ZW.t_e, ZW.t_cmp', ZW.t_not', ZW.t_and', ZW.t_or', ZW.ts_nil, ZW.ts_cons, ZW.to_nil, ZW.to_cons, ZW.ss_nil, ZW.ss_cons, ZW.s_ex, ZW.s_asg, ZW.s_asgO, ZW.s_asgC, ZW.s_par, ZW.par_nil, ZW.par_t, ZW.par_f, ZW.kTup_tup, ZW.s_star, ZW.s_ret, ZW.kRF_fr, ZW.kRF_bw, ZW.s_retF, ZW.s_retN, ZW.s_iff, ZW.s_app, ZW.s_setO, ZW.kRef_ref, ZW.s_setR, ZW.s_frz, ZW.s_brk, ZW.s_cont, ZW.s_pass, ZW.bt_nm, ZW.bt_tp, ZW.bt_lp, ZW.bts_nil, ZW.bts_cons, ZW.kSeq_tup, ZW.kSeq_lst, ZW.kSeq_scr, ZW.kSeq_str, ZW.it_seq, ZW.it_rng, ZW.it_rng2, ZW.kZip_lst, ZW.kZip_tup, ZW.it_zip, ZW.kLst_lst, ZW.it_enum, ZW.tw_post, ZW.tx_post, ZW.s_for, ZW.e_comp, ZW.kT_nx, ZW.kT_cont, ZW.kT_brk, ZW.kT_ret, Z.setAll, List.set_cons_zero, List.set_cons_succ, if_true, if_false, Bool.false_eq_true, Option.bind_some, Option.map_some, Z.wipe, ix_lst, e1]
    refine ⟨by unfold small62; rw [decide_eq_true_eq]; omega, ?_⟩
    refine w_comp _ (fun i ys h => i ≤ cnt ∧ ∃ ss : List (List Nat), ys = ss.map .str ∧ ss.length = i ∧ (∀ s ∈ ss, s.length = 1) ∧ Box (f + 9 * (m - k) - 1 - i) r h) [] ?_ ?_ ?_
    · exact ⟨Nat.zero_le _, [], rfl, rfl, (fun _ z => nomatch z), b1⟩
    · rintro i d ys h ed ⟨hi, ss, rfl, hl, hs, b2⟩
      obtain ⟨rfl, hic⟩ := rng_at _ _ _ _ ed
      have hic : i < cnt := by omega
      simp only [ZW.kO_some, ZW.kO_none, ZW.kO_map, ZW.kO_bind, ZW.kO_if, ZW.kS_nx, ZW.kS_ret, ZW.kS_brk, ZW.kS_cont, ZW.kB_bl, ZW.kI_int, ZW.kF_fr, ZW.kStr_str, ZW.kVar_val, ZW.kOwn_own, ZW.kRet_ret, ZW.kRet_nx, ZW.dg_v, ZW.dg_fr, ZW.wdg_v, ZW.wdg_fr, ZW.wdg_bw, ZW.get_0, ZW.get_s, ZW.e_var, ZW.e_own, ZW.e_int, ZW.e_bl, ZW.e_non, ZW.e_str, ZW.e_glo, ZW.e_tup, ZW.e_lst, ZW.e_bin, ZW.e_cmp, ZW.e_neg, ZW.e_not, ZW.e_and, ZW.e_or, ZW.e_ifE, ZW.e_idx, ZW.e_sl, ZW.e_call, ZW.e_bi, ZW.e_sset, ZW.e_isi, ZW.e_mth, ZW.op_no, ZW.op_yes, ZW.es_nil, ZW.es_cons, ZW.ws_nil, ZW.ws_cons, ZW.an_one, ZW.an_cons, ZW.or_one, ZW.or_cons, ZW.t_e, ZW.t_cmp', ZW.t_not', ZW.t_and', ZW.t_or', ZW.ts_nil, ZW.ts_cons, ZW.to_nil, ZW.to_cons, ZW.ss_nil, ZW.ss_cons, ZW.s_ex, ZW.s_asg, ZW.s_asgO, ZW.s_asgC, ZW.s_par, ZW.par_nil, ZW.par_t, ZW.par_f, ZW.kTup_tup, ZW.s_star, ZW.s_ret, ZW.kRF_fr, ZW.kRF_bw, ZW.s_retF, ZW.s_retN, ZW.s_iff, ZW.s_app, ZW.s_setO, ZW.kRef_ref, ZW.s_setR, ZW.s_frz, ZW.s_brk, ZW.s_cont, ZW.s_pass, ZW.bt_nm, ZW.bt_tp, ZW.bt_lp, ZW.bts_nil, ZW.bts_cons, ZW.kSeq_tup, ZW.kSeq_lst, ZW.kSeq_scr, ZW.kSeq_str, ZW.it_seq, ZW.it_rng, ZW.it_rng2, ZW.kZip_lst, ZW.kZip_tup, ZW.it_zip, ZW.kLst_lst, ZW.it_enum, ZW.tw_post, ZW.tx_post, ZW.s_for, ZW.e_comp, ZW.kT_nx, ZW.kT_cont, ZW.kT_brk, ZW.kT_ret, Z.setAll, List.set_cons_zero, List.set_cons_succ, if_true, if_false, Bool.false_eq_true, Option.bind_some, Option.map_some, Z.wipe]
      refine take_ok et (f := f + 9 * (m - k) - 1 - i - 1) (k := 26) (by omega) (by omega) (b2.less (by omega)) fun j h2 j0 j1 b3 => ?_
      obtain ⟨c, e1, e2, _⟩ := atI_of (xs := letters) j0 j1
      simp only [ZW.kO_some, ZW.kO_none, ZW.kO_map, ZW.kO_bind, ZW.kO_if, ZW.kS_nx, ZW.kS_ret, ZW.kS_brk, ZW.kS_cont, ZW.kB_bl, ZW.kI_int, ZW.kF_fr, ZW.kStr_str, ZW.kVar_val, ZW.kOwn_own, ZW.kRet_ret, ZW.kRet_nx, ZW.dg_v, ZW.dg_fr, ZW.wdg_v, ZW.wdg_fr, ZW.wdg_bw, ZW.get_0, ZW.get_s, ZW.e_var, ZW.e_own, ZW.e_int, ZW.e_bl, ZW.e_non, ZW.e_str, ZW.e_glo, ZW.e_tup, ZW.e_lst, ZW.e_bin, ZW.e_cmp, ZW.e_neg, ZW.e_not, ZW.e_and, ZW.e_or, ZW.e_ifE, ZW.e_idx, ZW.e_sl, ZW.e_call, ZW.e_bi, ZW.e_sset, ZW.e_isi, ZW.e_mth, ZW.op_no, ZW.op_yes, ZW.es_nil, ZW.es_cons, ZW.ws_nil, ZW.ws_cons, ZW.an_one, ZW.an_cons, ZW.or_one, ZW.or_cons, ZW.t_e, ZW.t_cmp', ZW.t_not', ZW.t_and', ZW.t_or', ZW.ts_nil, ZW.ts_cons, ZW.to_nil, ZW.to_cons, ZW.ss_nil, ZW.ss_cons, ZW.s_ex, ZW.s_asg, ZW.s_asgO, ZW.s_asgC, ZW.s_par, ZW.par_nil, ZW.par_t, ZW.par_f, ZW.kTup_tup, ZW.s_star, ZW.s_ret, ZW.kRF_fr, ZW.kRF_bw, ZW.s_retF, ZW.s_retN, ZW.s_iff, ZW.s_app, ZW.s_setO, ZW.kRef_ref, ZW.s_setR, ZW.s_frz, ZW.s_brk, ZW.s_cont, ZW.s_pass, ZW.bt_nm, ZW.bt_tp, ZW.bt_lp, ZW.bts_nil, ZW.bts_cons, ZW.kSeq_tup, ZW.kSeq_lst, ZW.kSeq_scr, ZW.kSeq_str, ZW.it_seq, ZW.it_rng, ZW.it_rng2, ZW.kZip_lst, ZW.kZip_tup, ZW.it_zip, ZW.kLst_lst, ZW.it_enum, ZW.tw_post, ZW.tx_post, ZW.s_for, ZW.e_comp, ZW.kT_nx, ZW.kT_cont, ZW.kT_brk, ZW.kT_ret, Z.setAll, List.set_cons_zero, List.set_cons_succ, if_true, if_false, Bool.false_eq_true, Option.bind_some, Option.map_some, Z.wipe, ix_str, e1]
      refine ⟨by decide, hic, ss ++ [[c]], by rw [List.map_append]; rfl, by rw [List.length_append, hl]; rfl, fun s hs' => ?_, b3.less (by omega)⟩
      rcases List.mem_append.mp hs' with z | z
      · exact hs s z
      · rw [List.mem_singleton.mp z]; rfl
    · rintro ys h2 ⟨_, ss, e3, hl, hs, b2⟩
      rw [List.nil_append] at e3
      subst e3
      rw [rng_len] at hl b2
      have hcl : ss.length ≤ 6 := by omega
      refine ⟨by rw [List.length_map]; unfold szL; omega, ?_⟩
      have sl := sum_ones ss hs
      simp only [ZW.kO_some, ZW.kO_none, ZW.kO_map, ZW.kO_bind, ZW.kO_if, ZW.kS_nx, ZW.kS_ret, ZW.kS_brk, ZW.kS_cont, ZW.kB_bl, ZW.kI_int, ZW.kF_fr, ZW.kStr_str, ZW.kVar_val, ZW.kOwn_own, ZW.kRet_ret, ZW.kRet_nx, ZW.dg_v, ZW.dg_fr, ZW.wdg_v, ZW.wdg_fr, ZW.wdg_bw, ZW.get_0, ZW.get_s, ZW.e_var, ZW.e_own, ZW.e_int, ZW.e_bl, ZW.e_non, ZW.e_str, ZW.e_glo, ZW.e_tup, ZW.e_lst, ZW.e_bin, ZW.e_cmp, ZW.e_neg, ZW.e_not, ZW.e_and, ZW.e_or, ZW.e_ifE, ZW.e_idx, ZW.e_sl, ZW.e_call, ZW.e_bi, ZW.e_sset, ZW.e_isi, ZW.e_mth, ZW.op_no, ZW.op_yes, ZW.es_nil, ZW.es_cons, ZW.ws_nil, ZW.ws_cons, ZW.an_one, ZW.an_cons, ZW.or_one, ZW.or_cons, ZW.t_e, ZW.t_cmp', ZW.t_not', ZW.t_and', ZW.t_or', ZW.ts_nil, ZW.ts_cons, ZW.to_nil, ZW.to_cons, ZW.ss_nil, ZW.ss_cons, ZW.s_ex, ZW.s_asg, ZW.s_asgO, ZW.s_asgC, ZW.s_par, ZW.par_nil, ZW.par_t, ZW.par_f, ZW.kTup_tup, ZW.s_star, ZW.s_ret, ZW.kRF_fr, ZW.kRF_bw, ZW.s_retF, ZW.s_retN, ZW.s_iff, ZW.s_app, ZW.s_setO, ZW.kRef_ref, ZW.s_setR, ZW.s_frz, ZW.s_brk, ZW.s_cont, ZW.s_pass, ZW.bt_nm, ZW.bt_tp, ZW.bt_lp, ZW.bts_nil, ZW.bts_cons, ZW.kSeq_tup, ZW.kSeq_lst, ZW.kSeq_scr, ZW.kSeq_str, ZW.it_seq, ZW.it_rng, ZW.it_rng2, ZW.kZip_lst, ZW.kZip_tup, ZW.it_zip, ZW.kLst_lst, ZW.it_enum, ZW.tw_post, ZW.tx_post, ZW.s_for, ZW.e_comp, ZW.kT_nx, ZW.kT_cont, ZW.kT_brk, ZW.kT_ret, Z.setAll, List.set_cons_zero, List.set_cons_succ, if_true, if_false, Bool.false_eq_true, Option.bind_some, Option.map_some, Z.wipe, m_join]
      refine ⟨by rw [sl]; unfold szL; simp; omega, ?_⟩
      obtain ⟨z, ez, hz⟩ : ∃ z : List Nat, joinS [] ss = z ∧ z.length ≤ 6 := ⟨_, rfl, by rw [join_len, sl]; exact hcl⟩
      rw [ez]
      have rest : ∀ (z : List Nat) (h : LH), z.length ≤ 6 → Box (f + 9 * (m - (k + 1))) r h → ((denSs ⟨run fs gl wf (n + 1), gl, wf⟩ tl [.val (.ref r), .val (.int m), .val (.str letters), .own (xs.map .str), .val (.int (0 + k)), .val (.str z), s6, s7, s8] h).post
          (kT (fun ρ h => k + 1 ≤ m ∧ ∃ (xs : List (List Nat)) (s4 s5 s6 s7 s8 : Slot), xs.length = k + 1 ∧ (∀ s ∈ xs, s.length ≤ 6) ∧ ρ = [.val (.ref r), .val (.int m), .val (.str letters), .own (xs.map .str), s4, s5, s6, s7, s8] ∧ Box (f + 9 * (m - (k + 1))) r h)
            (kS ⟨run fs gl wf (n + 1), gl, wf⟩ (.cons (.retF (.own 3)) .nil) (kRet Q))) XF) := by
        intro z h hz hb
        rw [← et2]
        refine namesTl_ok (by omega) hz fun w s7' s8' hw => ?_
        refine ⟨by omega, xs ++ [w], _, _, _, _, _, by rw [List.length_append, hx1]; rfl, fun s hs => ?_, rfl, hb⟩
        rcases List.mem_append.mp hs with z | z
        · exact hx2 s z
        · rw [List.mem_singleton.mp z]; exact hw
      have b3 : Box (f + 9 * (m - (k + 1)) + 2) r h2 := b2.less (by omega)
      have ex : ∃ ys, ys = xs := ⟨_, rfl⟩
      rw [ne_nil]
      simp only [ZW.kO_some, ZW.kO_none, ZW.kO_map, ZW.kO_bind, ZW.kO_if, ZW.kS_nx, ZW.kS_ret, ZW.kS_brk, ZW.kS_cont, ZW.kB_bl, ZW.kI_int, ZW.kF_fr, ZW.kStr_str, ZW.kVar_val, ZW.kOwn_own, ZW.kRet_ret, ZW.kRet_nx, ZW.dg_v, ZW.dg_fr, ZW.wdg_v, ZW.wdg_fr, ZW.wdg_bw, ZW.get_0, ZW.get_s, ZW.e_var, ZW.e_own, ZW.e_int, ZW.e_bl, ZW.e_non, ZW.e_str, ZW.e_glo, ZW.e_tup, ZW.e_lst, ZW.e_bin, ZW.e_cmp, ZW.e_neg, ZW.e_not, ZW.e_and, ZW.e_or, ZW.e_ifE, ZW.e_idx, ZW.e_sl, ZW.e_call, ZW.e_bi, ZW.e_sset, ZW.e_isi, ZW.e_mth, ZW.op_no, ZW.op_yes, ZW.es_nil, ZW.es_cons, ZW.ws_nil, ZW.ws_cons, ZW.an_one, ZW.an_cons, ZW.or_one, ZW.or_cons, ZW.t_e, ZW.t_cmp', ZW.t_not', ZW.t_and', ZW.t_or', ZW.ts_nil, ZW.ts_cons, ZW.to_nil, ZW.to_cons, ZW.ss_nil, ZW.ss_cons, ZW.s_ex, ZW.s_asg, ZW.s_asgO, ZW.s_asgC, ZW.s_par, ZW.par_nil, ZW.par_t, ZW.par_f, ZW.kTup_tup, ZW.s_star, ZW.s_ret, ZW.kRF_fr, ZW.kRF_bw, ZW.s_retF, ZW.s_retN, ZW.s_iff, ZW.s_app, ZW.s_setO, ZW.kRef_ref, ZW.s_setR, ZW.s_frz, ZW.s_brk, ZW.s_cont, ZW.s_pass, ZW.bt_nm, ZW.bt_tp, ZW.bt_lp, ZW.bts_nil, ZW.bts_cons, ZW.kSeq_tup, ZW.kSeq_lst, ZW.kSeq_scr, ZW.kSeq_str, ZW.it_seq, ZW.it_rng, ZW.it_rng2, ZW.kZip_lst, ZW.kZip_tup, ZW.it_zip, ZW.kLst_lst, ZW.it_enum, ZW.tw_post, ZW.tx_post, ZW.s_for, ZW.e_comp, ZW.kT_nx, ZW.kT_cont, ZW.kT_brk, ZW.kT_ret, Z.setAll, List.set_cons_zero, List.set_cons_succ, if_true, if_false, Bool.false_eq_true, Option.bind_some, Option.map_some, Z.wipe]
      refine ⟨by decide, ?_⟩
      cases hxe : xs with
      | nil =>
        simp only [List.isEmpty_nil, Bool.not_true, ZW.kO_some, ZW.kO_none, ZW.kO_map, ZW.kO_bind, ZW.kO_if, ZW.kS_nx, ZW.kS_ret, ZW.kS_brk, ZW.kS_cont, ZW.kB_bl, ZW.kI_int, ZW.kF_fr, ZW.kStr_str, ZW.kVar_val, ZW.kOwn_own, ZW.kRet_ret, ZW.kRet_nx, ZW.dg_v, ZW.dg_fr, ZW.wdg_v, ZW.wdg_fr, ZW.wdg_bw, ZW.get_0, ZW.get_s, ZW.e_var, ZW.e_own, ZW.e_int, ZW.e_bl, ZW.e_non, ZW.e_str, ZW.e_glo, ZW.e_tup, ZW.e_lst, ZW.e_bin, ZW.e_cmp, ZW.e_neg, ZW.e_not, ZW.e_and, ZW.e_or, ZW.e_ifE, ZW.e_idx, ZW.e_sl, ZW.e_call, ZW.e_bi, ZW.e_sset, ZW.e_isi, ZW.e_mth, ZW.op_no, ZW.op_yes, ZW.es_nil, ZW.es_cons, ZW.ws_nil, ZW.ws_cons, ZW.an_one, ZW.an_cons, ZW.or_one, ZW.or_cons, ZW.t_e, ZW.t_cmp', ZW.t_not', ZW.t_and', ZW.t_or', ZW.ts_nil, ZW.ts_cons, ZW.to_nil, ZW.to_cons, ZW.ss_nil, ZW.ss_cons, ZW.s_ex, ZW.s_asg, ZW.s_asgO, ZW.s_asgC, ZW.s_par, ZW.par_nil, ZW.par_t, ZW.par_f, ZW.kTup_tup, ZW.s_star, ZW.s_ret, ZW.kRF_fr, ZW.kRF_bw, ZW.s_retF, ZW.s_retN, ZW.s_iff, ZW.s_app, ZW.s_setO, ZW.kRef_ref, ZW.s_setR, ZW.s_frz, ZW.s_brk, ZW.s_cont, ZW.s_pass, ZW.bt_nm, ZW.bt_tp, ZW.bt_lp, ZW.bts_nil, ZW.bts_cons, ZW.kSeq_tup, ZW.kSeq_lst, ZW.kSeq_scr, ZW.kSeq_str, ZW.it_seq, ZW.it_rng, ZW.it_rng2, ZW.kZip_lst, ZW.kZip_tup, ZW.it_zip, ZW.kLst_lst, ZW.it_enum, ZW.tw_post, ZW.tx_post, ZW.s_for, ZW.e_comp, ZW.kT_nx, ZW.kT_cont, ZW.kT_brk, ZW.kT_ret, Z.setAll, List.set_cons_zero, List.set_cons_succ, if_true, if_false, Bool.false_eq_true, Option.bind_some, Option.map_some, Z.wipe]
        have := rest z h2 hz (b3.less (by omega))
        rw [hxe] at this
        exact this
      | cons x0 xr =>
        simp only [List.isEmpty_cons, Bool.not_false, ZW.kO_some, ZW.kO_none, ZW.kO_map, ZW.kO_bind, ZW.kO_if, ZW.kS_nx, ZW.kS_ret, ZW.kS_brk, ZW.kS_cont, ZW.kB_bl, ZW.kI_int, ZW.kF_fr, ZW.kStr_str, ZW.kVar_val, ZW.kOwn_own, ZW.kRet_ret, ZW.kRet_nx, ZW.dg_v, ZW.dg_fr, ZW.wdg_v, ZW.wdg_fr, ZW.wdg_bw, ZW.get_0, ZW.get_s, ZW.e_var, ZW.e_own, ZW.e_int, ZW.e_bl, ZW.e_non, ZW.e_str, ZW.e_glo, ZW.e_tup, ZW.e_lst, ZW.e_bin, ZW.e_cmp, ZW.e_neg, ZW.e_not, ZW.e_and, ZW.e_or, ZW.e_ifE, ZW.e_idx, ZW.e_sl, ZW.e_call, ZW.e_bi, ZW.e_sset, ZW.e_isi, ZW.e_mth, ZW.op_no, ZW.op_yes, ZW.es_nil, ZW.es_cons, ZW.ws_nil, ZW.ws_cons, ZW.an_one, ZW.an_cons, ZW.or_one, ZW.or_cons, ZW.t_e, ZW.t_cmp', ZW.t_not', ZW.t_and', ZW.t_or', ZW.ts_nil, ZW.ts_cons, ZW.to_nil, ZW.to_cons, ZW.ss_nil, ZW.ss_cons, ZW.s_ex, ZW.s_asg, ZW.s_asgO, ZW.s_asgC, ZW.s_par, ZW.par_nil, ZW.par_t, ZW.par_f, ZW.kTup_tup, ZW.s_star, ZW.s_ret, ZW.kRF_fr, ZW.kRF_bw, ZW.s_retF, ZW.s_retN, ZW.s_iff, ZW.s_app, ZW.s_setO, ZW.kRef_ref, ZW.s_setR, ZW.s_frz, ZW.s_brk, ZW.s_cont, ZW.s_pass, ZW.bt_nm, ZW.bt_tp, ZW.bt_lp, ZW.bts_nil, ZW.bts_cons, ZW.kSeq_tup, ZW.kSeq_lst, ZW.kSeq_scr, ZW.kSeq_str, ZW.it_seq, ZW.it_rng, ZW.it_rng2, ZW.kZip_lst, ZW.kZip_tup, ZW.it_zip, ZW.kLst_lst, ZW.it_enum, ZW.tw_post, ZW.tx_post, ZW.s_for, ZW.e_comp, ZW.kT_nx, ZW.kT_cont, ZW.kT_brk, ZW.kT_ret, Z.setAll, List.set_cons_zero, List.set_cons_succ, if_true, if_false, Bool.false_eq_true, Option.bind_some, Option.map_some, Z.wipe]
        refine take_ok et (f := f + 9 * (m - (k + 1)) + 1) (k := 4) (by omega) (by omega) b3 fun j h3 j0 j1 b4 => ?_
        simp only [ZW.kO_some, ZW.kO_none, ZW.kO_map, ZW.kO_bind, ZW.kO_if, ZW.kS_nx, ZW.kS_ret, ZW.kS_brk, ZW.kS_cont, ZW.kB_bl, ZW.kI_int, ZW.kF_fr, ZW.kStr_str, ZW.kVar_val, ZW.kOwn_own, ZW.kRet_ret, ZW.kRet_nx, ZW.dg_v, ZW.dg_fr, ZW.wdg_v, ZW.wdg_fr, ZW.wdg_bw, ZW.get_0, ZW.get_s, ZW.e_var, ZW.e_own, ZW.e_int, ZW.e_bl, ZW.e_non, ZW.e_str, ZW.e_glo, ZW.e_tup, ZW.e_lst, ZW.e_bin, ZW.e_cmp, ZW.e_neg, ZW.e_not, ZW.e_and, ZW.e_or, ZW.e_ifE, ZW.e_idx, ZW.e_sl, ZW.e_call, ZW.e_bi, ZW.e_sset, ZW.e_isi, ZW.e_mth, ZW.op_no, ZW.op_yes, ZW.es_nil, ZW.es_cons, ZW.ws_nil, ZW.ws_cons, ZW.an_one, ZW.an_cons, ZW.or_one, ZW.or_cons, ZW.t_e, ZW.t_cmp', ZW.t_not', ZW.t_and', ZW.t_or', ZW.ts_nil, ZW.ts_cons, ZW.to_nil, ZW.to_cons, ZW.ss_nil, ZW.ss_cons, ZW.s_ex, ZW.s_asg, ZW.s_asgO, ZW.s_asgC, ZW.s_par, ZW.par_nil, ZW.par_t, ZW.par_f, ZW.kTup_tup, ZW.s_star, ZW.s_ret, ZW.kRF_fr, ZW.kRF_bw, ZW.s_retF, ZW.s_retN, ZW.s_iff, ZW.s_app, ZW.s_setO, ZW.kRef_ref, ZW.s_setR, ZW.s_frz, ZW.s_brk, ZW.s_cont, ZW.s_pass, ZW.bt_nm, ZW.bt_tp, ZW.bt_lp, ZW.bts_nil, ZW.bts_cons, ZW.kSeq_tup, ZW.kSeq_lst, ZW.kSeq_scr, ZW.kSeq_str, ZW.it_seq, ZW.it_rng, ZW.it_rng2, ZW.kZip_lst, ZW.kZip_tup, ZW.it_zip, ZW.kLst_lst, ZW.it_enum, ZW.tw_post, ZW.tx_post, ZW.s_for, ZW.e_comp, ZW.kT_nx, ZW.kT_cont, ZW.kT_brk, ZW.kT_ret, Z.setAll, List.set_cons_zero, List.set_cons_succ, if_true, if_false, Bool.false_eq_true, Option.bind_some, Option.map_some, Z.wipe, c_eq, p_int, q_int, Bool.and_self, List.map_cons, at_0]
        have hx0 : x0.length ≤ 6 := hx2 x0 (by rw [hxe]; exact List.mem_cons_self)
        split
        · rw [sl5 (h := h3) (s := x0) (by omega)]
          simp only [ZW.kO_some, ZW.kO_none, ZW.kO_map, ZW.kO_bind, ZW.kO_if, ZW.kS_nx, ZW.kS_ret, ZW.kS_brk, ZW.kS_cont, ZW.kB_bl, ZW.kI_int, ZW.kF_fr, ZW.kStr_str, ZW.kVar_val, ZW.kOwn_own, ZW.kRet_ret, ZW.kRet_nx, ZW.dg_v, ZW.dg_fr, ZW.wdg_v, ZW.wdg_fr, ZW.wdg_bw, ZW.get_0, ZW.get_s, ZW.e_var, ZW.e_own, ZW.e_int, ZW.e_bl, ZW.e_non, ZW.e_str, ZW.e_glo, ZW.e_tup, ZW.e_lst, ZW.e_bin, ZW.e_cmp, ZW.e_neg, ZW.e_not, ZW.e_and, ZW.e_or, ZW.e_ifE, ZW.e_idx, ZW.e_sl, ZW.e_call, ZW.e_bi, ZW.e_sset, ZW.e_isi, ZW.e_mth, ZW.op_no, ZW.op_yes, ZW.es_nil, ZW.es_cons, ZW.ws_nil, ZW.ws_cons, ZW.an_one, ZW.an_cons, ZW.or_one, ZW.or_cons, ZW.t_e, ZW.t_cmp', ZW.t_not', ZW.t_and', ZW.t_or', ZW.ts_nil, ZW.ts_cons, ZW.to_nil, ZW.to_cons, ZW.ss_nil, ZW.ss_cons, ZW.s_ex, ZW.s_asg, ZW.s_asgO, ZW.s_asgC, ZW.s_par, ZW.par_nil, ZW.par_t, ZW.par_f, ZW.kTup_tup, ZW.s_star, ZW.s_ret, ZW.kRF_fr, ZW.kRF_bw, ZW.s_retF, ZW.s_retN, ZW.s_iff, ZW.s_app, ZW.s_setO, ZW.kRef_ref, ZW.s_setR, ZW.s_frz, ZW.s_brk, ZW.s_cont, ZW.s_pass, ZW.bt_nm, ZW.bt_tp, ZW.bt_lp, ZW.bts_nil, ZW.bts_cons, ZW.kSeq_tup, ZW.kSeq_lst, ZW.kSeq_scr, ZW.kSeq_str, ZW.it_seq, ZW.it_rng, ZW.it_rng2, ZW.kZip_lst, ZW.kZip_tup, ZW.it_zip, ZW.kLst_lst, ZW.it_enum, ZW.tw_post, ZW.tx_post, ZW.s_for, ZW.e_comp, ZW.kT_nx, ZW.kT_cont, ZW.kT_brk, ZW.kT_ret, Z.setAll, List.set_cons_zero, List.set_cons_succ, if_true, if_false, Bool.false_eq_true, Option.bind_some, Option.map_some, Z.wipe]
          refine take_ok et (f := f + 9 * (m - (k + 1))) (k := 26) (by omega) (by omega) b4 fun j h4 j0 j1 b5 => ?_
          obtain ⟨c, e1, e2, _⟩ := atI_of (xs := letters) j0 j1
          have c5 := cut5 (s := x0)
          simp only [ZW.kO_some, ZW.kO_none, ZW.kO_map, ZW.kO_bind, ZW.kO_if, ZW.kS_nx, ZW.kS_ret, ZW.kS_brk, ZW.kS_cont, ZW.kB_bl, ZW.kI_int, ZW.kF_fr, ZW.kStr_str, ZW.kVar_val, ZW.kOwn_own, ZW.kRet_ret, ZW.kRet_nx, ZW.dg_v, ZW.dg_fr, ZW.wdg_v, ZW.wdg_fr, ZW.wdg_bw, ZW.get_0, ZW.get_s, ZW.e_var, ZW.e_own, ZW.e_int, ZW.e_bl, ZW.e_non, ZW.e_str, ZW.e_glo, ZW.e_tup, ZW.e_lst, ZW.e_bin, ZW.e_cmp, ZW.e_neg, ZW.e_not, ZW.e_and, ZW.e_or, ZW.e_ifE, ZW.e_idx, ZW.e_sl, ZW.e_call, ZW.e_bi, ZW.e_sset, ZW.e_isi, ZW.e_mth, ZW.op_no, ZW.op_yes, ZW.es_nil, ZW.es_cons, ZW.ws_nil, ZW.ws_cons, ZW.an_one, ZW.an_cons, ZW.or_one, ZW.or_cons, ZW.t_e, ZW.t_cmp', ZW.t_not', ZW.t_and', ZW.t_or', ZW.ts_nil, ZW.ts_cons, ZW.to_nil, ZW.to_cons, ZW.ss_nil, ZW.ss_cons, ZW.s_ex, ZW.s_asg, ZW.s_asgO, ZW.s_asgC, ZW.s_par, ZW.par_nil, ZW.par_t, ZW.par_f, ZW.kTup_tup, ZW.s_star, ZW.s_ret, ZW.kRF_fr, ZW.kRF_bw, ZW.s_retF, ZW.s_retN, ZW.s_iff, ZW.s_app, ZW.s_setO, ZW.kRef_ref, ZW.s_setR, ZW.s_frz, ZW.s_brk, ZW.s_cont, ZW.s_pass, ZW.bt_nm, ZW.bt_tp, ZW.bt_lp, ZW.bts_nil, ZW.bts_cons, ZW.kSeq_tup, ZW.kSeq_lst, ZW.kSeq_scr, ZW.kSeq_str, ZW.it_seq, ZW.it_rng, ZW.it_rng2, ZW.kZip_lst, ZW.kZip_tup, ZW.it_zip, ZW.kLst_lst, ZW.it_enum, ZW.tw_post, ZW.tx_post, ZW.s_for, ZW.e_comp, ZW.kT_nx, ZW.kT_cont, ZW.kT_brk, ZW.kT_ret, Z.setAll, List.set_cons_zero, List.set_cons_succ, if_true, if_false, Bool.false_eq_true, Option.bind_some, Option.map_some, Z.wipe, ix_str, e1, b_addS]
          refine ⟨by decide, by rw [List.length_singleton]; unfold szL; omega, ?_⟩
          have := rest (cut x0 none (some 5) ++ [c]) h4 (by rw [List.length_append, List.length_singleton]; omega) b5
          rw [hxe] at this
          exact this
        · have := rest z h3 hz (b4.less (by omega))
          rw [hxe] at this
          exact this
  · rintro ρ h ⟨_, xs, s4, s5, s6, s7, s8, hx1, hx2, rfl, hb⟩
    simp only [ZW.kO_some, ZW.kO_none, ZW.kO_map, ZW.kO_bind, ZW.kO_if, ZW.kS_nx, ZW.kS_ret, ZW.kS_brk, ZW.kS_cont, ZW.kB_bl, ZW.kI_int, ZW.kF_fr, ZW.kStr_str, ZW.kVar_val, ZW.kOwn_own, ZW.kRet_ret, ZW.kRet_nx, ZW.dg_v, ZW.dg_fr, ZW.wdg_v, ZW.wdg_fr, ZW.wdg_bw, ZW.get_0, ZW.get_s, ZW.e_var, ZW.e_own, ZW.e_int, ZW.e_bl, ZW.e_non, ZW.e_str, ZW.e_glo, ZW.e_tup, ZW.e_lst, ZW.e_bin, ZW.e_cmp, ZW.e_neg, ZW.e_not, ZW.e_and, ZW.e_or, ZW.e_ifE, ZW.e_idx, ZW.e_sl, ZW.e_call, ZW.e_bi, ZW.e_sset, ZW.e_isi, ZW.e_mth, ZW.op_no, ZW.op_yes, ZW.es_nil, ZW.es_cons, ZW.ws_nil, ZW.ws_cons, ZW.an_one, ZW.an_cons, ZW.or_one, ZW.or_cons, ZW.t_e, ZW.t_cmp', ZW.t_not', ZW.t_and', ZW.t_or', ZW.ts_nil, ZW.ts_cons, ZW.to_nil, ZW.to_cons, ZW.ss_nil, ZW.ss_cons, ZW.s_ex, ZW.s_asg, ZW.s_asgO, ZW.s_asgC, ZW.s_par, ZW.par_nil, ZW.par_t, ZW.par_f, ZW.kTup_tup, ZW.s_star, ZW.s_ret, ZW.kRF_fr, ZW.kRF_bw, ZW.s_retF, ZW.s_retN, ZW.s_iff, ZW.s_app, ZW.s_setO, ZW.kRef_ref, ZW.s_setR, ZW.s_frz, ZW.s_brk, ZW.s_cont, ZW.s_pass, ZW.bt_nm, ZW.bt_tp, ZW.bt_lp, ZW.bts_nil, ZW.bts_cons, ZW.kSeq_tup, ZW.kSeq_lst, ZW.kSeq_scr, ZW.kSeq_str, ZW.it_seq, ZW.it_rng, ZW.it_rng2, ZW.kZip_lst, ZW.kZip_tup, ZW.it_zip, ZW.kLst_lst, ZW.it_enum, ZW.tw_post, ZW.tx_post, ZW.s_for, ZW.e_comp, ZW.kT_nx, ZW.kT_cont, ZW.kT_brk, ZW.kT_ret, Z.setAll, List.set_cons_zero, List.set_cons_succ, if_true, if_false, Bool.false_eq_true, Option.bind_some, Option.map_some, Z.wipe]
    rw [rng_len] at hx1 hb
    exact q xs h (by omega) hx2 (hb.less (by omega))
end
end ZW
end

section
namespace K03
open PySem PySem.Spec PyProof.Rows L2 Z
def top (i : Nat) : Stmt := PySem.Challenge.pw_soonrooms_k03_true_at_beats.main.body.getD i (.Pass ⟨0, 0, 0, 0⟩)
def f0 : Fn := { name := "true_at", ns := ["cond", "now", "before", "word", "parts", "part"], np := 3, body := (.cons (.star (.cons (.nm 3) (.cons (.nm 4) .nil)) (.var 0)) (.cons (.iff (.cmp .in_ (.var 3) (.glo "PLAIN")) (.cons (.ret (.cmp .eq (.var 3) (.str [121, 101, 115]))) .nil) .nil) (.cons (.iff (.cmp .in_ (.var 3) (.glo "ASKS")) (.cons (.ret (.cmp .in_ (.idx (.var 4) (.int 0)) (.ifE (.cmp .eq (.var 3) (.str [111, 110])) (.var 1) (.var 2)))) .nil) .nil) (.cons (.iff (.cmp .eq (.var 3) (.str [110, 111, 116])) (.cons (.ret (.not (.call 0 (.cons (.idx (.var 4) (.int 0)) (.cons (.var 1) (.cons (.var 2) .nil)))))) .nil) .nil) (.cons (.iff (.cmp .eq (.var 3) (.str [97, 110, 100])) (.cons (.ret (.bi .all (.cons (.comp (.seq (.var 4)) (.nm 5) .nil (.call 0 (.cons (.var 5) (.cons (.var 1) (.cons (.var 2) .nil)))) [5]) .nil))) .nil) .nil) (.cons (.ret (.bi .any (.cons (.comp (.seq (.var 4)) (.nm 5) .nil (.call 0 (.cons (.var 5) (.cons (.var 1) (.cons (.var 2) .nil)))) [5]) .nil))) .nil)))))), dfl := [.tup []] }
def f1 : Fn := { name := "_law_box", ns := ["_law_script", "_law_k", "_law_cell"], np := 2, body := (.cons (.asg (.nm 2) (.int 0)) (.cons (.iff (.cmp .lt (.var 1) (.bi .len (.cons (.var 0) .nil))) (.cons (.asg (.nm 2) (.idx (.var 0) (.var 1))) .nil) .nil) (.cons (.retF (.lst (.cons (.bin .mul (.bi .abs (.cons (.var 2) .nil)) (.bi .int (.cons (.cmp .ge (.bi .abs (.cons (.var 2) .nil)) (.bin .pow (.int 10) (.int 18))) .nil))) (.cons (.bin .add (.bin .add (.bin .mod (.var 2) (.int 2147483629)) (.bin .mul (.int 7919) (.var 1))) (.int 11)) (.cons (.int 0) .nil))))) .nil))), dfl := [] }
def f2 : Fn := { name := "_law_take", ns := ["_law_box_here", "_law_many", "_law_found", "_law_once"], np := 2, body := (.cons (.iff (.cmp .gt (.idx (.var 0) (.int 0)) (.int 0)) (.cons (.asg (.nm 2) (.bin .mod (.idx (.var 0) (.int 0)) (.var 1))) (.cons (.setR (.var 0) (.int 0) (.bin .fdiv (.idx (.var 0) (.int 0)) (.var 1))) (.cons (.ret (.var 2)) .nil))) .nil) (.cons (.setR (.var 0) (.int 2) (.bin .add (.idx (.var 0) (.int 2)) (.int 1))) (.cons (.asg (.nm 3) (.bin .mod (.bin .pow (.bin .add (.idx (.var 0) (.int 1)) (.bin .mul (.int 39373) (.idx (.var 0) (.int 2)))) (.int 5)) (.int 2147483647))) (.cons (.ret (.bin .mod (.bin .fdiv (.bin .mod (.bin .add (.bin .mul (.var 3) (.bin .add (.bin .mod (.var 3) (.int 40009)) (.int 7))) (.bin .mul (.idx (.var 0) (.int 2)) (.int 7919))) (.int 2147483629)) (.int 64)) (.var 1))) .nil)))), dfl := [] }
def f3 : Fn := { name := "_law_pick", ns := ["_law_box_here", "_law_some"], np := 2, body := (.cons (.ret (.idx (.var 1) (.call 2 (.cons (.var 0) (.cons (.bi .len (.cons (.var 1) .nil)) .nil))))) .nil), dfl := [] }
def f4 : Fn := { name := "_law_choices", ns := ["_law_names_here", "_law_found", "_law_name", "_law_some"], np := 1, body := (.cons (.asg (.nm 1) (.lst (.cons (.tup .nil) .nil))) (.cons (.for_ (.seq (.bi .sorted (.cons (.var 0) .nil))) (.nm 2) (.cons (.asg (.nm 1) (.bin .add (.var 1) (.comp (.seq (.var 1)) (.nm 3) .nil (.bin .add (.var 3) (.tup (.cons (.var 2) .nil))) [3]))) .nil)) (.cons (.retF (.bi .sorted (.cons (.var 1) .nil))) .nil))), dfl := [] }
def f5 : Fn := { name := "_law_true", ns := ["_law_cond", "_law_now", "_law_before", "_law_word", "_law_one", "_law_other"], np := 3, body := (.cons (.asg (.nm 3) (.idx (.var 0) (.int 0))) (.cons (.iff (.cmp .in_ (.var 3) (.tup (.cons (.str [121, 101, 115]) (.cons (.str [110, 111]) .nil)))) (.cons (.ret (.cmp .eq (.var 3) (.str [121, 101, 115]))) .nil) .nil) (.cons (.iff (.cmp .in_ (.var 3) (.tup (.cons (.str [111, 110]) (.cons (.str [119, 97, 115]) .nil)))) (.cons (.ret (.cmp .in_ (.idx (.var 0) (.int 1)) (.ifE (.cmp .eq (.var 3) (.str [111, 110])) (.var 1) (.var 2)))) .nil) .nil) (.cons (.iff (.cmp .eq (.var 3) (.str [110, 111, 116])) (.cons (.ret (.not (.call 5 (.cons (.idx (.var 0) (.int 1)) (.cons (.var 1) (.cons (.var 2) .nil)))))) .nil) .nil) (.cons (.par [(false, 4), (false, 5)] (.cons (.call 5 (.cons (.idx (.var 0) (.int 1)) (.cons (.var 1) (.cons (.var 2) .nil)))) (.cons (.call 5 (.cons (.idx (.var 0) (.int 2)) (.cons (.var 1) (.cons (.var 2) .nil)))) .nil))) (.cons (.ret (.ifE (.cmp .eq (.var 3) (.str [97, 110, 100])) (.and (.cons (.var 4) (.cons (.var 5) .nil))) (.or (.cons (.var 4) (.cons (.var 5) .nil))))) .nil)))))), dfl := [] }
def f6 : Fn := { name := "_law_names", ns := ["_law_box_here", "_law_many", "_law_letters", "_law_found", "_law_k", "_law_name", "_law_j", "_law_barred", "_law_one"], np := 2, body := (.cons (.par [(false, 2), (true, 3)] (.cons (.str [97, 98, 99, 100, 101, 102, 103, 104, 105, 106, 107, 108, 109, 110, 111, 112, 113, 114, 115, 116, 117, 118, 119, 120, 121, 122]) (.cons (.lst .nil) .nil))) (.cons (.for_ (.rng (.var 1)) (.nm 4) (.cons (.asg (.nm 5) (.mth .join (.str []) (.cons (.comp (.rng (.idx (.lst (.cons (.int 1) (.cons (.int 6) (.cons (.int 3) .nil)))) (.call 2 (.cons (.var 0) (.cons (.int 3) .nil))))) (.nm 6) .nil (.idx (.var 2) (.call 2 (.cons (.var 0) (.cons (.int 26) .nil)))) [6]) .nil))) (.cons (.iff (.and (.cons (.cmp .ne (.own 3) (.lst .nil)) (.cons (.cmp .eq (.call 2 (.cons (.var 0) (.cons (.int 4) .nil))) (.int 0)) .nil))) (.cons (.asg (.nm 5) (.bin .add (.sl (.idx (.own 3) (.int 0)) .no (.yes (.int 5))) (.idx (.var 2) (.call 2 (.cons (.var 0) (.cons (.int 26) .nil)))))) .nil) .nil) (.cons (.asg (.nm 7) (.bin .add (.own 3) (.lst (.cons (.str [121, 101, 115]) (.cons (.str [110, 111]) (.cons (.str [119, 97, 115]) (.cons (.str [110, 111, 116]) (.cons (.str [97, 110, 100]) (.cons (.str [111, 114]) (.cons (.str [116, 104, 101, 110]) (.cons (.str [116, 105, 108, 108]) .nil))))))))))) (.cons (.app 3 (.idx (.comp (.seq (.bin .add (.lst (.cons (.var 5) .nil)) (.comp (.seq (.var 2)) (.nm 8) .nil (.bin .add (.sl (.var 5) .no (.yes (.int 5))) (.var 8)) [8]))) (.nm 8) (.cons (.cmp .nin (.var 8) (.var 7)) .nil) (.var 8) [8]) (.int 0))) .nil))))) (.cons (.retF (.own 3)) .nil))), dfl := [] }
def f7 : Fn := { name := "_law_same", ns := ["_law_found", "_law_due", "_law_one", "_law_two"], np := 2, body := (.cons (.iff (.e (.isi (.var 1) ["list", "tuple"])) (.cons (.iff (.or (.cons (.cmp .ne (.isi (.var 0) ["list"]) (.isi (.var 1) ["list"])) (.cons (.cmp .ne (.isi (.var 0) ["tuple"]) (.isi (.var 1) ["tuple"])) .nil))) (.cons (.ret (.bl false)) .nil) .nil) (.cons (.ret (.and (.cons (.cmp .eq (.bi .len (.cons (.var 0) .nil)) (.bi .len (.cons (.var 1) .nil))) (.cons (.bi .all (.cons (.comp (.zip (.var 0) (.var 1)) (.tp (.cons (.nm 2) (.cons (.nm 3) .nil))) .nil (.call 7 (.cons (.var 2) (.cons (.var 3) .nil))) [2, 3]) .nil)) .nil)))) .nil)) .nil) (.cons (.iff (.or (.cons (.cmp .is_ (.var 1) .non) (.cons (.e (.isi (.var 1) ["bool", "str"])) .nil))) (.cons (.ret (.and (.cons (.cmp .eq (.var 0) (.var 1)) (.cons (.cmp .eq (.isi (.var 0) ["bool"]) (.isi (.var 1) ["bool"])) (.cons (.cmp .eq (.cmp .is_ (.var 0) .non) (.cmp .is_ (.var 1) .non)) .nil))))) .nil) .nil) (.cons (.ret (.and (.cons (.isi (.var 0) ["int"]) (.cons (.not (.isi (.var 0) ["bool"])) (.cons (.cmp .eq (.var 0) (.var 1)) .nil))))) .nil))), dfl := [] }
def f8 : Fn := { name := "_law_leaf", ns := ["_law_box_here", "_law_names_here", "_law_way"], np := 2, body := (.cons (.asg (.nm 2) (.call 2 (.cons (.var 0) (.cons (.int 8) .nil)))) (.cons (.iff (.cmp .lt (.var 2) (.int 2)) (.cons (.ret (.idx (.lst (.cons (.tup (.cons (.str [121, 101, 115]) .nil)) (.cons (.tup (.cons (.str [110, 111]) .nil)) .nil))) (.var 2))) .nil) .nil) (.cons (.ret (.tup (.cons (.ifE (.cmp .lt (.var 2) (.int 4)) (.str [119, 97, 115]) (.str [111, 110])) (.cons (.call 3 (.cons (.var 0) (.cons (.var 1) .nil))) .nil)))) .nil))), dfl := [] }
def f9 : Fn := { name := "_law_deep", ns := ["_law_box_here", "_law_names_here", "_law_deep_here", "_law_way", "_law_one", "_law_two"], np := 3, body := (.cons (.iff (.cmp .lt (.var 2) (.int 2)) (.cons (.ret (.call 8 (.cons (.var 0) (.cons (.var 1) .nil)))) .nil) .nil) (.cons (.par [(false, 3), (false, 4)] (.cons (.call 2 (.cons (.var 0) (.cons (.int 3) .nil))) (.cons (.call 9 (.cons (.var 0) (.cons (.var 1) (.cons (.bin .sub (.var 2) (.int 1)) .nil)))) .nil))) (.cons (.iff (.cmp .eq (.var 3) (.int 0)) (.cons (.ret (.tup (.cons (.str [110, 111, 116]) (.cons (.var 4) .nil)))) .nil) .nil) (.cons (.asg (.nm 5) (.call 9 (.cons (.var 0) (.cons (.var 1) (.cons (.bin .add (.int 1) (.call 2 (.cons (.var 0) (.cons (.bin .sub (.var 2) (.int 1)) .nil)))) .nil))))) (.cons (.ret (.ifE (.cmp .eq (.call 2 (.cons (.var 0) (.cons (.int 2) .nil))) (.int 0)) (.tup (.cons (.idx (.lst (.cons (.str [111, 114]) (.cons (.str [97, 110, 100]) .nil))) (.bin .sub (.var 3) (.int 1))) (.cons (.var 4) (.cons (.var 5) .nil)))) (.tup (.cons (.idx (.lst (.cons (.str [111, 114]) (.cons (.str [97, 110, 100]) .nil))) (.bin .sub (.var 3) (.int 1))) (.cons (.var 5) (.cons (.var 4) .nil)))))) .nil))))), dfl := [] }
def f10 : Fn := { name := "_law_some_names", ns := ["_law_box_here", "_law_odd", "_law_found", "_law_k", "_law_name"], np := 1, body := (.cons (.asg (.nm 1) (.lst (.cons (.str [121, 101, 115, 97]) (.cons (.str [110, 111, 116, 115]) (.cons (.str [119, 97]) (.cons (.str [97, 110]) (.cons (.str [111, 114, 97]) (.cons (.str [116, 104, 101, 110, 116]) (.cons (.str [116, 105, 108, 108, 111]) (.cons (.str [111, 110]) (.cons (.str [97, 108, 119, 97, 121, 115]) (.cons (.str [102, 105, 114, 115, 116]) (.cons (.str [115, 111, 111, 110]) (.cons (.str [119, 105, 116, 104, 105, 110]) (.cons (.str [110, 101, 120, 116]) .nil))))))))))))))) (.cons (.asgO 2 (.call 6 (.cons (.var 0) (.cons (.int 4) .nil)))) (.cons (.for_ (.rng (.int 4)) (.nm 3) (.cons (.asg (.nm 4) (.idx (.var 1) (.call 2 (.cons (.var 0) (.cons (.int 13) .nil))))) (.cons (.iff (.and (.cons (.cmp .eq (.call 2 (.cons (.var 0) (.cons (.int 3) .nil))) (.int 0)) (.cons (.cmp .nin (.var 4) (.own 2)) .nil))) (.cons (.setO 2 (.var 3) (.var 4)) .nil) .nil) .nil))) (.cons (.retF (.own 2)) .nil)))), dfl := [] }
def f11 : Fn := { name := "_law_some_set", ns := ["_law_box_here", "_law_names_here", "_law_name"], np := 2, body := (.cons (.ret (.bi .tuple (.cons (.sset (.comp (.seq (.var 1)) (.nm 2) (.cons (.cmp .eq (.call 2 (.cons (.var 0) (.cons (.int 2) .nil))) (.int 0)) .nil) (.var 2) [2])) .nil))) .nil), dfl := [] }
def f12 : Fn := { name := "_law_right", ns := ["_law_cond", "_law_now", "_law_before", "_law_due", "_law_lists", "_law_found", "_law_bare"], np := 3, body := (.cons (.par [(false, 3), (false, 4)] (.cons (.call 5 (.cons (.var 0) (.cons (.var 1) (.cons (.var 2) .nil)))) (.cons (.lst (.cons (.bi .list (.cons (.var 1) .nil)) (.cons (.bi .list (.cons (.var 2) .nil)) .nil))) .nil))) (.cons (.asg (.nm 5) (.lst (.cons (.call 0 (.cons (.var 0) (.cons (.var 1) (.cons (.var 2) .nil)))) (.cons (.call 0 (.cons (.var 0) (.cons (.idx (.var 4) (.int 0)) (.cons (.idx (.var 4) (.int 1)) .nil)))) (.cons (.call 0 (.cons (.var 0) (.cons (.var 1) (.cons (.var 2) .nil)))) .nil))))) (.cons (.asg (.nm 5) (.bin .add (.var 5) (.lst (.cons (.call 0 (.cons (.var 0) (.cons (.var 1) .nil))) (.cons (.call 0 (.cons (.var 0) (.cons (.idx (.var 4) (.int 0)) .nil))) .nil))))) (.cons (.asg (.nm 6) (.call 5 (.cons (.var 0) (.cons (.var 1) (.cons (.tup .nil) .nil))))) (.cons (.ret (.and (.cons (.call 7 (.cons (.var 5) (.cons (.bin .add (.bin .mul (.lst (.cons (.var 3) .nil)) (.int 3)) (.bin .mul (.lst (.cons (.var 6) .nil)) (.int 2))) .nil))) (.cons (.cmp .eq (.var 4) (.lst (.cons (.bi .list (.cons (.var 1) .nil)) (.cons (.bi .list (.cons (.var 2) .nil)) .nil)))) .nil)))) .nil))))), dfl := [] }
def f13 : Fn := { name := "law", ns := ["_law_script", "_law_k", "_law_box_here", "_law_names_here", "_law_turn", "_law_cond", "_law_other", "_law_now", "_law_before", "_law_one", "_law_plain", "_law_less", "_law_three", "_law_pair", "_law_some"], np := 1, body := (.cons (.for_ (.rng (.bi .max (.cons (.int 1) (.cons (.bi .min (.cons (.int 4) (.cons (.bi .len (.cons (.var 0) .nil)) .nil))) .nil)))) (.nm 1) (.cons (.asgC 2 (.call 1 (.cons (.var 0) (.cons (.var 1) .nil)))) (.cons (.asg (.nm 3) (.call 10 (.cons (.var 2) .nil))) (.cons (.for_ (.rng (.int 12)) (.nm 4) (.cons (.par [(false, 5), (false, 6)] (.cons (.call 9 (.cons (.var 2) (.cons (.var 3) (.cons (.bin .add (.int 1) (.call 2 (.cons (.var 2) (.cons (.int 6) .nil)))) .nil)))) (.cons (.call 9 (.cons (.var 2) (.cons (.var 3) (.cons (.bin .add (.int 1) (.call 2 (.cons (.var 2) (.cons (.int 5) .nil)))) .nil)))) .nil))) (.cons (.par [(false, 7), (false, 8)] (.cons (.call 11 (.cons (.var 2) (.cons (.bin .add (.var 3) (.lst (.cons (.str [122, 122, 122, 122]) .nil))) .nil))) (.cons (.call 11 (.cons (.var 2) (.cons (.var 3) .nil))) .nil))) (.cons (.iff (.or (.cons (.not (.e (.call 12 (.cons (.var 5) (.cons (.var 7) (.cons (.var 8) .nil)))))) (.cons (.not (.e (.call 12 (.cons (.var 6) (.cons (.var 8) (.cons (.var 7) .nil)))))) .nil))) (.cons (.ret (.bl false)) .nil) .nil) (.cons (.par [(false, 9), (false, 10)] (.cons (.call 0 (.cons (.var 6) (.cons (.var 7) (.cons (.var 8) .nil)))) (.cons (.lst (.cons (.call 0 (.cons (.tup (.cons (.str [121, 101, 115]) .nil)) (.cons (.var 7) (.cons (.var 8) .nil)))) (.cons (.call 0 (.cons (.tup (.cons (.str [110, 111]) .nil)) (.cons (.var 7) (.cons (.var 8) .nil)))) .nil))) .nil))) (.cons (.iff (.not (.e (.call 7 (.cons (.bin .add (.var 10) (.lst (.cons (.call 0 (.cons (.tup (.cons (.str [110, 111, 116]) (.cons (.var 6) .nil))) (.cons (.var 7) (.cons (.var 8) .nil)))) .nil))) (.cons (.lst (.cons (.bl true) (.cons (.bl false) (.cons (.not (.var 9)) .nil)))) .nil))))) (.cons (.ret (.bl false)) .nil) .nil) (.cons (.asg (.nm 11) (.call 9 (.cons (.var 2) (.cons (.var 3) (.cons (.bin .add (.int 1) (.call 2 (.cons (.var 2) (.cons (.int 5) .nil)))) .nil))))) (.cons (.asg (.nm 12) (.call 0 (.cons (.var 11) (.cons (.var 7) (.cons (.var 8) .nil))))) (.cons (.asg (.nm 13) (.lst (.cons (.call 0 (.cons (.tup (.cons (.str [97, 110, 100]) (.cons (.var 6) (.cons (.var 11) .nil)))) (.cons (.var 7) (.cons (.var 8) .nil)))) (.cons (.call 0 (.cons (.tup (.cons (.str [111, 114]) (.cons (.var 6) (.cons (.var 11) .nil)))) (.cons (.var 7) (.cons (.var 8) .nil)))) .nil)))) (.cons (.iff (.not (.e (.call 7 (.cons (.var 13) (.cons (.lst (.cons (.and (.cons (.var 9) (.cons (.var 12) .nil))) (.cons (.or (.cons (.var 9) (.cons (.var 12) .nil))) .nil))) .nil))))) (.cons (.ret (.bl false)) .nil) .nil) .nil)))))))))) (.cons (.par [(false, 5), (false, 14)] (.cons (.call 9 (.cons (.var 2) (.cons (.sl (.var 3) .no (.yes (.int 2))) (.cons (.bin .add (.int 1) (.call 2 (.cons (.var 2) (.cons (.int 4) .nil)))) .nil)))) (.cons (.call 4 (.cons (.sl (.var 3) .no (.yes (.int 2))) .nil)) .nil))) (.cons (.for_ (.seq (.var 14)) (.nm 7) (.cons (.for_ (.seq (.var 14)) (.nm 8) (.cons (.iff (.not (.e (.call 12 (.cons (.var 5) (.cons (.var 7) (.cons (.var 8) .nil)))))) (.cons (.ret (.bl false)) .nil) .nil) .nil)) .nil)) .nil)))))) (.cons (.ret (.bl true)) .nil)), dfl := [] }
def fs : List Fn := [f0, f1, f2, f3, f4, f5, f6, f7, f8, f9, f10, f11, f12, f13]
def gl : List (Str × D) := [("PLAIN", .tup [.str [121, 101, 115], .str [110, 111]]), ("ASKS", .tup [.str [111, 110], .str [119, 97, 115]])]
def sts : List Stmt := [top 3, top 5, top 6, top 7, top 8, top 9, top 10, top 11, top 12, top 13, top 14, top 15, top 16, top 17]
end K03
end

section
namespace K03
open Z ZW
theorem i1 : fs[1]? = some fBox := rfl
theorem i2 : fs[2]? = some fTake := rfl
theorem i3 : fs[3]? = some (fPick 2) := rfl
theorem i6 : fs[6]? = some (fNames 2) := rfl
abbrev G : PySem.Str → Option D := Tab.glo ⟨fs, gl⟩
abbrev yesS : List Nat := [121, 101, 115]
abbrev noS : List Nat := [110, 111]
abbrev onS : List Nat := [111, 110]
abbrev wasS : List Nat := [119, 97, 115]
abbrev notS : List Nat := [110, 111, 116]
abbrev andS : List Nat := [97, 110, 100]
abbrev orS : List Nat := [111, 114]
theorem g1 : G "PLAIN" = some (.tup [.str yesS, .str noS]) := by rfl
theorem g2 : G "ASKS" = some (.tup [.str onS, .str wasS]) := by rfl
/-- a cond -/
inductive C where
  | yes | no | on (s : List Nat) | was (s : List Nat) | not (a : C) | and (a b : C) | or (a b : C)
def C.d : C → D
  | .yes => .tup [.str yesS]
  | .no => .tup [.str noS]
  | .on s => .tup [.str onS, .str s]
  | .was s => .tup [.str wasS, .str s]
  | .not a => .tup [.str notS, a.d]
  | .and a b => .tup [.str andS, a.d, b.d]
  | .or a b => .tup [.str orS, a.d, b.d]
def C.ev (N B : List (List Nat)) : C → Bool
  | .yes => true
  | .no => false
  | .on s => decide (s ∈ N)
  | .was s => decide (s ∈ B)
  | .not a => !a.ev N B
  | .and a b => a.ev N B && b.ev N B
  | .or a b => a.ev N B || b.ev N B
def C.dp : C → Nat
  | .yes => 1
  | .no => 1
  | .on _ => 1
  | .was _ => 1
  | .not a => a.dp + 1
  | .and a b => max a.dp b.dp + 1
  | .or a b => max a.dp b.dp + 1
/-- names, in a tuple or a list -/
def Nm (d : D) (xs : List (List Nat)) : Prop := d = .tup (xs.map .str) ∨ d = .lst (xs.map .str)
theorem c_inT {h : LH} {s : List Nat} {ss : List (List Nat)} : cmpD h .in_ (.str s) (.tup (ss.map .str)) = some (decide (s ∈ ss)) := by
  have : cmpD h .in_ (.str s) (.tup (ss.map .str)) = inD h (.str s) (.tup (ss.map .str)) := by
    cases s with
    | nil => rfl
    | cons c r => cases r <;> rfl
  rw [this]
  show (if (flat (.str s) && (ss.map D.str).all flat) = true then some ((ss.map D.str).any fun y => eqD y (.str s)) else none) = _
  rw [flat_strs, any_strs]
  rfl
theorem Nm.in_ {h : LH} {d : D} {xs : List (List Nat)} (n : Nm d xs) {s : List Nat} : cmpD h .in_ (.str s) d = some (decide (s ∈ xs)) := by
  rcases n with rfl | rfl
  · exact c_inT
  · exact c_in
theorem in2 {h : LH} {s a b : List Nat} : cmpD h .in_ (.str s) (.tup [.str a, .str b]) = some (decide (s ∈ [a, b])) := c_inT (ss := [a, b])
section
variable {wf n : Nat} {h : LH} {Q : Rv → LH → Prop} {N B : List (List Nat)} {dn db : D}
theorem C.dp1 : ∀ c : C, ∃ k, c.dp = k + 1
  | .yes => ⟨0, rfl⟩
  | .no => ⟨0, rfl⟩
  | .on _ => ⟨0, rfl⟩
  | .was _ => ⟨0, rfl⟩
  | .not a => ⟨_, rfl⟩
  | .and a b => ⟨_, rfl⟩
  | .or a b => ⟨_, rfl⟩
theorem dpS {c : C} {k : Nat} (h : c.dp ≤ k) : ∃ j, k = j + 1 := by
  obtain ⟨m, e⟩ := c.dp1
  exact ⟨k - 1, by omega⟩
theorem true_ok (hn : Nm dn N) (hb : Nm db B) : ∀ (c : C) (k : Nat) (Q : Rv → LH → Prop), c.dp ≤ k → Q (.v (.bl (c.ev N B))) h → (run fs G wf k 5 [c.d, dn, db] h).post Q XF := by
  intro c
  induction c with
  | yes =>
    intro k Q hk q
    obtain ⟨k, rfl⟩ := dpS hk
    rw [w_run (fn := f5) rfl rfl]
    rw [show startE f5 [C.yes.d, dn, db] = [.val (.tup [.str yesS]), .val dn, .val db, .emp, .emp, .emp] from rfl]
    simp +decide only [f5, decide_true, decide_false, true_and, and_true, ZW.kO_some, ZW.kO_none, ZW.kO_map, ZW.kO_bind, ZW.kO_if, ZW.kS_nx, ZW.kS_ret, ZW.kS_brk, ZW.kS_cont, ZW.kB_bl, ZW.kI_int, ZW.kF_fr, ZW.kStr_str, ZW.kVar_val, ZW.kOwn_own, ZW.kRet_ret, ZW.kRet_nx, ZW.dg_v, ZW.dg_fr, ZW.wdg_v, ZW.wdg_fr, ZW.wdg_bw, ZW.get_0, ZW.get_s, ZW.e_var, ZW.e_own, ZW.e_int, ZW.e_bl, ZW.e_non, ZW.e_str, ZW.e_glo, ZW.e_tup, ZW.e_lst, ZW.e_bin, ZW.e_cmp, ZW.e_neg, ZW.e_not, ZW.e_and, ZW.e_or, ZW.e_ifE, ZW.e_idx, ZW.e_sl, ZW.e_call, ZW.e_bi, ZW.e_sset, ZW.e_isi, ZW.e_mth, ZW.op_no, ZW.op_yes, ZW.es_nil, ZW.es_cons, ZW.ws_nil, ZW.ws_cons, ZW.an_one, ZW.an_cons, ZW.or_one, ZW.or_cons, ZW.t_e, ZW.t_cmp', ZW.t_not', ZW.t_and', ZW.t_or', ZW.ts_nil, ZW.ts_cons, ZW.to_nil, ZW.to_cons, ZW.ss_nil, ZW.ss_cons, ZW.s_ex, ZW.s_asg, ZW.s_asgO, ZW.s_asgC, ZW.s_par, ZW.par_nil, ZW.par_t, ZW.par_f, ZW.kTup_tup, ZW.s_star, ZW.s_ret, ZW.kRF_fr, ZW.kRF_bw, ZW.s_retF, ZW.s_retN, ZW.s_iff, ZW.s_app, ZW.s_setO, ZW.kRef_ref, ZW.s_setR, ZW.s_frz, ZW.s_brk, ZW.s_cont, ZW.s_pass, ZW.bt_nm, ZW.bt_tp, ZW.bt_lp, ZW.bts_nil, ZW.bts_cons, ZW.kSeq_tup, ZW.kSeq_lst, ZW.kSeq_scr, ZW.kSeq_str, ZW.it_seq, ZW.it_rng, ZW.it_rng2, ZW.kZip_lst, ZW.kZip_tup, ZW.it_zip, ZW.kLst_lst, ZW.it_enum, ZW.tw_post, ZW.tx_post, ZW.s_for, ZW.e_comp, ZW.kT_nx, ZW.kT_cont, ZW.kT_brk, ZW.kT_ret, Z.setAll, List.set_cons_zero, List.set_cons_succ, if_true, if_false, Bool.false_eq_true, Option.bind_some, Option.map_some, Z.wipe, ix_tup, at_0, List.length_cons, List.length_nil, in2, c_eq, p_str, q_str, Bool.and_self]
    exact q
  | no =>
    intro k Q hk q
    obtain ⟨k, rfl⟩ := dpS hk
    rw [w_run (fn := f5) rfl rfl]
    rw [show startE f5 [C.no.d, dn, db] = [.val (.tup [.str noS]), .val dn, .val db, .emp, .emp, .emp] from rfl]
    simp +decide only [f5, decide_true, decide_false, true_and, and_true, ZW.kO_some, ZW.kO_none, ZW.kO_map, ZW.kO_bind, ZW.kO_if, ZW.kS_nx, ZW.kS_ret, ZW.kS_brk, ZW.kS_cont, ZW.kB_bl, ZW.kI_int, ZW.kF_fr, ZW.kStr_str, ZW.kVar_val, ZW.kOwn_own, ZW.kRet_ret, ZW.kRet_nx, ZW.dg_v, ZW.dg_fr, ZW.wdg_v, ZW.wdg_fr, ZW.wdg_bw, ZW.get_0, ZW.get_s, ZW.e_var, ZW.e_own, ZW.e_int, ZW.e_bl, ZW.e_non, ZW.e_str, ZW.e_glo, ZW.e_tup, ZW.e_lst, ZW.e_bin, ZW.e_cmp, ZW.e_neg, ZW.e_not, ZW.e_and, ZW.e_or, ZW.e_ifE, ZW.e_idx, ZW.e_sl, ZW.e_call, ZW.e_bi, ZW.e_sset, ZW.e_isi, ZW.e_mth, ZW.op_no, ZW.op_yes, ZW.es_nil, ZW.es_cons, ZW.ws_nil, ZW.ws_cons, ZW.an_one, ZW.an_cons, ZW.or_one, ZW.or_cons, ZW.t_e, ZW.t_cmp', ZW.t_not', ZW.t_and', ZW.t_or', ZW.ts_nil, ZW.ts_cons, ZW.to_nil, ZW.to_cons, ZW.ss_nil, ZW.ss_cons, ZW.s_ex, ZW.s_asg, ZW.s_asgO, ZW.s_asgC, ZW.s_par, ZW.par_nil, ZW.par_t, ZW.par_f, ZW.kTup_tup, ZW.s_star, ZW.s_ret, ZW.kRF_fr, ZW.kRF_bw, ZW.s_retF, ZW.s_retN, ZW.s_iff, ZW.s_app, ZW.s_setO, ZW.kRef_ref, ZW.s_setR, ZW.s_frz, ZW.s_brk, ZW.s_cont, ZW.s_pass, ZW.bt_nm, ZW.bt_tp, ZW.bt_lp, ZW.bts_nil, ZW.bts_cons, ZW.kSeq_tup, ZW.kSeq_lst, ZW.kSeq_scr, ZW.kSeq_str, ZW.it_seq, ZW.it_rng, ZW.it_rng2, ZW.kZip_lst, ZW.kZip_tup, ZW.it_zip, ZW.kLst_lst, ZW.it_enum, ZW.tw_post, ZW.tx_post, ZW.s_for, ZW.e_comp, ZW.kT_nx, ZW.kT_cont, ZW.kT_brk, ZW.kT_ret, Z.setAll, List.set_cons_zero, List.set_cons_succ, if_true, if_false, Bool.false_eq_true, Option.bind_some, Option.map_some, Z.wipe, ix_tup, at_0, List.length_cons, List.length_nil, in2, c_eq, p_str, q_str, Bool.and_self]
    exact q
  | on s =>
    intro k Q hk q
    obtain ⟨k, rfl⟩ := dpS hk
    rw [w_run (fn := f5) rfl rfl]
    rw [show startE f5 [(C.on s).d, dn, db] = [.val (.tup [.str onS, .str s]), .val dn, .val db, .emp, .emp, .emp] from rfl]
    simp +decide only [f5, decide_true, decide_false, true_and, and_true, ZW.kO_some, ZW.kO_none, ZW.kO_map, ZW.kO_bind, ZW.kO_if, ZW.kS_nx, ZW.kS_ret, ZW.kS_brk, ZW.kS_cont, ZW.kB_bl, ZW.kI_int, ZW.kF_fr, ZW.kStr_str, ZW.kVar_val, ZW.kOwn_own, ZW.kRet_ret, ZW.kRet_nx, ZW.dg_v, ZW.dg_fr, ZW.wdg_v, ZW.wdg_fr, ZW.wdg_bw, ZW.get_0, ZW.get_s, ZW.e_var, ZW.e_own, ZW.e_int, ZW.e_bl, ZW.e_non, ZW.e_str, ZW.e_glo, ZW.e_tup, ZW.e_lst, ZW.e_bin, ZW.e_cmp, ZW.e_neg, ZW.e_not, ZW.e_and, ZW.e_or, ZW.e_ifE, ZW.e_idx, ZW.e_sl, ZW.e_call, ZW.e_bi, ZW.e_sset, ZW.e_isi, ZW.e_mth, ZW.op_no, ZW.op_yes, ZW.es_nil, ZW.es_cons, ZW.ws_nil, ZW.ws_cons, ZW.an_one, ZW.an_cons, ZW.or_one, ZW.or_cons, ZW.t_e, ZW.t_cmp', ZW.t_not', ZW.t_and', ZW.t_or', ZW.ts_nil, ZW.ts_cons, ZW.to_nil, ZW.to_cons, ZW.ss_nil, ZW.ss_cons, ZW.s_ex, ZW.s_asg, ZW.s_asgO, ZW.s_asgC, ZW.s_par, ZW.par_nil, ZW.par_t, ZW.par_f, ZW.kTup_tup, ZW.s_star, ZW.s_ret, ZW.kRF_fr, ZW.kRF_bw, ZW.s_retF, ZW.s_retN, ZW.s_iff, ZW.s_app, ZW.s_setO, ZW.kRef_ref, ZW.s_setR, ZW.s_frz, ZW.s_brk, ZW.s_cont, ZW.s_pass, ZW.bt_nm, ZW.bt_tp, ZW.bt_lp, ZW.bts_nil, ZW.bts_cons, ZW.kSeq_tup, ZW.kSeq_lst, ZW.kSeq_scr, ZW.kSeq_str, ZW.it_seq, ZW.it_rng, ZW.it_rng2, ZW.kZip_lst, ZW.kZip_tup, ZW.it_zip, ZW.kLst_lst, ZW.it_enum, ZW.tw_post, ZW.tx_post, ZW.s_for, ZW.e_comp, ZW.kT_nx, ZW.kT_cont, ZW.kT_brk, ZW.kT_ret, Z.setAll, List.set_cons_zero, List.set_cons_succ, if_true, if_false, Bool.false_eq_true, Option.bind_some, Option.map_some, Z.wipe, ix_tup, at_0, at_1, List.length_cons, List.length_nil, in2, c_eq, p_str, q_str, Bool.and_self, hn.in_]
    exact q
  | was s =>
    intro k Q hk q
    obtain ⟨k, rfl⟩ := dpS hk
    rw [w_run (fn := f5) rfl rfl]
    rw [show startE f5 [(C.was s).d, dn, db] = [.val (.tup [.str wasS, .str s]), .val dn, .val db, .emp, .emp, .emp] from rfl]
    simp +decide only [f5, decide_true, decide_false, true_and, and_true, ZW.kO_some, ZW.kO_none, ZW.kO_map, ZW.kO_bind, ZW.kO_if, ZW.kS_nx, ZW.kS_ret, ZW.kS_brk, ZW.kS_cont, ZW.kB_bl, ZW.kI_int, ZW.kF_fr, ZW.kStr_str, ZW.kVar_val, ZW.kOwn_own, ZW.kRet_ret, ZW.kRet_nx, ZW.dg_v, ZW.dg_fr, ZW.wdg_v, ZW.wdg_fr, ZW.wdg_bw, ZW.get_0, ZW.get_s, ZW.e_var, ZW.e_own, ZW.e_int, ZW.e_bl, ZW.e_non, ZW.e_str, ZW.e_glo, ZW.e_tup, ZW.e_lst, ZW.e_bin, ZW.e_cmp, ZW.e_neg, ZW.e_not, ZW.e_and, ZW.e_or, ZW.e_ifE, ZW.e_idx, ZW.e_sl, ZW.e_call, ZW.e_bi, ZW.e_sset, ZW.e_isi, ZW.e_mth, ZW.op_no, ZW.op_yes, ZW.es_nil, ZW.es_cons, ZW.ws_nil, ZW.ws_cons, ZW.an_one, ZW.an_cons, ZW.or_one, ZW.or_cons, ZW.t_e, ZW.t_cmp', ZW.t_not', ZW.t_and', ZW.t_or', ZW.ts_nil, ZW.ts_cons, ZW.to_nil, ZW.to_cons, ZW.ss_nil, ZW.ss_cons, ZW.s_ex, ZW.s_asg, ZW.s_asgO, ZW.s_asgC, ZW.s_par, ZW.par_nil, ZW.par_t, ZW.par_f, ZW.kTup_tup, ZW.s_star, ZW.s_ret, ZW.kRF_fr, ZW.kRF_bw, ZW.s_retF, ZW.s_retN, ZW.s_iff, ZW.s_app, ZW.s_setO, ZW.kRef_ref, ZW.s_setR, ZW.s_frz, ZW.s_brk, ZW.s_cont, ZW.s_pass, ZW.bt_nm, ZW.bt_tp, ZW.bt_lp, ZW.bts_nil, ZW.bts_cons, ZW.kSeq_tup, ZW.kSeq_lst, ZW.kSeq_scr, ZW.kSeq_str, ZW.it_seq, ZW.it_rng, ZW.it_rng2, ZW.kZip_lst, ZW.kZip_tup, ZW.it_zip, ZW.kLst_lst, ZW.it_enum, ZW.tw_post, ZW.tx_post, ZW.s_for, ZW.e_comp, ZW.kT_nx, ZW.kT_cont, ZW.kT_brk, ZW.kT_ret, Z.setAll, List.set_cons_zero, List.set_cons_succ, if_true, if_false, Bool.false_eq_true, Option.bind_some, Option.map_some, Z.wipe, ix_tup, at_0, at_1, List.length_cons, List.length_nil, in2, c_eq, p_str, q_str, Bool.and_self, hb.in_]
    exact q
  | not a ih =>
    intro k Q hk q
    obtain ⟨k, rfl⟩ := dpS hk
    have hk' : a.dp + 1 ≤ k + 1 := hk
    rw [w_run (fn := f5) rfl rfl]
    rw [show startE f5 [(C.not a).d, dn, db] = [.val (.tup [.str notS, a.d]), .val dn, .val db, .emp, .emp, .emp] from rfl]
    simp +decide only [f5, decide_true, decide_false, true_and, and_true, ZW.kO_some, ZW.kO_none, ZW.kO_map, ZW.kO_bind, ZW.kO_if, ZW.kS_nx, ZW.kS_ret, ZW.kS_brk, ZW.kS_cont, ZW.kB_bl, ZW.kI_int, ZW.kF_fr, ZW.kStr_str, ZW.kVar_val, ZW.kOwn_own, ZW.kRet_ret, ZW.kRet_nx, ZW.dg_v, ZW.dg_fr, ZW.wdg_v, ZW.wdg_fr, ZW.wdg_bw, ZW.get_0, ZW.get_s, ZW.e_var, ZW.e_own, ZW.e_int, ZW.e_bl, ZW.e_non, ZW.e_str, ZW.e_glo, ZW.e_tup, ZW.e_lst, ZW.e_bin, ZW.e_cmp, ZW.e_neg, ZW.e_not, ZW.e_and, ZW.e_or, ZW.e_ifE, ZW.e_idx, ZW.e_sl, ZW.e_call, ZW.e_bi, ZW.e_sset, ZW.e_isi, ZW.e_mth, ZW.op_no, ZW.op_yes, ZW.es_nil, ZW.es_cons, ZW.ws_nil, ZW.ws_cons, ZW.an_one, ZW.an_cons, ZW.or_one, ZW.or_cons, ZW.t_e, ZW.t_cmp', ZW.t_not', ZW.t_and', ZW.t_or', ZW.ts_nil, ZW.ts_cons, ZW.to_nil, ZW.to_cons, ZW.ss_nil, ZW.ss_cons, ZW.s_ex, ZW.s_asg, ZW.s_asgO, ZW.s_asgC, ZW.s_par, ZW.par_nil, ZW.par_t, ZW.par_f, ZW.kTup_tup, ZW.s_star, ZW.s_ret, ZW.kRF_fr, ZW.kRF_bw, ZW.s_retF, ZW.s_retN, ZW.s_iff, ZW.s_app, ZW.s_setO, ZW.kRef_ref, ZW.s_setR, ZW.s_frz, ZW.s_brk, ZW.s_cont, ZW.s_pass, ZW.bt_nm, ZW.bt_tp, ZW.bt_lp, ZW.bts_nil, ZW.bts_cons, ZW.kSeq_tup, ZW.kSeq_lst, ZW.kSeq_scr, ZW.kSeq_str, ZW.it_seq, ZW.it_rng, ZW.it_rng2, ZW.kZip_lst, ZW.kZip_tup, ZW.it_zip, ZW.kLst_lst, ZW.it_enum, ZW.tw_post, ZW.tx_post, ZW.s_for, ZW.e_comp, ZW.kT_nx, ZW.kT_cont, ZW.kT_brk, ZW.kT_ret, Z.setAll, List.set_cons_zero, List.set_cons_succ, if_true, if_false, Bool.false_eq_true, Option.bind_some, Option.map_some, Z.wipe, ix_tup, at_0, at_1, List.length_cons, List.length_nil, in2, c_eq, p_str, q_str, Bool.and_self]
    show (run fs G wf k 5 [a.d, dn, db] h).post _ XF
    refine ih k _ (by omega) ?_
    simp only [ZW.kO_some, ZW.kO_none, ZW.kO_map, ZW.kO_bind, ZW.kO_if, ZW.kS_nx, ZW.kS_ret, ZW.kS_brk, ZW.kS_cont, ZW.kB_bl, ZW.kI_int, ZW.kF_fr, ZW.kStr_str, ZW.kVar_val, ZW.kOwn_own, ZW.kRet_ret, ZW.kRet_nx, ZW.dg_v, ZW.dg_fr, ZW.wdg_v, ZW.wdg_fr, ZW.wdg_bw, ZW.get_0, ZW.get_s, ZW.e_var, ZW.e_own, ZW.e_int, ZW.e_bl, ZW.e_non, ZW.e_str, ZW.e_glo, ZW.e_tup, ZW.e_lst, ZW.e_bin, ZW.e_cmp, ZW.e_neg, ZW.e_not, ZW.e_and, ZW.e_or, ZW.e_ifE, ZW.e_idx, ZW.e_sl, ZW.e_call, ZW.e_bi, ZW.e_sset, ZW.e_isi, ZW.e_mth, ZW.op_no, ZW.op_yes, ZW.es_nil, ZW.es_cons, ZW.ws_nil, ZW.ws_cons, ZW.an_one, ZW.an_cons, ZW.or_one, ZW.or_cons, ZW.t_e, ZW.t_cmp', ZW.t_not', ZW.t_and', ZW.t_or', ZW.ts_nil, ZW.ts_cons, ZW.to_nil, ZW.to_cons, ZW.ss_nil, ZW.ss_cons, ZW.s_ex, ZW.s_asg, ZW.s_asgO, ZW.s_asgC, ZW.s_par, ZW.par_nil, ZW.par_t, ZW.par_f, ZW.kTup_tup, ZW.s_star, ZW.s_ret, ZW.kRF_fr, ZW.kRF_bw, ZW.s_retF, ZW.s_retN, ZW.s_iff, ZW.s_app, ZW.s_setO, ZW.kRef_ref, ZW.s_setR, ZW.s_frz, ZW.s_brk, ZW.s_cont, ZW.s_pass, ZW.bt_nm, ZW.bt_tp, ZW.bt_lp, ZW.bts_nil, ZW.bts_cons, ZW.kSeq_tup, ZW.kSeq_lst, ZW.kSeq_scr, ZW.kSeq_str, ZW.it_seq, ZW.it_rng, ZW.it_rng2, ZW.kZip_lst, ZW.kZip_tup, ZW.it_zip, ZW.kLst_lst, ZW.it_enum, ZW.tw_post, ZW.tx_post, ZW.s_for, ZW.e_comp, ZW.kT_nx, ZW.kT_cont, ZW.kT_brk, ZW.kT_ret, Z.setAll, List.set_cons_zero, List.set_cons_succ, if_true, if_false, Bool.false_eq_true, Option.bind_some, Option.map_some, Z.wipe]
    exact q
  | and a b ih1 ih2 =>
    intro k Q hk q
    obtain ⟨k, rfl⟩ := dpS hk
    have hk' : max a.dp b.dp + 1 ≤ k + 1 := hk
    rw [w_run (fn := f5) rfl rfl]
    rw [show startE f5 [(C.and a b).d, dn, db] = [.val (.tup [.str andS, a.d, b.d]), .val dn, .val db, .emp, .emp, .emp] from rfl]
    simp +decide only [f5, decide_true, decide_false, true_and, and_true, ZW.kO_some, ZW.kO_none, ZW.kO_map, ZW.kO_bind, ZW.kO_if, ZW.kS_nx, ZW.kS_ret, ZW.kS_brk, ZW.kS_cont, ZW.kB_bl, ZW.kI_int, ZW.kF_fr, ZW.kStr_str, ZW.kVar_val, ZW.kOwn_own, ZW.kRet_ret, ZW.kRet_nx, ZW.dg_v, ZW.dg_fr, ZW.wdg_v, ZW.wdg_fr, ZW.wdg_bw, ZW.get_0, ZW.get_s, ZW.e_var, ZW.e_own, ZW.e_int, ZW.e_bl, ZW.e_non, ZW.e_str, ZW.e_glo, ZW.e_tup, ZW.e_lst, ZW.e_bin, ZW.e_cmp, ZW.e_neg, ZW.e_not, ZW.e_and, ZW.e_or, ZW.e_ifE, ZW.e_idx, ZW.e_sl, ZW.e_call, ZW.e_bi, ZW.e_sset, ZW.e_isi, ZW.e_mth, ZW.op_no, ZW.op_yes, ZW.es_nil, ZW.es_cons, ZW.ws_nil, ZW.ws_cons, ZW.an_one, ZW.an_cons, ZW.or_one, ZW.or_cons, ZW.t_e, ZW.t_cmp', ZW.t_not', ZW.t_and', ZW.t_or', ZW.ts_nil, ZW.ts_cons, ZW.to_nil, ZW.to_cons, ZW.ss_nil, ZW.ss_cons, ZW.s_ex, ZW.s_asg, ZW.s_asgO, ZW.s_asgC, ZW.s_par, ZW.par_nil, ZW.par_t, ZW.par_f, ZW.kTup_tup, ZW.s_star, ZW.s_ret, ZW.kRF_fr, ZW.kRF_bw, ZW.s_retF, ZW.s_retN, ZW.s_iff, ZW.s_app, ZW.s_setO, ZW.kRef_ref, ZW.s_setR, ZW.s_frz, ZW.s_brk, ZW.s_cont, ZW.s_pass, ZW.bt_nm, ZW.bt_tp, ZW.bt_lp, ZW.bts_nil, ZW.bts_cons, ZW.kSeq_tup, ZW.kSeq_lst, ZW.kSeq_scr, ZW.kSeq_str, ZW.it_seq, ZW.it_rng, ZW.it_rng2, ZW.kZip_lst, ZW.kZip_tup, ZW.it_zip, ZW.kLst_lst, ZW.it_enum, ZW.tw_post, ZW.tx_post, ZW.s_for, ZW.e_comp, ZW.kT_nx, ZW.kT_cont, ZW.kT_brk, ZW.kT_ret, Z.setAll, List.set_cons_zero, List.set_cons_succ, if_true, if_false, Bool.false_eq_true, Option.bind_some, Option.map_some, Z.wipe, ix_tup, at_0, at_1, at_2, List.length_cons, List.length_nil, in2, c_eq, p_str, q_str, Bool.and_self]
    show (run fs G wf k 5 [a.d, dn, db] h).post _ XF
    refine ih1 k _ (by omega) ?_
    simp only [ZW.kO_some, ZW.kO_none, ZW.kO_map, ZW.kO_bind, ZW.kO_if, ZW.kS_nx, ZW.kS_ret, ZW.kS_brk, ZW.kS_cont, ZW.kB_bl, ZW.kI_int, ZW.kF_fr, ZW.kStr_str, ZW.kVar_val, ZW.kOwn_own, ZW.kRet_ret, ZW.kRet_nx, ZW.dg_v, ZW.dg_fr, ZW.wdg_v, ZW.wdg_fr, ZW.wdg_bw, ZW.get_0, ZW.get_s, ZW.e_var, ZW.e_own, ZW.e_int, ZW.e_bl, ZW.e_non, ZW.e_str, ZW.e_glo, ZW.e_tup, ZW.e_lst, ZW.e_bin, ZW.e_cmp, ZW.e_neg, ZW.e_not, ZW.e_and, ZW.e_or, ZW.e_ifE, ZW.e_idx, ZW.e_sl, ZW.e_call, ZW.e_bi, ZW.e_sset, ZW.e_isi, ZW.e_mth, ZW.op_no, ZW.op_yes, ZW.es_nil, ZW.es_cons, ZW.ws_nil, ZW.ws_cons, ZW.an_one, ZW.an_cons, ZW.or_one, ZW.or_cons, ZW.t_e, ZW.t_cmp', ZW.t_not', ZW.t_and', ZW.t_or', ZW.ts_nil, ZW.ts_cons, ZW.to_nil, ZW.to_cons, ZW.ss_nil, ZW.ss_cons, ZW.s_ex, ZW.s_asg, ZW.s_asgO, ZW.s_asgC, ZW.s_par, ZW.par_nil, ZW.par_t, ZW.par_f, ZW.kTup_tup, ZW.s_star, ZW.s_ret, ZW.kRF_fr, ZW.kRF_bw, ZW.s_retF, ZW.s_retN, ZW.s_iff, ZW.s_app, ZW.s_setO, ZW.kRef_ref, ZW.s_setR, ZW.s_frz, ZW.s_brk, ZW.s_cont, ZW.s_pass, ZW.bt_nm, ZW.bt_tp, ZW.bt_lp, ZW.bts_nil, ZW.bts_cons, ZW.kSeq_tup, ZW.kSeq_lst, ZW.kSeq_scr, ZW.kSeq_str, ZW.it_seq, ZW.it_rng, ZW.it_rng2, ZW.kZip_lst, ZW.kZip_tup, ZW.it_zip, ZW.kLst_lst, ZW.it_enum, ZW.tw_post, ZW.tx_post, ZW.s_for, ZW.e_comp, ZW.kT_nx, ZW.kT_cont, ZW.kT_brk, ZW.kT_ret, Z.setAll, List.set_cons_zero, List.set_cons_succ, if_true, if_false, Bool.false_eq_true, Option.bind_some, Option.map_some, Z.wipe]
    show (run fs G wf k 5 [b.d, dn, db] h).post _ XF
    refine ih2 k _ (by omega) ?_
    simp +decide only [decide_true, decide_false, true_and, ZW.kO_some, ZW.kO_none, ZW.kO_map, ZW.kO_bind, ZW.kO_if, ZW.kS_nx, ZW.kS_ret, ZW.kS_brk, ZW.kS_cont, ZW.kB_bl, ZW.kI_int, ZW.kF_fr, ZW.kStr_str, ZW.kVar_val, ZW.kOwn_own, ZW.kRet_ret, ZW.kRet_nx, ZW.dg_v, ZW.dg_fr, ZW.wdg_v, ZW.wdg_fr, ZW.wdg_bw, ZW.get_0, ZW.get_s, ZW.e_var, ZW.e_own, ZW.e_int, ZW.e_bl, ZW.e_non, ZW.e_str, ZW.e_glo, ZW.e_tup, ZW.e_lst, ZW.e_bin, ZW.e_cmp, ZW.e_neg, ZW.e_not, ZW.e_and, ZW.e_or, ZW.e_ifE, ZW.e_idx, ZW.e_sl, ZW.e_call, ZW.e_bi, ZW.e_sset, ZW.e_isi, ZW.e_mth, ZW.op_no, ZW.op_yes, ZW.es_nil, ZW.es_cons, ZW.ws_nil, ZW.ws_cons, ZW.an_one, ZW.an_cons, ZW.or_one, ZW.or_cons, ZW.t_e, ZW.t_cmp', ZW.t_not', ZW.t_and', ZW.t_or', ZW.ts_nil, ZW.ts_cons, ZW.to_nil, ZW.to_cons, ZW.ss_nil, ZW.ss_cons, ZW.s_ex, ZW.s_asg, ZW.s_asgO, ZW.s_asgC, ZW.s_par, ZW.par_nil, ZW.par_t, ZW.par_f, ZW.kTup_tup, ZW.s_star, ZW.s_ret, ZW.kRF_fr, ZW.kRF_bw, ZW.s_retF, ZW.s_retN, ZW.s_iff, ZW.s_app, ZW.s_setO, ZW.kRef_ref, ZW.s_setR, ZW.s_frz, ZW.s_brk, ZW.s_cont, ZW.s_pass, ZW.bt_nm, ZW.bt_tp, ZW.bt_lp, ZW.bts_nil, ZW.bts_cons, ZW.kSeq_tup, ZW.kSeq_lst, ZW.kSeq_scr, ZW.kSeq_str, ZW.it_seq, ZW.it_rng, ZW.it_rng2, ZW.kZip_lst, ZW.kZip_tup, ZW.it_zip, ZW.kLst_lst, ZW.it_enum, ZW.tw_post, ZW.tx_post, ZW.s_for, ZW.e_comp, ZW.kT_nx, ZW.kT_cont, ZW.kT_brk, ZW.kT_ret, Z.setAll, List.set_cons_zero, List.set_cons_succ, if_true, if_false, Bool.false_eq_true, Option.bind_some, Option.map_some, Z.wipe, c_eq, p_str, q_str, Bool.and_self]
    show (if a.ev N B = true then _ else _)
    have q : Q (.v (.bl (a.ev N B && b.ev N B))) h := q
    cases ha : a.ev N B with
    | true => rw [ha] at q; exact q
    | false => rw [ha] at q; exact q
  | or a b ih1 ih2 =>
    intro k Q hk q
    obtain ⟨k, rfl⟩ := dpS hk
    have hk' : max a.dp b.dp + 1 ≤ k + 1 := hk
    rw [w_run (fn := f5) rfl rfl]
    rw [show startE f5 [(C.or a b).d, dn, db] = [.val (.tup [.str orS, a.d, b.d]), .val dn, .val db, .emp, .emp, .emp] from rfl]
    simp +decide only [f5, decide_true, decide_false, true_and, and_true, ZW.kO_some, ZW.kO_none, ZW.kO_map, ZW.kO_bind, ZW.kO_if, ZW.kS_nx, ZW.kS_ret, ZW.kS_brk, ZW.kS_cont, ZW.kB_bl, ZW.kI_int, ZW.kF_fr, ZW.kStr_str, ZW.kVar_val, ZW.kOwn_own, ZW.kRet_ret, ZW.kRet_nx, ZW.dg_v, ZW.dg_fr, ZW.wdg_v, ZW.wdg_fr, ZW.wdg_bw, ZW.get_0, ZW.get_s, ZW.e_var, ZW.e_own, ZW.e_int, ZW.e_bl, ZW.e_non, ZW.e_str, ZW.e_glo, ZW.e_tup, ZW.e_lst, ZW.e_bin, ZW.e_cmp, ZW.e_neg, ZW.e_not, ZW.e_and, ZW.e_or, ZW.e_ifE, ZW.e_idx, ZW.e_sl, ZW.e_call, ZW.e_bi, ZW.e_sset, ZW.e_isi, ZW.e_mth, ZW.op_no, ZW.op_yes, ZW.es_nil, ZW.es_cons, ZW.ws_nil, ZW.ws_cons, ZW.an_one, ZW.an_cons, ZW.or_one, ZW.or_cons, ZW.t_e, ZW.t_cmp', ZW.t_not', ZW.t_and', ZW.t_or', ZW.ts_nil, ZW.ts_cons, ZW.to_nil, ZW.to_cons, ZW.ss_nil, ZW.ss_cons, ZW.s_ex, ZW.s_asg, ZW.s_asgO, ZW.s_asgC, ZW.s_par, ZW.par_nil, ZW.par_t, ZW.par_f, ZW.kTup_tup, ZW.s_star, ZW.s_ret, ZW.kRF_fr, ZW.kRF_bw, ZW.s_retF, ZW.s_retN, ZW.s_iff, ZW.s_app, ZW.s_setO, ZW.kRef_ref, ZW.s_setR, ZW.s_frz, ZW.s_brk, ZW.s_cont, ZW.s_pass, ZW.bt_nm, ZW.bt_tp, ZW.bt_lp, ZW.bts_nil, ZW.bts_cons, ZW.kSeq_tup, ZW.kSeq_lst, ZW.kSeq_scr, ZW.kSeq_str, ZW.it_seq, ZW.it_rng, ZW.it_rng2, ZW.kZip_lst, ZW.kZip_tup, ZW.it_zip, ZW.kLst_lst, ZW.it_enum, ZW.tw_post, ZW.tx_post, ZW.s_for, ZW.e_comp, ZW.kT_nx, ZW.kT_cont, ZW.kT_brk, ZW.kT_ret, Z.setAll, List.set_cons_zero, List.set_cons_succ, if_true, if_false, Bool.false_eq_true, Option.bind_some, Option.map_some, Z.wipe, ix_tup, at_0, at_1, at_2, List.length_cons, List.length_nil, in2, c_eq, p_str, q_str, Bool.and_self]
    show (run fs G wf k 5 [a.d, dn, db] h).post _ XF
    refine ih1 k _ (by omega) ?_
    simp only [ZW.kO_some, ZW.kO_none, ZW.kO_map, ZW.kO_bind, ZW.kO_if, ZW.kS_nx, ZW.kS_ret, ZW.kS_brk, ZW.kS_cont, ZW.kB_bl, ZW.kI_int, ZW.kF_fr, ZW.kStr_str, ZW.kVar_val, ZW.kOwn_own, ZW.kRet_ret, ZW.kRet_nx, ZW.dg_v, ZW.dg_fr, ZW.wdg_v, ZW.wdg_fr, ZW.wdg_bw, ZW.get_0, ZW.get_s, ZW.e_var, ZW.e_own, ZW.e_int, ZW.e_bl, ZW.e_non, ZW.e_str, ZW.e_glo, ZW.e_tup, ZW.e_lst, ZW.e_bin, ZW.e_cmp, ZW.e_neg, ZW.e_not, ZW.e_and, ZW.e_or, ZW.e_ifE, ZW.e_idx, ZW.e_sl, ZW.e_call, ZW.e_bi, ZW.e_sset, ZW.e_isi, ZW.e_mth, ZW.op_no, ZW.op_yes, ZW.es_nil, ZW.es_cons, ZW.ws_nil, ZW.ws_cons, ZW.an_one, ZW.an_cons, ZW.or_one, ZW.or_cons, ZW.t_e, ZW.t_cmp', ZW.t_not', ZW.t_and', ZW.t_or', ZW.ts_nil, ZW.ts_cons, ZW.to_nil, ZW.to_cons, ZW.ss_nil, ZW.ss_cons, ZW.s_ex, ZW.s_asg, ZW.s_asgO, ZW.s_asgC, ZW.s_par, ZW.par_nil, ZW.par_t, ZW.par_f, ZW.kTup_tup, ZW.s_star, ZW.s_ret, ZW.kRF_fr, ZW.kRF_bw, ZW.s_retF, ZW.s_retN, ZW.s_iff, ZW.s_app, ZW.s_setO, ZW.kRef_ref, ZW.s_setR, ZW.s_frz, ZW.s_brk, ZW.s_cont, ZW.s_pass, ZW.bt_nm, ZW.bt_tp, ZW.bt_lp, ZW.bts_nil, ZW.bts_cons, ZW.kSeq_tup, ZW.kSeq_lst, ZW.kSeq_scr, ZW.kSeq_str, ZW.it_seq, ZW.it_rng, ZW.it_rng2, ZW.kZip_lst, ZW.kZip_tup, ZW.it_zip, ZW.kLst_lst, ZW.it_enum, ZW.tw_post, ZW.tx_post, ZW.s_for, ZW.e_comp, ZW.kT_nx, ZW.kT_cont, ZW.kT_brk, ZW.kT_ret, Z.setAll, List.set_cons_zero, List.set_cons_succ, if_true, if_false, Bool.false_eq_true, Option.bind_some, Option.map_some, Z.wipe]
    show (run fs G wf k 5 [b.d, dn, db] h).post _ XF
    refine ih2 k _ (by omega) ?_
    simp +decide only [decide_true, decide_false, true_and, ZW.kO_some, ZW.kO_none, ZW.kO_map, ZW.kO_bind, ZW.kO_if, ZW.kS_nx, ZW.kS_ret, ZW.kS_brk, ZW.kS_cont, ZW.kB_bl, ZW.kI_int, ZW.kF_fr, ZW.kStr_str, ZW.kVar_val, ZW.kOwn_own, ZW.kRet_ret, ZW.kRet_nx, ZW.dg_v, ZW.dg_fr, ZW.wdg_v, ZW.wdg_fr, ZW.wdg_bw, ZW.get_0, ZW.get_s, ZW.e_var, ZW.e_own, ZW.e_int, ZW.e_bl, ZW.e_non, ZW.e_str, ZW.e_glo, ZW.e_tup, ZW.e_lst, ZW.e_bin, ZW.e_cmp, ZW.e_neg, ZW.e_not, ZW.e_and, ZW.e_or, ZW.e_ifE, ZW.e_idx, ZW.e_sl, ZW.e_call, ZW.e_bi, ZW.e_sset, ZW.e_isi, ZW.e_mth, ZW.op_no, ZW.op_yes, ZW.es_nil, ZW.es_cons, ZW.ws_nil, ZW.ws_cons, ZW.an_one, ZW.an_cons, ZW.or_one, ZW.or_cons, ZW.t_e, ZW.t_cmp', ZW.t_not', ZW.t_and', ZW.t_or', ZW.ts_nil, ZW.ts_cons, ZW.to_nil, ZW.to_cons, ZW.ss_nil, ZW.ss_cons, ZW.s_ex, ZW.s_asg, ZW.s_asgO, ZW.s_asgC, ZW.s_par, ZW.par_nil, ZW.par_t, ZW.par_f, ZW.kTup_tup, ZW.s_star, ZW.s_ret, ZW.kRF_fr, ZW.kRF_bw, ZW.s_retF, ZW.s_retN, ZW.s_iff, ZW.s_app, ZW.s_setO, ZW.kRef_ref, ZW.s_setR, ZW.s_frz, ZW.s_brk, ZW.s_cont, ZW.s_pass, ZW.bt_nm, ZW.bt_tp, ZW.bt_lp, ZW.bts_nil, ZW.bts_cons, ZW.kSeq_tup, ZW.kSeq_lst, ZW.kSeq_scr, ZW.kSeq_str, ZW.it_seq, ZW.it_rng, ZW.it_rng2, ZW.kZip_lst, ZW.kZip_tup, ZW.it_zip, ZW.kLst_lst, ZW.it_enum, ZW.tw_post, ZW.tx_post, ZW.s_for, ZW.e_comp, ZW.kT_nx, ZW.kT_cont, ZW.kT_brk, ZW.kT_ret, Z.setAll, List.set_cons_zero, List.set_cons_succ, if_true, if_false, Bool.false_eq_true, Option.bind_some, Option.map_some, Z.wipe, c_eq, p_str, q_str, Bool.and_self]
    show (if a.ev N B = true then _ else _)
    have q : Q (.v (.bl (a.ev N B || b.ev N B))) h := q
    cases ha : a.ev N B with
    | true => rw [ha] at q; exact q
    | false => rw [ha] at q; exact q
def kOpt (o : Option D) (ys : List D) : List D := match o with
  | some y => y :: ys
  | none => ys
theorem kOpt_s {y : D} {ys : List D} : kOpt (some y) ys = y :: ys := rfl
theorem cl_nil {f : D → M (Option D)} {h : LH} {Q : List D → LH → Prop} : (compL f [] h).post Q XF = Q [] h := rfl
theorem cl_cons {f : D → M (Option D)} {x : D} {r : List D} {h : LH} {Q : List D → LH → Prop} : (compL f (x :: r) h).post Q XF = (f x h).post (fun o h1 => (compL f r h1).post (fun ys h2 => Q (kOpt o ys) h2) XF) XF := by
  have e : compL f (x :: r) = bnd (f x) fun o => bnd (compL f r) fun ys => pur (kOpt o ys) := by
    rw [compL]
    congr 1
    funext o
    congr 1
    funext ys
    cases o <;> rfl
  rw [e, pB]
  congr 1
  funext o h1
  rw [pB]
  rfl
theorem m_all2 {h : LH} {x y : Bool} : biD h .all [.lst [.bl x, .bl y]] = some (.v (.bl (x && y))) := by
  have := m_all (h := h) (xs := [x, y])
  rw [show [x, y].map D.bl = [.bl x, .bl y] from rfl] at this
  rw [this]
  cases x <;> cases y <;> rfl
theorem m_any2 {h : LH} {x y : Bool} : biD h .any [.lst [.bl x, .bl y]] = some (.v (.bl (x || y))) := by
  have := m_any (h := h) (xs := [x, y])
  rw [show [x, y].map D.bl = [.bl x, .bl y] from rfl] at this
  rw [this]
  cases x <;> cases y <;> rfl
theorem at_ok (hn : Nm dn N) (hb : Nm db B) : ∀ (c : C) (k : Nat) (Q : Rv → LH → Prop), c.dp ≤ k → Q (.v (.bl (c.ev N B))) h → (run fs G wf k 0 [c.d, dn, db] h).post Q XF := by
  intro c
  induction c with
  | yes =>
    intro k Q hk q
    obtain ⟨k, rfl⟩ := dpS hk
    rw [w_run (fn := f0) rfl rfl]
    rw [show startE f0 [(C.yes).d, dn, db] = [.val (.tup [.str yesS]), .val dn, .val db, .emp, .emp, .emp] from rfl]
    simp +decide only [f0, decide_true, decide_false, true_and, and_true, ZW.kO_some, ZW.kO_none, ZW.kO_map, ZW.kO_bind, ZW.kO_if, ZW.kS_nx, ZW.kS_ret, ZW.kS_brk, ZW.kS_cont, ZW.kB_bl, ZW.kI_int, ZW.kF_fr, ZW.kStr_str, ZW.kVar_val, ZW.kOwn_own, ZW.kRet_ret, ZW.kRet_nx, ZW.dg_v, ZW.dg_fr, ZW.wdg_v, ZW.wdg_fr, ZW.wdg_bw, ZW.get_0, ZW.get_s, ZW.e_var, ZW.e_own, ZW.e_int, ZW.e_bl, ZW.e_non, ZW.e_str, ZW.e_glo, ZW.e_tup, ZW.e_lst, ZW.e_bin, ZW.e_cmp, ZW.e_neg, ZW.e_not, ZW.e_and, ZW.e_or, ZW.e_ifE, ZW.e_idx, ZW.e_sl, ZW.e_call, ZW.e_bi, ZW.e_sset, ZW.e_isi, ZW.e_mth, ZW.op_no, ZW.op_yes, ZW.es_nil, ZW.es_cons, ZW.ws_nil, ZW.ws_cons, ZW.an_one, ZW.an_cons, ZW.or_one, ZW.or_cons, ZW.t_e, ZW.t_cmp', ZW.t_not', ZW.t_and', ZW.t_or', ZW.ts_nil, ZW.ts_cons, ZW.to_nil, ZW.to_cons, ZW.ss_nil, ZW.ss_cons, ZW.s_ex, ZW.s_asg, ZW.s_asgO, ZW.s_asgC, ZW.s_par, ZW.par_nil, ZW.par_t, ZW.par_f, ZW.kTup_tup, ZW.s_star, ZW.s_ret, ZW.kRF_fr, ZW.kRF_bw, ZW.s_retF, ZW.s_retN, ZW.s_iff, ZW.s_app, ZW.s_setO, ZW.kRef_ref, ZW.s_setR, ZW.s_frz, ZW.s_brk, ZW.s_cont, ZW.s_pass, ZW.bt_nm, ZW.bt_tp, ZW.bt_lp, ZW.bts_nil, ZW.bts_cons, ZW.kSeq_tup, ZW.kSeq_lst, ZW.kSeq_scr, ZW.kSeq_str, ZW.it_seq, ZW.it_rng, ZW.it_rng2, ZW.kZip_lst, ZW.kZip_tup, ZW.it_zip, ZW.kLst_lst, ZW.it_enum, ZW.tw_post, ZW.tx_post, ZW.s_for, ZW.e_comp, ZW.kT_nx, ZW.kT_cont, ZW.kT_brk, ZW.kT_ret, Z.setAll, List.set_cons_zero, List.set_cons_succ, if_true, if_false, Bool.false_eq_true, Option.bind_some, Option.map_some, Z.wipe, cl_nil, cl_cons, kOpt_s, Tgs.len, List.length_cons, List.length_nil, ix_lst, at_0, at_1, in2, c_eq, p_str, q_str, Bool.and_self, hn.in_, hb.in_, List.take, List.drop, List.cons_append, List.nil_append, g1, g2]
    exact q
  | no =>
    intro k Q hk q
    obtain ⟨k, rfl⟩ := dpS hk
    rw [w_run (fn := f0) rfl rfl]
    rw [show startE f0 [(C.no).d, dn, db] = [.val (.tup [.str noS]), .val dn, .val db, .emp, .emp, .emp] from rfl]
    simp +decide only [f0, decide_true, decide_false, true_and, and_true, ZW.kO_some, ZW.kO_none, ZW.kO_map, ZW.kO_bind, ZW.kO_if, ZW.kS_nx, ZW.kS_ret, ZW.kS_brk, ZW.kS_cont, ZW.kB_bl, ZW.kI_int, ZW.kF_fr, ZW.kStr_str, ZW.kVar_val, ZW.kOwn_own, ZW.kRet_ret, ZW.kRet_nx, ZW.dg_v, ZW.dg_fr, ZW.wdg_v, ZW.wdg_fr, ZW.wdg_bw, ZW.get_0, ZW.get_s, ZW.e_var, ZW.e_own, ZW.e_int, ZW.e_bl, ZW.e_non, ZW.e_str, ZW.e_glo, ZW.e_tup, ZW.e_lst, ZW.e_bin, ZW.e_cmp, ZW.e_neg, ZW.e_not, ZW.e_and, ZW.e_or, ZW.e_ifE, ZW.e_idx, ZW.e_sl, ZW.e_call, ZW.e_bi, ZW.e_sset, ZW.e_isi, ZW.e_mth, ZW.op_no, ZW.op_yes, ZW.es_nil, ZW.es_cons, ZW.ws_nil, ZW.ws_cons, ZW.an_one, ZW.an_cons, ZW.or_one, ZW.or_cons, ZW.t_e, ZW.t_cmp', ZW.t_not', ZW.t_and', ZW.t_or', ZW.ts_nil, ZW.ts_cons, ZW.to_nil, ZW.to_cons, ZW.ss_nil, ZW.ss_cons, ZW.s_ex, ZW.s_asg, ZW.s_asgO, ZW.s_asgC, ZW.s_par, ZW.par_nil, ZW.par_t, ZW.par_f, ZW.kTup_tup, ZW.s_star, ZW.s_ret, ZW.kRF_fr, ZW.kRF_bw, ZW.s_retF, ZW.s_retN, ZW.s_iff, ZW.s_app, ZW.s_setO, ZW.kRef_ref, ZW.s_setR, ZW.s_frz, ZW.s_brk, ZW.s_cont, ZW.s_pass, ZW.bt_nm, ZW.bt_tp, ZW.bt_lp, ZW.bts_nil, ZW.bts_cons, ZW.kSeq_tup, ZW.kSeq_lst, ZW.kSeq_scr, ZW.kSeq_str, ZW.it_seq, ZW.it_rng, ZW.it_rng2, ZW.kZip_lst, ZW.kZip_tup, ZW.it_zip, ZW.kLst_lst, ZW.it_enum, ZW.tw_post, ZW.tx_post, ZW.s_for, ZW.e_comp, ZW.kT_nx, ZW.kT_cont, ZW.kT_brk, ZW.kT_ret, Z.setAll, List.set_cons_zero, List.set_cons_succ, if_true, if_false, Bool.false_eq_true, Option.bind_some, Option.map_some, Z.wipe, cl_nil, cl_cons, kOpt_s, Tgs.len, List.length_cons, List.length_nil, ix_lst, at_0, at_1, in2, c_eq, p_str, q_str, Bool.and_self, hn.in_, hb.in_, List.take, List.drop, List.cons_append, List.nil_append, g1, g2]
    exact q
  | on s =>
    intro k Q hk q
    obtain ⟨k, rfl⟩ := dpS hk
    rw [w_run (fn := f0) rfl rfl]
    rw [show startE f0 [(C.on s).d, dn, db] = [.val (.tup [.str onS, .str s]), .val dn, .val db, .emp, .emp, .emp] from rfl]
    simp +decide only [f0, decide_true, decide_false, true_and, and_true, ZW.kO_some, ZW.kO_none, ZW.kO_map, ZW.kO_bind, ZW.kO_if, ZW.kS_nx, ZW.kS_ret, ZW.kS_brk, ZW.kS_cont, ZW.kB_bl, ZW.kI_int, ZW.kF_fr, ZW.kStr_str, ZW.kVar_val, ZW.kOwn_own, ZW.kRet_ret, ZW.kRet_nx, ZW.dg_v, ZW.dg_fr, ZW.wdg_v, ZW.wdg_fr, ZW.wdg_bw, ZW.get_0, ZW.get_s, ZW.e_var, ZW.e_own, ZW.e_int, ZW.e_bl, ZW.e_non, ZW.e_str, ZW.e_glo, ZW.e_tup, ZW.e_lst, ZW.e_bin, ZW.e_cmp, ZW.e_neg, ZW.e_not, ZW.e_and, ZW.e_or, ZW.e_ifE, ZW.e_idx, ZW.e_sl, ZW.e_call, ZW.e_bi, ZW.e_sset, ZW.e_isi, ZW.e_mth, ZW.op_no, ZW.op_yes, ZW.es_nil, ZW.es_cons, ZW.ws_nil, ZW.ws_cons, ZW.an_one, ZW.an_cons, ZW.or_one, ZW.or_cons, ZW.t_e, ZW.t_cmp', ZW.t_not', ZW.t_and', ZW.t_or', ZW.ts_nil, ZW.ts_cons, ZW.to_nil, ZW.to_cons, ZW.ss_nil, ZW.ss_cons, ZW.s_ex, ZW.s_asg, ZW.s_asgO, ZW.s_asgC, ZW.s_par, ZW.par_nil, ZW.par_t, ZW.par_f, ZW.kTup_tup, ZW.s_star, ZW.s_ret, ZW.kRF_fr, ZW.kRF_bw, ZW.s_retF, ZW.s_retN, ZW.s_iff, ZW.s_app, ZW.s_setO, ZW.kRef_ref, ZW.s_setR, ZW.s_frz, ZW.s_brk, ZW.s_cont, ZW.s_pass, ZW.bt_nm, ZW.bt_tp, ZW.bt_lp, ZW.bts_nil, ZW.bts_cons, ZW.kSeq_tup, ZW.kSeq_lst, ZW.kSeq_scr, ZW.kSeq_str, ZW.it_seq, ZW.it_rng, ZW.it_rng2, ZW.kZip_lst, ZW.kZip_tup, ZW.it_zip, ZW.kLst_lst, ZW.it_enum, ZW.tw_post, ZW.tx_post, ZW.s_for, ZW.e_comp, ZW.kT_nx, ZW.kT_cont, ZW.kT_brk, ZW.kT_ret, Z.setAll, List.set_cons_zero, List.set_cons_succ, if_true, if_false, Bool.false_eq_true, Option.bind_some, Option.map_some, Z.wipe, cl_nil, cl_cons, kOpt_s, Tgs.len, List.length_cons, List.length_nil, ix_lst, at_0, at_1, in2, c_eq, p_str, q_str, Bool.and_self, hn.in_, hb.in_, List.take, List.drop, List.cons_append, List.nil_append, g1, g2]
    exact q
  | was s =>
    intro k Q hk q
    obtain ⟨k, rfl⟩ := dpS hk
    rw [w_run (fn := f0) rfl rfl]
    rw [show startE f0 [(C.was s).d, dn, db] = [.val (.tup [.str wasS, .str s]), .val dn, .val db, .emp, .emp, .emp] from rfl]
    simp +decide only [f0, decide_true, decide_false, true_and, and_true, ZW.kO_some, ZW.kO_none, ZW.kO_map, ZW.kO_bind, ZW.kO_if, ZW.kS_nx, ZW.kS_ret, ZW.kS_brk, ZW.kS_cont, ZW.kB_bl, ZW.kI_int, ZW.kF_fr, ZW.kStr_str, ZW.kVar_val, ZW.kOwn_own, ZW.kRet_ret, ZW.kRet_nx, ZW.dg_v, ZW.dg_fr, ZW.wdg_v, ZW.wdg_fr, ZW.wdg_bw, ZW.get_0, ZW.get_s, ZW.e_var, ZW.e_own, ZW.e_int, ZW.e_bl, ZW.e_non, ZW.e_str, ZW.e_glo, ZW.e_tup, ZW.e_lst, ZW.e_bin, ZW.e_cmp, ZW.e_neg, ZW.e_not, ZW.e_and, ZW.e_or, ZW.e_ifE, ZW.e_idx, ZW.e_sl, ZW.e_call, ZW.e_bi, ZW.e_sset, ZW.e_isi, ZW.e_mth, ZW.op_no, ZW.op_yes, ZW.es_nil, ZW.es_cons, ZW.ws_nil, ZW.ws_cons, ZW.an_one, ZW.an_cons, ZW.or_one, ZW.or_cons, ZW.t_e, ZW.t_cmp', ZW.t_not', ZW.t_and', ZW.t_or', ZW.ts_nil, ZW.ts_cons, ZW.to_nil, ZW.to_cons, ZW.ss_nil, ZW.ss_cons, ZW.s_ex, ZW.s_asg, ZW.s_asgO, ZW.s_asgC, ZW.s_par, ZW.par_nil, ZW.par_t, ZW.par_f, ZW.kTup_tup, ZW.s_star, ZW.s_ret, ZW.kRF_fr, ZW.kRF_bw, ZW.s_retF, ZW.s_retN, ZW.s_iff, ZW.s_app, ZW.s_setO, ZW.kRef_ref, ZW.s_setR, ZW.s_frz, ZW.s_brk, ZW.s_cont, ZW.s_pass, ZW.bt_nm, ZW.bt_tp, ZW.bt_lp, ZW.bts_nil, ZW.bts_cons, ZW.kSeq_tup, ZW.kSeq_lst, ZW.kSeq_scr, ZW.kSeq_str, ZW.it_seq, ZW.it_rng, ZW.it_rng2, ZW.kZip_lst, ZW.kZip_tup, ZW.it_zip, ZW.kLst_lst, ZW.it_enum, ZW.tw_post, ZW.tx_post, ZW.s_for, ZW.e_comp, ZW.kT_nx, ZW.kT_cont, ZW.kT_brk, ZW.kT_ret, Z.setAll, List.set_cons_zero, List.set_cons_succ, if_true, if_false, Bool.false_eq_true, Option.bind_some, Option.map_some, Z.wipe, cl_nil, cl_cons, kOpt_s, Tgs.len, List.length_cons, List.length_nil, ix_lst, at_0, at_1, in2, c_eq, p_str, q_str, Bool.and_self, hn.in_, hb.in_, List.take, List.drop, List.cons_append, List.nil_append, g1, g2]
    exact q
  | not a ih =>
    intro k Q hk q
    obtain ⟨k, rfl⟩ := dpS hk
    have hk2 : a.dp + 1 ≤ k + 1 := hk
    rw [w_run (fn := f0) rfl rfl]
    rw [show startE f0 [(C.not a).d, dn, db] = [.val (.tup [.str notS, a.d]), .val dn, .val db, .emp, .emp, .emp] from rfl]
    simp +decide only [f0, decide_true, decide_false, true_and, and_true, ZW.kO_some, ZW.kO_none, ZW.kO_map, ZW.kO_bind, ZW.kO_if, ZW.kS_nx, ZW.kS_ret, ZW.kS_brk, ZW.kS_cont, ZW.kB_bl, ZW.kI_int, ZW.kF_fr, ZW.kStr_str, ZW.kVar_val, ZW.kOwn_own, ZW.kRet_ret, ZW.kRet_nx, ZW.dg_v, ZW.dg_fr, ZW.wdg_v, ZW.wdg_fr, ZW.wdg_bw, ZW.get_0, ZW.get_s, ZW.e_var, ZW.e_own, ZW.e_int, ZW.e_bl, ZW.e_non, ZW.e_str, ZW.e_glo, ZW.e_tup, ZW.e_lst, ZW.e_bin, ZW.e_cmp, ZW.e_neg, ZW.e_not, ZW.e_and, ZW.e_or, ZW.e_ifE, ZW.e_idx, ZW.e_sl, ZW.e_call, ZW.e_bi, ZW.e_sset, ZW.e_isi, ZW.e_mth, ZW.op_no, ZW.op_yes, ZW.es_nil, ZW.es_cons, ZW.ws_nil, ZW.ws_cons, ZW.an_one, ZW.an_cons, ZW.or_one, ZW.or_cons, ZW.t_e, ZW.t_cmp', ZW.t_not', ZW.t_and', ZW.t_or', ZW.ts_nil, ZW.ts_cons, ZW.to_nil, ZW.to_cons, ZW.ss_nil, ZW.ss_cons, ZW.s_ex, ZW.s_asg, ZW.s_asgO, ZW.s_asgC, ZW.s_par, ZW.par_nil, ZW.par_t, ZW.par_f, ZW.kTup_tup, ZW.s_star, ZW.s_ret, ZW.kRF_fr, ZW.kRF_bw, ZW.s_retF, ZW.s_retN, ZW.s_iff, ZW.s_app, ZW.s_setO, ZW.kRef_ref, ZW.s_setR, ZW.s_frz, ZW.s_brk, ZW.s_cont, ZW.s_pass, ZW.bt_nm, ZW.bt_tp, ZW.bt_lp, ZW.bts_nil, ZW.bts_cons, ZW.kSeq_tup, ZW.kSeq_lst, ZW.kSeq_scr, ZW.kSeq_str, ZW.it_seq, ZW.it_rng, ZW.it_rng2, ZW.kZip_lst, ZW.kZip_tup, ZW.it_zip, ZW.kLst_lst, ZW.it_enum, ZW.tw_post, ZW.tx_post, ZW.s_for, ZW.e_comp, ZW.kT_nx, ZW.kT_cont, ZW.kT_brk, ZW.kT_ret, Z.setAll, List.set_cons_zero, List.set_cons_succ, if_true, if_false, Bool.false_eq_true, Option.bind_some, Option.map_some, Z.wipe, cl_nil, cl_cons, kOpt_s, Tgs.len, List.length_cons, List.length_nil, ix_lst, at_0, at_1, in2, c_eq, p_str, q_str, Bool.and_self, hn.in_, hb.in_, List.take, List.drop, List.cons_append, List.nil_append, g1, g2]
    show (run fs G wf k 0 [a.d, dn, db] h).post _ XF
    refine ih k _ (by omega) ?_
    simp only [ZW.kO_some, ZW.kO_none, ZW.kO_map, ZW.kO_bind, ZW.kO_if, ZW.kS_nx, ZW.kS_ret, ZW.kS_brk, ZW.kS_cont, ZW.kB_bl, ZW.kI_int, ZW.kF_fr, ZW.kStr_str, ZW.kVar_val, ZW.kOwn_own, ZW.kRet_ret, ZW.kRet_nx, ZW.dg_v, ZW.dg_fr, ZW.wdg_v, ZW.wdg_fr, ZW.wdg_bw, ZW.get_0, ZW.get_s, ZW.e_var, ZW.e_own, ZW.e_int, ZW.e_bl, ZW.e_non, ZW.e_str, ZW.e_glo, ZW.e_tup, ZW.e_lst, ZW.e_bin, ZW.e_cmp, ZW.e_neg, ZW.e_not, ZW.e_and, ZW.e_or, ZW.e_ifE, ZW.e_idx, ZW.e_sl, ZW.e_call, ZW.e_bi, ZW.e_sset, ZW.e_isi, ZW.e_mth, ZW.op_no, ZW.op_yes, ZW.es_nil, ZW.es_cons, ZW.ws_nil, ZW.ws_cons, ZW.an_one, ZW.an_cons, ZW.or_one, ZW.or_cons, ZW.t_e, ZW.t_cmp', ZW.t_not', ZW.t_and', ZW.t_or', ZW.ts_nil, ZW.ts_cons, ZW.to_nil, ZW.to_cons, ZW.ss_nil, ZW.ss_cons, ZW.s_ex, ZW.s_asg, ZW.s_asgO, ZW.s_asgC, ZW.s_par, ZW.par_nil, ZW.par_t, ZW.par_f, ZW.kTup_tup, ZW.s_star, ZW.s_ret, ZW.kRF_fr, ZW.kRF_bw, ZW.s_retF, ZW.s_retN, ZW.s_iff, ZW.s_app, ZW.s_setO, ZW.kRef_ref, ZW.s_setR, ZW.s_frz, ZW.s_brk, ZW.s_cont, ZW.s_pass, ZW.bt_nm, ZW.bt_tp, ZW.bt_lp, ZW.bts_nil, ZW.bts_cons, ZW.kSeq_tup, ZW.kSeq_lst, ZW.kSeq_scr, ZW.kSeq_str, ZW.it_seq, ZW.it_rng, ZW.it_rng2, ZW.kZip_lst, ZW.kZip_tup, ZW.it_zip, ZW.kLst_lst, ZW.it_enum, ZW.tw_post, ZW.tx_post, ZW.s_for, ZW.e_comp, ZW.kT_nx, ZW.kT_cont, ZW.kT_brk, ZW.kT_ret, Z.setAll, List.set_cons_zero, List.set_cons_succ, if_true, if_false, Bool.false_eq_true, Option.bind_some, Option.map_some, Z.wipe]
    exact q
  | and a b ih1 ih2 =>
    intro k Q hk q
    obtain ⟨k, rfl⟩ := dpS hk
    have hk2 : max a.dp b.dp + 1 ≤ k + 1 := hk
    rw [w_run (fn := f0) rfl rfl]
    rw [show startE f0 [(C.and a b).d, dn, db] = [.val (.tup [.str andS, a.d, b.d]), .val dn, .val db, .emp, .emp, .emp] from rfl]
    simp +decide only [f0, decide_true, decide_false, true_and, and_true, ZW.kO_some, ZW.kO_none, ZW.kO_map, ZW.kO_bind, ZW.kO_if, ZW.kS_nx, ZW.kS_ret, ZW.kS_brk, ZW.kS_cont, ZW.kB_bl, ZW.kI_int, ZW.kF_fr, ZW.kStr_str, ZW.kVar_val, ZW.kOwn_own, ZW.kRet_ret, ZW.kRet_nx, ZW.dg_v, ZW.dg_fr, ZW.wdg_v, ZW.wdg_fr, ZW.wdg_bw, ZW.get_0, ZW.get_s, ZW.e_var, ZW.e_own, ZW.e_int, ZW.e_bl, ZW.e_non, ZW.e_str, ZW.e_glo, ZW.e_tup, ZW.e_lst, ZW.e_bin, ZW.e_cmp, ZW.e_neg, ZW.e_not, ZW.e_and, ZW.e_or, ZW.e_ifE, ZW.e_idx, ZW.e_sl, ZW.e_call, ZW.e_bi, ZW.e_sset, ZW.e_isi, ZW.e_mth, ZW.op_no, ZW.op_yes, ZW.es_nil, ZW.es_cons, ZW.ws_nil, ZW.ws_cons, ZW.an_one, ZW.an_cons, ZW.or_one, ZW.or_cons, ZW.t_e, ZW.t_cmp', ZW.t_not', ZW.t_and', ZW.t_or', ZW.ts_nil, ZW.ts_cons, ZW.to_nil, ZW.to_cons, ZW.ss_nil, ZW.ss_cons, ZW.s_ex, ZW.s_asg, ZW.s_asgO, ZW.s_asgC, ZW.s_par, ZW.par_nil, ZW.par_t, ZW.par_f, ZW.kTup_tup, ZW.s_star, ZW.s_ret, ZW.kRF_fr, ZW.kRF_bw, ZW.s_retF, ZW.s_retN, ZW.s_iff, ZW.s_app, ZW.s_setO, ZW.kRef_ref, ZW.s_setR, ZW.s_frz, ZW.s_brk, ZW.s_cont, ZW.s_pass, ZW.bt_nm, ZW.bt_tp, ZW.bt_lp, ZW.bts_nil, ZW.bts_cons, ZW.kSeq_tup, ZW.kSeq_lst, ZW.kSeq_scr, ZW.kSeq_str, ZW.it_seq, ZW.it_rng, ZW.it_rng2, ZW.kZip_lst, ZW.kZip_tup, ZW.it_zip, ZW.kLst_lst, ZW.it_enum, ZW.tw_post, ZW.tx_post, ZW.s_for, ZW.e_comp, ZW.kT_nx, ZW.kT_cont, ZW.kT_brk, ZW.kT_ret, Z.setAll, List.set_cons_zero, List.set_cons_succ, if_true, if_false, Bool.false_eq_true, Option.bind_some, Option.map_some, Z.wipe, cl_nil, cl_cons, kOpt_s, Tgs.len, List.length_cons, List.length_nil, ix_lst, at_0, at_1, in2, c_eq, p_str, q_str, Bool.and_self, hn.in_, hb.in_, List.take, List.drop, List.cons_append, List.nil_append, g1, g2]
    show (run fs G wf k 0 [a.d, dn, db] h).post _ XF
    refine ih1 k _ (by omega) ?_
    simp +decide only [decide_true, decide_false, true_and, ZW.kO_some, ZW.kO_none, ZW.kO_map, ZW.kO_bind, ZW.kO_if, ZW.kS_nx, ZW.kS_ret, ZW.kS_brk, ZW.kS_cont, ZW.kB_bl, ZW.kI_int, ZW.kF_fr, ZW.kStr_str, ZW.kVar_val, ZW.kOwn_own, ZW.kRet_ret, ZW.kRet_nx, ZW.dg_v, ZW.dg_fr, ZW.wdg_v, ZW.wdg_fr, ZW.wdg_bw, ZW.get_0, ZW.get_s, ZW.e_var, ZW.e_own, ZW.e_int, ZW.e_bl, ZW.e_non, ZW.e_str, ZW.e_glo, ZW.e_tup, ZW.e_lst, ZW.e_bin, ZW.e_cmp, ZW.e_neg, ZW.e_not, ZW.e_and, ZW.e_or, ZW.e_ifE, ZW.e_idx, ZW.e_sl, ZW.e_call, ZW.e_bi, ZW.e_sset, ZW.e_isi, ZW.e_mth, ZW.op_no, ZW.op_yes, ZW.es_nil, ZW.es_cons, ZW.ws_nil, ZW.ws_cons, ZW.an_one, ZW.an_cons, ZW.or_one, ZW.or_cons, ZW.t_e, ZW.t_cmp', ZW.t_not', ZW.t_and', ZW.t_or', ZW.ts_nil, ZW.ts_cons, ZW.to_nil, ZW.to_cons, ZW.ss_nil, ZW.ss_cons, ZW.s_ex, ZW.s_asg, ZW.s_asgO, ZW.s_asgC, ZW.s_par, ZW.par_nil, ZW.par_t, ZW.par_f, ZW.kTup_tup, ZW.s_star, ZW.s_ret, ZW.kRF_fr, ZW.kRF_bw, ZW.s_retF, ZW.s_retN, ZW.s_iff, ZW.s_app, ZW.s_setO, ZW.kRef_ref, ZW.s_setR, ZW.s_frz, ZW.s_brk, ZW.s_cont, ZW.s_pass, ZW.bt_nm, ZW.bt_tp, ZW.bt_lp, ZW.bts_nil, ZW.bts_cons, ZW.kSeq_tup, ZW.kSeq_lst, ZW.kSeq_scr, ZW.kSeq_str, ZW.it_seq, ZW.it_rng, ZW.it_rng2, ZW.kZip_lst, ZW.kZip_tup, ZW.it_zip, ZW.kLst_lst, ZW.it_enum, ZW.tw_post, ZW.tx_post, ZW.s_for, ZW.e_comp, ZW.kT_nx, ZW.kT_cont, ZW.kT_brk, ZW.kT_ret, Z.setAll, List.set_cons_zero, List.set_cons_succ, if_true, if_false, Bool.false_eq_true, Option.bind_some, Option.map_some, Z.wipe, cl_nil, cl_cons, kOpt_s]
    show (run fs G wf k 0 [b.d, dn, db] h).post _ XF
    refine ih2 k _ (by omega) ?_
    simp +decide only [decide_true, decide_false, true_and, ZW.kO_some, ZW.kO_none, ZW.kO_map, ZW.kO_bind, ZW.kO_if, ZW.kS_nx, ZW.kS_ret, ZW.kS_brk, ZW.kS_cont, ZW.kB_bl, ZW.kI_int, ZW.kF_fr, ZW.kStr_str, ZW.kVar_val, ZW.kOwn_own, ZW.kRet_ret, ZW.kRet_nx, ZW.dg_v, ZW.dg_fr, ZW.wdg_v, ZW.wdg_fr, ZW.wdg_bw, ZW.get_0, ZW.get_s, ZW.e_var, ZW.e_own, ZW.e_int, ZW.e_bl, ZW.e_non, ZW.e_str, ZW.e_glo, ZW.e_tup, ZW.e_lst, ZW.e_bin, ZW.e_cmp, ZW.e_neg, ZW.e_not, ZW.e_and, ZW.e_or, ZW.e_ifE, ZW.e_idx, ZW.e_sl, ZW.e_call, ZW.e_bi, ZW.e_sset, ZW.e_isi, ZW.e_mth, ZW.op_no, ZW.op_yes, ZW.es_nil, ZW.es_cons, ZW.ws_nil, ZW.ws_cons, ZW.an_one, ZW.an_cons, ZW.or_one, ZW.or_cons, ZW.t_e, ZW.t_cmp', ZW.t_not', ZW.t_and', ZW.t_or', ZW.ts_nil, ZW.ts_cons, ZW.to_nil, ZW.to_cons, ZW.ss_nil, ZW.ss_cons, ZW.s_ex, ZW.s_asg, ZW.s_asgO, ZW.s_asgC, ZW.s_par, ZW.par_nil, ZW.par_t, ZW.par_f, ZW.kTup_tup, ZW.s_star, ZW.s_ret, ZW.kRF_fr, ZW.kRF_bw, ZW.s_retF, ZW.s_retN, ZW.s_iff, ZW.s_app, ZW.s_setO, ZW.kRef_ref, ZW.s_setR, ZW.s_frz, ZW.s_brk, ZW.s_cont, ZW.s_pass, ZW.bt_nm, ZW.bt_tp, ZW.bt_lp, ZW.bts_nil, ZW.bts_cons, ZW.kSeq_tup, ZW.kSeq_lst, ZW.kSeq_scr, ZW.kSeq_str, ZW.it_seq, ZW.it_rng, ZW.it_rng2, ZW.kZip_lst, ZW.kZip_tup, ZW.it_zip, ZW.kLst_lst, ZW.it_enum, ZW.tw_post, ZW.tx_post, ZW.s_for, ZW.e_comp, ZW.kT_nx, ZW.kT_cont, ZW.kT_brk, ZW.kT_ret, Z.setAll, List.set_cons_zero, List.set_cons_succ, if_true, if_false, Bool.false_eq_true, Option.bind_some, Option.map_some, Z.wipe, cl_nil, cl_cons, kOpt_s, List.length_cons, List.length_nil, m_all2, m_any2]
    exact q
  | or a b ih1 ih2 =>
    intro k Q hk q
    obtain ⟨k, rfl⟩ := dpS hk
    have hk2 : max a.dp b.dp + 1 ≤ k + 1 := hk
    rw [w_run (fn := f0) rfl rfl]
    rw [show startE f0 [(C.or a b).d, dn, db] = [.val (.tup [.str orS, a.d, b.d]), .val dn, .val db, .emp, .emp, .emp] from rfl]
    simp +decide only [f0, decide_true, decide_false, true_and, and_true, ZW.kO_some, ZW.kO_none, ZW.kO_map, ZW.kO_bind, ZW.kO_if, ZW.kS_nx, ZW.kS_ret, ZW.kS_brk, ZW.kS_cont, ZW.kB_bl, ZW.kI_int, ZW.kF_fr, ZW.kStr_str, ZW.kVar_val, ZW.kOwn_own, ZW.kRet_ret, ZW.kRet_nx, ZW.dg_v, ZW.dg_fr, ZW.wdg_v, ZW.wdg_fr, ZW.wdg_bw, ZW.get_0, ZW.get_s, ZW.e_var, ZW.e_own, ZW.e_int, ZW.e_bl, ZW.e_non, ZW.e_str, ZW.e_glo, ZW.e_tup, ZW.e_lst, ZW.e_bin, ZW.e_cmp, ZW.e_neg, ZW.e_not, ZW.e_and, ZW.e_or, ZW.e_ifE, ZW.e_idx, ZW.e_sl, ZW.e_call, ZW.e_bi, ZW.e_sset, ZW.e_isi, ZW.e_mth, ZW.op_no, ZW.op_yes, ZW.es_nil, ZW.es_cons, ZW.ws_nil, ZW.ws_cons, ZW.an_one, ZW.an_cons, ZW.or_one, ZW.or_cons, ZW.t_e, ZW.t_cmp', ZW.t_not', ZW.t_and', ZW.t_or', ZW.ts_nil, ZW.ts_cons, ZW.to_nil, ZW.to_cons, ZW.ss_nil, ZW.ss_cons, ZW.s_ex, ZW.s_asg, ZW.s_asgO, ZW.s_asgC, ZW.s_par, ZW.par_nil, ZW.par_t, ZW.par_f, ZW.kTup_tup, ZW.s_star, ZW.s_ret, ZW.kRF_fr, ZW.kRF_bw, ZW.s_retF, ZW.s_retN, ZW.s_iff, ZW.s_app, ZW.s_setO, ZW.kRef_ref, ZW.s_setR, ZW.s_frz, ZW.s_brk, ZW.s_cont, ZW.s_pass, ZW.bt_nm, ZW.bt_tp, ZW.bt_lp, ZW.bts_nil, ZW.bts_cons, ZW.kSeq_tup, ZW.kSeq_lst, ZW.kSeq_scr, ZW.kSeq_str, ZW.it_seq, ZW.it_rng, ZW.it_rng2, ZW.kZip_lst, ZW.kZip_tup, ZW.it_zip, ZW.kLst_lst, ZW.it_enum, ZW.tw_post, ZW.tx_post, ZW.s_for, ZW.e_comp, ZW.kT_nx, ZW.kT_cont, ZW.kT_brk, ZW.kT_ret, Z.setAll, List.set_cons_zero, List.set_cons_succ, if_true, if_false, Bool.false_eq_true, Option.bind_some, Option.map_some, Z.wipe, cl_nil, cl_cons, kOpt_s, Tgs.len, List.length_cons, List.length_nil, ix_lst, at_0, at_1, in2, c_eq, p_str, q_str, Bool.and_self, hn.in_, hb.in_, List.take, List.drop, List.cons_append, List.nil_append, g1, g2]
    show (run fs G wf k 0 [a.d, dn, db] h).post _ XF
    refine ih1 k _ (by omega) ?_
    simp +decide only [decide_true, decide_false, true_and, ZW.kO_some, ZW.kO_none, ZW.kO_map, ZW.kO_bind, ZW.kO_if, ZW.kS_nx, ZW.kS_ret, ZW.kS_brk, ZW.kS_cont, ZW.kB_bl, ZW.kI_int, ZW.kF_fr, ZW.kStr_str, ZW.kVar_val, ZW.kOwn_own, ZW.kRet_ret, ZW.kRet_nx, ZW.dg_v, ZW.dg_fr, ZW.wdg_v, ZW.wdg_fr, ZW.wdg_bw, ZW.get_0, ZW.get_s, ZW.e_var, ZW.e_own, ZW.e_int, ZW.e_bl, ZW.e_non, ZW.e_str, ZW.e_glo, ZW.e_tup, ZW.e_lst, ZW.e_bin, ZW.e_cmp, ZW.e_neg, ZW.e_not, ZW.e_and, ZW.e_or, ZW.e_ifE, ZW.e_idx, ZW.e_sl, ZW.e_call, ZW.e_bi, ZW.e_sset, ZW.e_isi, ZW.e_mth, ZW.op_no, ZW.op_yes, ZW.es_nil, ZW.es_cons, ZW.ws_nil, ZW.ws_cons, ZW.an_one, ZW.an_cons, ZW.or_one, ZW.or_cons, ZW.t_e, ZW.t_cmp', ZW.t_not', ZW.t_and', ZW.t_or', ZW.ts_nil, ZW.ts_cons, ZW.to_nil, ZW.to_cons, ZW.ss_nil, ZW.ss_cons, ZW.s_ex, ZW.s_asg, ZW.s_asgO, ZW.s_asgC, ZW.s_par, ZW.par_nil, ZW.par_t, ZW.par_f, ZW.kTup_tup, ZW.s_star, ZW.s_ret, ZW.kRF_fr, ZW.kRF_bw, ZW.s_retF, ZW.s_retN, ZW.s_iff, ZW.s_app, ZW.s_setO, ZW.kRef_ref, ZW.s_setR, ZW.s_frz, ZW.s_brk, ZW.s_cont, ZW.s_pass, ZW.bt_nm, ZW.bt_tp, ZW.bt_lp, ZW.bts_nil, ZW.bts_cons, ZW.kSeq_tup, ZW.kSeq_lst, ZW.kSeq_scr, ZW.kSeq_str, ZW.it_seq, ZW.it_rng, ZW.it_rng2, ZW.kZip_lst, ZW.kZip_tup, ZW.it_zip, ZW.kLst_lst, ZW.it_enum, ZW.tw_post, ZW.tx_post, ZW.s_for, ZW.e_comp, ZW.kT_nx, ZW.kT_cont, ZW.kT_brk, ZW.kT_ret, Z.setAll, List.set_cons_zero, List.set_cons_succ, if_true, if_false, Bool.false_eq_true, Option.bind_some, Option.map_some, Z.wipe, cl_nil, cl_cons, kOpt_s]
    show (run fs G wf k 0 [b.d, dn, db] h).post _ XF
    refine ih2 k _ (by omega) ?_
    simp +decide only [decide_true, decide_false, true_and, ZW.kO_some, ZW.kO_none, ZW.kO_map, ZW.kO_bind, ZW.kO_if, ZW.kS_nx, ZW.kS_ret, ZW.kS_brk, ZW.kS_cont, ZW.kB_bl, ZW.kI_int, ZW.kF_fr, ZW.kStr_str, ZW.kVar_val, ZW.kOwn_own, ZW.kRet_ret, ZW.kRet_nx, ZW.dg_v, ZW.dg_fr, ZW.wdg_v, ZW.wdg_fr, ZW.wdg_bw, ZW.get_0, ZW.get_s, ZW.e_var, ZW.e_own, ZW.e_int, ZW.e_bl, ZW.e_non, ZW.e_str, ZW.e_glo, ZW.e_tup, ZW.e_lst, ZW.e_bin, ZW.e_cmp, ZW.e_neg, ZW.e_not, ZW.e_and, ZW.e_or, ZW.e_ifE, ZW.e_idx, ZW.e_sl, ZW.e_call, ZW.e_bi, ZW.e_sset, ZW.e_isi, ZW.e_mth, ZW.op_no, ZW.op_yes, ZW.es_nil, ZW.es_cons, ZW.ws_nil, ZW.ws_cons, ZW.an_one, ZW.an_cons, ZW.or_one, ZW.or_cons, ZW.t_e, ZW.t_cmp', ZW.t_not', ZW.t_and', ZW.t_or', ZW.ts_nil, ZW.ts_cons, ZW.to_nil, ZW.to_cons, ZW.ss_nil, ZW.ss_cons, ZW.s_ex, ZW.s_asg, ZW.s_asgO, ZW.s_asgC, ZW.s_par, ZW.par_nil, ZW.par_t, ZW.par_f, ZW.kTup_tup, ZW.s_star, ZW.s_ret, ZW.kRF_fr, ZW.kRF_bw, ZW.s_retF, ZW.s_retN, ZW.s_iff, ZW.s_app, ZW.s_setO, ZW.kRef_ref, ZW.s_setR, ZW.s_frz, ZW.s_brk, ZW.s_cont, ZW.s_pass, ZW.bt_nm, ZW.bt_tp, ZW.bt_lp, ZW.bts_nil, ZW.bts_cons, ZW.kSeq_tup, ZW.kSeq_lst, ZW.kSeq_scr, ZW.kSeq_str, ZW.it_seq, ZW.it_rng, ZW.it_rng2, ZW.kZip_lst, ZW.kZip_tup, ZW.it_zip, ZW.kLst_lst, ZW.it_enum, ZW.tw_post, ZW.tx_post, ZW.s_for, ZW.e_comp, ZW.kT_nx, ZW.kT_cont, ZW.kT_brk, ZW.kT_ret, Z.setAll, List.set_cons_zero, List.set_cons_succ, if_true, if_false, Bool.false_eq_true, Option.bind_some, Option.map_some, Z.wipe, cl_nil, cl_cons, kOpt_s, List.length_cons, List.length_nil, m_all2, m_any2]
    exact q
/-- the last list left out -/
theorem at_bare (hn : Nm dn N) (c : C) (k : Nat) (Q : Rv → LH → Prop) (hk : c.dp ≤ k) (q : Q (.v (.bl (c.ev N []))) h) : (run fs G wf k 0 [c.d, dn] h).post Q XF := by
  obtain ⟨j, rfl⟩ := dpS hk
  have e : run fs G wf (j + 1) 0 [c.d, dn] h = run fs G wf (j + 1) 0 [c.d, dn, .tup []] h := rfl
  rw [e]
  exact at_ok (B := []) hn (.inl rfl) c (j + 1) Q hk q
theorem same_bl {k : Nat} {x : Bool} {Q : Rv → LH → Prop} (q : Q (.v (.bl true)) h) : (run fs G wf (k + 1) 7 [.bl x, .bl x] h).post Q XF := by
  rw [w_run (fn := f7) rfl rfl]
  rw [show startE f7 [.bl x, .bl x] = [.val (.bl x), .val (.bl x), .emp, .emp] from rfl]
  have e1 : isiD h (.bl x) ["list", "tuple"] = some false := rfl
  have e2 : isiD h (.bl x) ["bool", "str"] = some true := rfl
  have e3 : isiD h (.bl x) ["bool"] = some true := rfl
  have e4 : cmpD h .is_ (.bl x) .non = some false := rfl
  have e5 : (x == x) = true := beq_self_eq_true x
  simp +decide only [f7, decide_true, decide_false, true_and, and_true, ZW.kO_some, ZW.kO_none, ZW.kO_map, ZW.kO_bind, ZW.kO_if, ZW.kS_nx, ZW.kS_ret, ZW.kS_brk, ZW.kS_cont, ZW.kB_bl, ZW.kI_int, ZW.kF_fr, ZW.kStr_str, ZW.kVar_val, ZW.kOwn_own, ZW.kRet_ret, ZW.kRet_nx, ZW.dg_v, ZW.dg_fr, ZW.wdg_v, ZW.wdg_fr, ZW.wdg_bw, ZW.get_0, ZW.get_s, ZW.e_var, ZW.e_own, ZW.e_int, ZW.e_bl, ZW.e_non, ZW.e_str, ZW.e_glo, ZW.e_tup, ZW.e_lst, ZW.e_bin, ZW.e_cmp, ZW.e_neg, ZW.e_not, ZW.e_and, ZW.e_or, ZW.e_ifE, ZW.e_idx, ZW.e_sl, ZW.e_call, ZW.e_bi, ZW.e_sset, ZW.e_isi, ZW.e_mth, ZW.op_no, ZW.op_yes, ZW.es_nil, ZW.es_cons, ZW.ws_nil, ZW.ws_cons, ZW.an_one, ZW.an_cons, ZW.or_one, ZW.or_cons, ZW.t_e, ZW.t_cmp', ZW.t_not', ZW.t_and', ZW.t_or', ZW.ts_nil, ZW.ts_cons, ZW.to_nil, ZW.to_cons, ZW.ss_nil, ZW.ss_cons, ZW.s_ex, ZW.s_asg, ZW.s_asgO, ZW.s_asgC, ZW.s_par, ZW.par_nil, ZW.par_t, ZW.par_f, ZW.kTup_tup, ZW.s_star, ZW.s_ret, ZW.kRF_fr, ZW.kRF_bw, ZW.s_retF, ZW.s_retN, ZW.s_iff, ZW.s_app, ZW.s_setO, ZW.kRef_ref, ZW.s_setR, ZW.s_frz, ZW.s_brk, ZW.s_cont, ZW.s_pass, ZW.bt_nm, ZW.bt_tp, ZW.bt_lp, ZW.bts_nil, ZW.bts_cons, ZW.kSeq_tup, ZW.kSeq_lst, ZW.kSeq_scr, ZW.kSeq_str, ZW.it_seq, ZW.it_rng, ZW.it_rng2, ZW.kZip_lst, ZW.kZip_tup, ZW.it_zip, ZW.kLst_lst, ZW.it_enum, ZW.tw_post, ZW.tx_post, ZW.s_for, ZW.e_comp, ZW.kT_nx, ZW.kT_cont, ZW.kT_brk, ZW.kT_ret, Z.setAll, List.set_cons_zero, List.set_cons_succ, if_true, if_false, Bool.false_eq_true, Option.bind_some, Option.map_some, Z.wipe, e1, e2, e3, e4, c_eq, p_bl, q_bl, e5, Bool.and_self]
  exact q
end
end K03
end

section
namespace K03
open Z ZW
section
variable {wf n : Nat} {h : LH} {Q : Rv → LH → Prop}
theorem zip_self : ∀ (bs : List Bool) (d : D), d ∈ zipL (bs.map .bl) (bs.map .bl) → ∃ x, d = .tup [.bl x, .bl x]
  | [], d, hd => nomatch hd
  | x :: r, d, hd => by
    rcases List.mem_cons.mp (show d ∈ D.tup [.bl x, .bl x] :: zipL (r.map .bl) (r.map .bl) from hd) with rfl | z
    · exact ⟨x, rfl⟩
    · exact zip_self r d z
theorem zip_all : ∀ (bs : List Bool), (zipL (bs.map .bl) (bs.map .bl)).filterMap (fun _ => some (D.bl true)) = (bs.map fun _ => true).map .bl
  | [] => rfl
  | x :: r => by
    show D.bl true :: (zipL (r.map .bl) (r.map .bl)).filterMap _ = _
    rw [zip_all r]
    rfl
theorem same_lst {k : Nat} (bs : List Bool) (hl : bs.length ≤ 64) (q : Q (.v (.bl true)) h) : (run fs G wf (k + 2) 7 [.lst (bs.map .bl), .lst (bs.map .bl)] h).post Q XF := by
  rw [w_run (fn := f7) rfl rfl]
  rw [show startE f7 [.lst (bs.map .bl), .lst (bs.map .bl)] = [.val (.lst (bs.map .bl)), .val (.lst (bs.map .bl)), .emp, .emp] from rfl]
  have e1 : isiD h (.lst (bs.map .bl)) ["list", "tuple"] = some true := rfl
  have e2 : isiD h (.lst (bs.map .bl)) ["list"] = some true := rfl
  have e3 : isiD h (.lst (bs.map .bl)) ["tuple"] = some false := rfl
  simp +decide only [f7, decide_true, decide_false, true_and, and_true, ZW.kO_some, ZW.kO_none, ZW.kO_map, ZW.kO_bind, ZW.kO_if, ZW.kS_nx, ZW.kS_ret, ZW.kS_brk, ZW.kS_cont, ZW.kB_bl, ZW.kI_int, ZW.kF_fr, ZW.kStr_str, ZW.kVar_val, ZW.kOwn_own, ZW.kRet_ret, ZW.kRet_nx, ZW.dg_v, ZW.dg_fr, ZW.wdg_v, ZW.wdg_fr, ZW.wdg_bw, ZW.get_0, ZW.get_s, ZW.e_var, ZW.e_own, ZW.e_int, ZW.e_bl, ZW.e_non, ZW.e_str, ZW.e_glo, ZW.e_tup, ZW.e_lst, ZW.e_bin, ZW.e_cmp, ZW.e_neg, ZW.e_not, ZW.e_and, ZW.e_or, ZW.e_ifE, ZW.e_idx, ZW.e_sl, ZW.e_call, ZW.e_bi, ZW.e_sset, ZW.e_isi, ZW.e_mth, ZW.op_no, ZW.op_yes, ZW.es_nil, ZW.es_cons, ZW.ws_nil, ZW.ws_cons, ZW.an_one, ZW.an_cons, ZW.or_one, ZW.or_cons, ZW.t_e, ZW.t_cmp', ZW.t_not', ZW.t_and', ZW.t_or', ZW.ts_nil, ZW.ts_cons, ZW.to_nil, ZW.to_cons, ZW.ss_nil, ZW.ss_cons, ZW.s_ex, ZW.s_asg, ZW.s_asgO, ZW.s_asgC, ZW.s_par, ZW.par_nil, ZW.par_t, ZW.par_f, ZW.kTup_tup, ZW.s_star, ZW.s_ret, ZW.kRF_fr, ZW.kRF_bw, ZW.s_retF, ZW.s_retN, ZW.s_iff, ZW.s_app, ZW.s_setO, ZW.kRef_ref, ZW.s_setR, ZW.s_frz, ZW.s_brk, ZW.s_cont, ZW.s_pass, ZW.bt_nm, ZW.bt_tp, ZW.bt_lp, ZW.bts_nil, ZW.bts_cons, ZW.kSeq_tup, ZW.kSeq_lst, ZW.kSeq_scr, ZW.kSeq_str, ZW.it_seq, ZW.it_rng, ZW.it_rng2, ZW.kZip_lst, ZW.kZip_tup, ZW.it_zip, ZW.kLst_lst, ZW.it_enum, ZW.tw_post, ZW.tx_post, ZW.s_for, ZW.e_comp, ZW.kT_nx, ZW.kT_cont, ZW.kT_brk, ZW.kT_ret, Z.setAll, List.set_cons_zero, List.set_cons_succ, if_true, if_false, Bool.false_eq_true, Option.bind_some, Option.map_some, Z.wipe, e1, e2, e3, c_eq, c_ne, p_bl, q_bl, p_int, q_int, m_len, beq_self_eq_true, Bool.and_self, Bool.not_true, Bool.not_false]
  refine w_comp_pure (g := fun _ => some (.bl true)) _ (fun d hd R hR => ?_) ?_
  · obtain ⟨x, rfl⟩ := zip_self bs d hd
    simp +decide only [ZW.kO_some, ZW.kO_none, ZW.kO_map, ZW.kO_bind, ZW.kO_if, ZW.kS_nx, ZW.kS_ret, ZW.kS_brk, ZW.kS_cont, ZW.kB_bl, ZW.kI_int, ZW.kF_fr, ZW.kStr_str, ZW.kVar_val, ZW.kOwn_own, ZW.kRet_ret, ZW.kRet_nx, ZW.dg_v, ZW.dg_fr, ZW.wdg_v, ZW.wdg_fr, ZW.wdg_bw, ZW.get_0, ZW.get_s, ZW.e_var, ZW.e_own, ZW.e_int, ZW.e_bl, ZW.e_non, ZW.e_str, ZW.e_glo, ZW.e_tup, ZW.e_lst, ZW.e_bin, ZW.e_cmp, ZW.e_neg, ZW.e_not, ZW.e_and, ZW.e_or, ZW.e_ifE, ZW.e_idx, ZW.e_sl, ZW.e_call, ZW.e_bi, ZW.e_sset, ZW.e_isi, ZW.e_mth, ZW.op_no, ZW.op_yes, ZW.es_nil, ZW.es_cons, ZW.ws_nil, ZW.ws_cons, ZW.an_one, ZW.an_cons, ZW.or_one, ZW.or_cons, ZW.t_e, ZW.t_cmp', ZW.t_not', ZW.t_and', ZW.t_or', ZW.ts_nil, ZW.ts_cons, ZW.to_nil, ZW.to_cons, ZW.ss_nil, ZW.ss_cons, ZW.s_ex, ZW.s_asg, ZW.s_asgO, ZW.s_asgC, ZW.s_par, ZW.par_nil, ZW.par_t, ZW.par_f, ZW.kTup_tup, ZW.s_star, ZW.s_ret, ZW.kRF_fr, ZW.kRF_bw, ZW.s_retF, ZW.s_retN, ZW.s_iff, ZW.s_app, ZW.s_setO, ZW.kRef_ref, ZW.s_setR, ZW.s_frz, ZW.s_brk, ZW.s_cont, ZW.s_pass, ZW.bt_nm, ZW.bt_tp, ZW.bt_lp, ZW.bts_nil, ZW.bts_cons, ZW.kSeq_tup, ZW.kSeq_lst, ZW.kSeq_scr, ZW.kSeq_str, ZW.it_seq, ZW.it_rng, ZW.it_rng2, ZW.kZip_lst, ZW.kZip_tup, ZW.it_zip, ZW.kLst_lst, ZW.it_enum, ZW.tw_post, ZW.tx_post, ZW.s_for, ZW.e_comp, ZW.kT_nx, ZW.kT_cont, ZW.kT_brk, ZW.kT_ret, Z.setAll, List.set_cons_zero, List.set_cons_succ, if_true, if_false, Bool.false_eq_true, Option.bind_some, Option.map_some, Z.wipe, decide_true, true_and]
    exact same_bl hR
  · rw [zip_all]
    refine ⟨by rw [List.length_map, List.length_map]; unfold szL; omega, ?_⟩
    simp only [ZW.kO_some, ZW.kO_none, ZW.kO_map, ZW.kO_bind, ZW.kO_if, ZW.kS_nx, ZW.kS_ret, ZW.kS_brk, ZW.kS_cont, ZW.kB_bl, ZW.kI_int, ZW.kF_fr, ZW.kStr_str, ZW.kVar_val, ZW.kOwn_own, ZW.kRet_ret, ZW.kRet_nx, ZW.dg_v, ZW.dg_fr, ZW.wdg_v, ZW.wdg_fr, ZW.wdg_bw, ZW.get_0, ZW.get_s, ZW.e_var, ZW.e_own, ZW.e_int, ZW.e_bl, ZW.e_non, ZW.e_str, ZW.e_glo, ZW.e_tup, ZW.e_lst, ZW.e_bin, ZW.e_cmp, ZW.e_neg, ZW.e_not, ZW.e_and, ZW.e_or, ZW.e_ifE, ZW.e_idx, ZW.e_sl, ZW.e_call, ZW.e_bi, ZW.e_sset, ZW.e_isi, ZW.e_mth, ZW.op_no, ZW.op_yes, ZW.es_nil, ZW.es_cons, ZW.ws_nil, ZW.ws_cons, ZW.an_one, ZW.an_cons, ZW.or_one, ZW.or_cons, ZW.t_e, ZW.t_cmp', ZW.t_not', ZW.t_and', ZW.t_or', ZW.ts_nil, ZW.ts_cons, ZW.to_nil, ZW.to_cons, ZW.ss_nil, ZW.ss_cons, ZW.s_ex, ZW.s_asg, ZW.s_asgO, ZW.s_asgC, ZW.s_par, ZW.par_nil, ZW.par_t, ZW.par_f, ZW.kTup_tup, ZW.s_star, ZW.s_ret, ZW.kRF_fr, ZW.kRF_bw, ZW.s_retF, ZW.s_retN, ZW.s_iff, ZW.s_app, ZW.s_setO, ZW.kRef_ref, ZW.s_setR, ZW.s_frz, ZW.s_brk, ZW.s_cont, ZW.s_pass, ZW.bt_nm, ZW.bt_tp, ZW.bt_lp, ZW.bts_nil, ZW.bts_cons, ZW.kSeq_tup, ZW.kSeq_lst, ZW.kSeq_scr, ZW.kSeq_str, ZW.it_seq, ZW.it_rng, ZW.it_rng2, ZW.kZip_lst, ZW.kZip_tup, ZW.it_zip, ZW.kLst_lst, ZW.it_enum, ZW.tw_post, ZW.tx_post, ZW.s_for, ZW.e_comp, ZW.kT_nx, ZW.kT_cont, ZW.kT_brk, ZW.kT_ret, Z.setAll, List.set_cons_zero, List.set_cons_succ, if_true, if_false, Bool.false_eq_true, Option.bind_some, Option.map_some, Z.wipe, m_all]
    rw [show (bs.map fun _ => true).all id = true by induction bs with
      | nil => rfl
      | cons x r ih => simp]
    exact q
theorem mul3 {x : D} : binD .mul (.lst [x]) (.int 3) = some (.fr [x, x, x]) := by
  rw [b_mulL, if_pos ⟨by decide, by decide, by show 1 * 3 ≤ szL; decide⟩]
  rfl
theorem mul2 {x : D} : binD .mul (.lst [x]) (.int 2) = some (.fr [x, x]) := by
  rw [b_mulL, if_pos ⟨by decide, by decide, by show 1 * 2 ≤ szL; decide⟩]
  rfl
theorem eq_strs : ∀ xs : List (List Nat), eqDs (xs.map .str) (xs.map .str) = true
  | [] => rfl
  | x :: r => by
    rw [List.map_cons]
    unfold eqDs
    rw [eq_strs r, q_str]
    simp
theorem eq2 {N B : List (List Nat)} : cmpD h .eq (.lst [.lst (N.map .str), .lst (B.map .str)]) (.lst [.lst (N.map .str), .lst (B.map .str)]) = some true := by
  have e1 : plain 59 (.lst (N.map D.str)) = true := p_strs N
  have e2 : plain 59 (.lst (B.map D.str)) = true := p_strs B
  have e3 : plain 60 (.lst [.lst (N.map .str), .lst (B.map .str)]) = true := by
    unfold plain
    unfold plains
    unfold plains
    unfold plains
    rw [e1, e2]
    rfl
  rw [c_eq, e3]
  have e4 : eqD (.lst (N.map .str)) (.lst (N.map .str)) = true := by unfold eqD; exact eq_strs N
  have e5 : eqD (.lst (B.map .str)) (.lst (B.map .str)) = true := by unfold eqD; exact eq_strs B
  have e6 : eqD (.lst [.lst (N.map .str), .lst (B.map .str)]) (.lst [.lst (N.map .str), .lst (B.map .str)]) = true := by
    unfold eqD
    unfold eqDs
    unfold eqDs
    unfold eqDs
    rw [e4, e5]
    rfl
  rw [e6]
  rfl
theorem right_ok {N B : List (List Nat)} (c : C) {k : Nat} (hk : c.dp ≤ k) (q : Q (.v (.bl true)) h) : (run fs G wf (k + 3) 12 [c.d, .tup (N.map .str), .tup (B.map .str)] h).post Q XF := by
  rw [w_run (fn := f12) rfl rfl]
  rw [show startE f12 [c.d, .tup (N.map .str), .tup (B.map .str)] = [.val c.d, .val (.tup (N.map .str)), .val (.tup (B.map .str)), .emp, .emp, .emp, .emp] from rfl]
  have n1 : Nm (.tup (N.map .str)) N := .inl rfl
  have b1 : Nm (.tup (B.map .str)) B := .inl rfl
  have n2 : Nm (.lst (N.map .str)) N := .inr rfl
  have b2 : Nm (.lst (B.map .str)) B := .inr rfl
  simp +decide only [f12, decide_true, decide_false, true_and, and_true, ZW.kO_some, ZW.kO_none, ZW.kO_map, ZW.kO_bind, ZW.kO_if, ZW.kS_nx, ZW.kS_ret, ZW.kS_brk, ZW.kS_cont, ZW.kB_bl, ZW.kI_int, ZW.kF_fr, ZW.kStr_str, ZW.kVar_val, ZW.kOwn_own, ZW.kRet_ret, ZW.kRet_nx, ZW.dg_v, ZW.dg_fr, ZW.wdg_v, ZW.wdg_fr, ZW.wdg_bw, ZW.get_0, ZW.get_s, ZW.e_var, ZW.e_own, ZW.e_int, ZW.e_bl, ZW.e_non, ZW.e_str, ZW.e_glo, ZW.e_tup, ZW.e_lst, ZW.e_bin, ZW.e_cmp, ZW.e_neg, ZW.e_not, ZW.e_and, ZW.e_or, ZW.e_ifE, ZW.e_idx, ZW.e_sl, ZW.e_call, ZW.e_bi, ZW.e_sset, ZW.e_isi, ZW.e_mth, ZW.op_no, ZW.op_yes, ZW.es_nil, ZW.es_cons, ZW.ws_nil, ZW.ws_cons, ZW.an_one, ZW.an_cons, ZW.or_one, ZW.or_cons, ZW.t_e, ZW.t_cmp', ZW.t_not', ZW.t_and', ZW.t_or', ZW.ts_nil, ZW.ts_cons, ZW.to_nil, ZW.to_cons, ZW.ss_nil, ZW.ss_cons, ZW.s_ex, ZW.s_asg, ZW.s_asgO, ZW.s_asgC, ZW.s_par, ZW.par_nil, ZW.par_t, ZW.par_f, ZW.kTup_tup, ZW.s_star, ZW.s_ret, ZW.kRF_fr, ZW.kRF_bw, ZW.s_retF, ZW.s_retN, ZW.s_iff, ZW.s_app, ZW.s_setO, ZW.kRef_ref, ZW.s_setR, ZW.s_frz, ZW.s_brk, ZW.s_cont, ZW.s_pass, ZW.bt_nm, ZW.bt_tp, ZW.bt_lp, ZW.bts_nil, ZW.bts_cons, ZW.kSeq_tup, ZW.kSeq_lst, ZW.kSeq_scr, ZW.kSeq_str, ZW.it_seq, ZW.it_rng, ZW.it_rng2, ZW.kZip_lst, ZW.kZip_tup, ZW.it_zip, ZW.kLst_lst, ZW.it_enum, ZW.tw_post, ZW.tx_post, ZW.s_for, ZW.e_comp, ZW.kT_nx, ZW.kT_cont, ZW.kT_brk, ZW.kT_ret, Z.setAll, List.set_cons_zero, List.set_cons_succ, if_true, if_false, Bool.false_eq_true, Option.bind_some, Option.map_some, Z.wipe, m_listT, List.length_cons, List.length_nil]
  refine true_ok n1 b1 c _ _ (by omega) ?_
  simp +decide only [f12, decide_true, decide_false, true_and, and_true, ZW.kO_some, ZW.kO_none, ZW.kO_map, ZW.kO_bind, ZW.kO_if, ZW.kS_nx, ZW.kS_ret, ZW.kS_brk, ZW.kS_cont, ZW.kB_bl, ZW.kI_int, ZW.kF_fr, ZW.kStr_str, ZW.kVar_val, ZW.kOwn_own, ZW.kRet_ret, ZW.kRet_nx, ZW.dg_v, ZW.dg_fr, ZW.wdg_v, ZW.wdg_fr, ZW.wdg_bw, ZW.get_0, ZW.get_s, ZW.e_var, ZW.e_own, ZW.e_int, ZW.e_bl, ZW.e_non, ZW.e_str, ZW.e_glo, ZW.e_tup, ZW.e_lst, ZW.e_bin, ZW.e_cmp, ZW.e_neg, ZW.e_not, ZW.e_and, ZW.e_or, ZW.e_ifE, ZW.e_idx, ZW.e_sl, ZW.e_call, ZW.e_bi, ZW.e_sset, ZW.e_isi, ZW.e_mth, ZW.op_no, ZW.op_yes, ZW.es_nil, ZW.es_cons, ZW.ws_nil, ZW.ws_cons, ZW.an_one, ZW.an_cons, ZW.or_one, ZW.or_cons, ZW.t_e, ZW.t_cmp', ZW.t_not', ZW.t_and', ZW.t_or', ZW.ts_nil, ZW.ts_cons, ZW.to_nil, ZW.to_cons, ZW.ss_nil, ZW.ss_cons, ZW.s_ex, ZW.s_asg, ZW.s_asgO, ZW.s_asgC, ZW.s_par, ZW.par_nil, ZW.par_t, ZW.par_f, ZW.kTup_tup, ZW.s_star, ZW.s_ret, ZW.kRF_fr, ZW.kRF_bw, ZW.s_retF, ZW.s_retN, ZW.s_iff, ZW.s_app, ZW.s_setO, ZW.kRef_ref, ZW.s_setR, ZW.s_frz, ZW.s_brk, ZW.s_cont, ZW.s_pass, ZW.bt_nm, ZW.bt_tp, ZW.bt_lp, ZW.bts_nil, ZW.bts_cons, ZW.kSeq_tup, ZW.kSeq_lst, ZW.kSeq_scr, ZW.kSeq_str, ZW.it_seq, ZW.it_rng, ZW.it_rng2, ZW.kZip_lst, ZW.kZip_tup, ZW.it_zip, ZW.kLst_lst, ZW.it_enum, ZW.tw_post, ZW.tx_post, ZW.s_for, ZW.e_comp, ZW.kT_nx, ZW.kT_cont, ZW.kT_brk, ZW.kT_ret, Z.setAll, List.set_cons_zero, List.set_cons_succ, if_true, if_false, Bool.false_eq_true, Option.bind_some, Option.map_some, Z.wipe, m_listT, List.length_cons, List.length_nil]
  refine at_ok n1 b1 c _ _ (by omega) ?_
  simp +decide only [f12, decide_true, decide_false, true_and, and_true, ZW.kO_some, ZW.kO_none, ZW.kO_map, ZW.kO_bind, ZW.kO_if, ZW.kS_nx, ZW.kS_ret, ZW.kS_brk, ZW.kS_cont, ZW.kB_bl, ZW.kI_int, ZW.kF_fr, ZW.kStr_str, ZW.kVar_val, ZW.kOwn_own, ZW.kRet_ret, ZW.kRet_nx, ZW.dg_v, ZW.dg_fr, ZW.wdg_v, ZW.wdg_fr, ZW.wdg_bw, ZW.get_0, ZW.get_s, ZW.e_var, ZW.e_own, ZW.e_int, ZW.e_bl, ZW.e_non, ZW.e_str, ZW.e_glo, ZW.e_tup, ZW.e_lst, ZW.e_bin, ZW.e_cmp, ZW.e_neg, ZW.e_not, ZW.e_and, ZW.e_or, ZW.e_ifE, ZW.e_idx, ZW.e_sl, ZW.e_call, ZW.e_bi, ZW.e_sset, ZW.e_isi, ZW.e_mth, ZW.op_no, ZW.op_yes, ZW.es_nil, ZW.es_cons, ZW.ws_nil, ZW.ws_cons, ZW.an_one, ZW.an_cons, ZW.or_one, ZW.or_cons, ZW.t_e, ZW.t_cmp', ZW.t_not', ZW.t_and', ZW.t_or', ZW.ts_nil, ZW.ts_cons, ZW.to_nil, ZW.to_cons, ZW.ss_nil, ZW.ss_cons, ZW.s_ex, ZW.s_asg, ZW.s_asgO, ZW.s_asgC, ZW.s_par, ZW.par_nil, ZW.par_t, ZW.par_f, ZW.kTup_tup, ZW.s_star, ZW.s_ret, ZW.kRF_fr, ZW.kRF_bw, ZW.s_retF, ZW.s_retN, ZW.s_iff, ZW.s_app, ZW.s_setO, ZW.kRef_ref, ZW.s_setR, ZW.s_frz, ZW.s_brk, ZW.s_cont, ZW.s_pass, ZW.bt_nm, ZW.bt_tp, ZW.bt_lp, ZW.bts_nil, ZW.bts_cons, ZW.kSeq_tup, ZW.kSeq_lst, ZW.kSeq_scr, ZW.kSeq_str, ZW.it_seq, ZW.it_rng, ZW.it_rng2, ZW.kZip_lst, ZW.kZip_tup, ZW.it_zip, ZW.kLst_lst, ZW.it_enum, ZW.tw_post, ZW.tx_post, ZW.s_for, ZW.e_comp, ZW.kT_nx, ZW.kT_cont, ZW.kT_brk, ZW.kT_ret, Z.setAll, List.set_cons_zero, List.set_cons_succ, if_true, if_false, Bool.false_eq_true, Option.bind_some, Option.map_some, Z.wipe, m_listT, List.length_cons, List.length_nil, ix_lst, at_0, at_1]
  refine at_ok n2 b2 c _ _ (by omega) ?_
  simp +decide only [f12, decide_true, decide_false, true_and, and_true, ZW.kO_some, ZW.kO_none, ZW.kO_map, ZW.kO_bind, ZW.kO_if, ZW.kS_nx, ZW.kS_ret, ZW.kS_brk, ZW.kS_cont, ZW.kB_bl, ZW.kI_int, ZW.kF_fr, ZW.kStr_str, ZW.kVar_val, ZW.kOwn_own, ZW.kRet_ret, ZW.kRet_nx, ZW.dg_v, ZW.dg_fr, ZW.wdg_v, ZW.wdg_fr, ZW.wdg_bw, ZW.get_0, ZW.get_s, ZW.e_var, ZW.e_own, ZW.e_int, ZW.e_bl, ZW.e_non, ZW.e_str, ZW.e_glo, ZW.e_tup, ZW.e_lst, ZW.e_bin, ZW.e_cmp, ZW.e_neg, ZW.e_not, ZW.e_and, ZW.e_or, ZW.e_ifE, ZW.e_idx, ZW.e_sl, ZW.e_call, ZW.e_bi, ZW.e_sset, ZW.e_isi, ZW.e_mth, ZW.op_no, ZW.op_yes, ZW.es_nil, ZW.es_cons, ZW.ws_nil, ZW.ws_cons, ZW.an_one, ZW.an_cons, ZW.or_one, ZW.or_cons, ZW.t_e, ZW.t_cmp', ZW.t_not', ZW.t_and', ZW.t_or', ZW.ts_nil, ZW.ts_cons, ZW.to_nil, ZW.to_cons, ZW.ss_nil, ZW.ss_cons, ZW.s_ex, ZW.s_asg, ZW.s_asgO, ZW.s_asgC, ZW.s_par, ZW.par_nil, ZW.par_t, ZW.par_f, ZW.kTup_tup, ZW.s_star, ZW.s_ret, ZW.kRF_fr, ZW.kRF_bw, ZW.s_retF, ZW.s_retN, ZW.s_iff, ZW.s_app, ZW.s_setO, ZW.kRef_ref, ZW.s_setR, ZW.s_frz, ZW.s_brk, ZW.s_cont, ZW.s_pass, ZW.bt_nm, ZW.bt_tp, ZW.bt_lp, ZW.bts_nil, ZW.bts_cons, ZW.kSeq_tup, ZW.kSeq_lst, ZW.kSeq_scr, ZW.kSeq_str, ZW.it_seq, ZW.it_rng, ZW.it_rng2, ZW.kZip_lst, ZW.kZip_tup, ZW.it_zip, ZW.kLst_lst, ZW.it_enum, ZW.tw_post, ZW.tx_post, ZW.s_for, ZW.e_comp, ZW.kT_nx, ZW.kT_cont, ZW.kT_brk, ZW.kT_ret, Z.setAll, List.set_cons_zero, List.set_cons_succ, if_true, if_false, Bool.false_eq_true, Option.bind_some, Option.map_some, Z.wipe, m_listT, List.length_cons, List.length_nil, ix_lst, at_0, at_1]
  refine at_ok n1 b1 c _ _ (by omega) ?_
  simp +decide only [f12, decide_true, decide_false, true_and, and_true, ZW.kO_some, ZW.kO_none, ZW.kO_map, ZW.kO_bind, ZW.kO_if, ZW.kS_nx, ZW.kS_ret, ZW.kS_brk, ZW.kS_cont, ZW.kB_bl, ZW.kI_int, ZW.kF_fr, ZW.kStr_str, ZW.kVar_val, ZW.kOwn_own, ZW.kRet_ret, ZW.kRet_nx, ZW.dg_v, ZW.dg_fr, ZW.wdg_v, ZW.wdg_fr, ZW.wdg_bw, ZW.get_0, ZW.get_s, ZW.e_var, ZW.e_own, ZW.e_int, ZW.e_bl, ZW.e_non, ZW.e_str, ZW.e_glo, ZW.e_tup, ZW.e_lst, ZW.e_bin, ZW.e_cmp, ZW.e_neg, ZW.e_not, ZW.e_and, ZW.e_or, ZW.e_ifE, ZW.e_idx, ZW.e_sl, ZW.e_call, ZW.e_bi, ZW.e_sset, ZW.e_isi, ZW.e_mth, ZW.op_no, ZW.op_yes, ZW.es_nil, ZW.es_cons, ZW.ws_nil, ZW.ws_cons, ZW.an_one, ZW.an_cons, ZW.or_one, ZW.or_cons, ZW.t_e, ZW.t_cmp', ZW.t_not', ZW.t_and', ZW.t_or', ZW.ts_nil, ZW.ts_cons, ZW.to_nil, ZW.to_cons, ZW.ss_nil, ZW.ss_cons, ZW.s_ex, ZW.s_asg, ZW.s_asgO, ZW.s_asgC, ZW.s_par, ZW.par_nil, ZW.par_t, ZW.par_f, ZW.kTup_tup, ZW.s_star, ZW.s_ret, ZW.kRF_fr, ZW.kRF_bw, ZW.s_retF, ZW.s_retN, ZW.s_iff, ZW.s_app, ZW.s_setO, ZW.kRef_ref, ZW.s_setR, ZW.s_frz, ZW.s_brk, ZW.s_cont, ZW.s_pass, ZW.bt_nm, ZW.bt_tp, ZW.bt_lp, ZW.bts_nil, ZW.bts_cons, ZW.kSeq_tup, ZW.kSeq_lst, ZW.kSeq_scr, ZW.kSeq_str, ZW.it_seq, ZW.it_rng, ZW.it_rng2, ZW.kZip_lst, ZW.kZip_tup, ZW.it_zip, ZW.kLst_lst, ZW.it_enum, ZW.tw_post, ZW.tx_post, ZW.s_for, ZW.e_comp, ZW.kT_nx, ZW.kT_cont, ZW.kT_brk, ZW.kT_ret, Z.setAll, List.set_cons_zero, List.set_cons_succ, if_true, if_false, Bool.false_eq_true, Option.bind_some, Option.map_some, Z.wipe, m_listT, List.length_cons, List.length_nil, ix_lst, at_0, at_1]
  refine at_bare n1 c _ _ (by omega) ?_
  simp +decide only [f12, decide_true, decide_false, true_and, and_true, ZW.kO_some, ZW.kO_none, ZW.kO_map, ZW.kO_bind, ZW.kO_if, ZW.kS_nx, ZW.kS_ret, ZW.kS_brk, ZW.kS_cont, ZW.kB_bl, ZW.kI_int, ZW.kF_fr, ZW.kStr_str, ZW.kVar_val, ZW.kOwn_own, ZW.kRet_ret, ZW.kRet_nx, ZW.dg_v, ZW.dg_fr, ZW.wdg_v, ZW.wdg_fr, ZW.wdg_bw, ZW.get_0, ZW.get_s, ZW.e_var, ZW.e_own, ZW.e_int, ZW.e_bl, ZW.e_non, ZW.e_str, ZW.e_glo, ZW.e_tup, ZW.e_lst, ZW.e_bin, ZW.e_cmp, ZW.e_neg, ZW.e_not, ZW.e_and, ZW.e_or, ZW.e_ifE, ZW.e_idx, ZW.e_sl, ZW.e_call, ZW.e_bi, ZW.e_sset, ZW.e_isi, ZW.e_mth, ZW.op_no, ZW.op_yes, ZW.es_nil, ZW.es_cons, ZW.ws_nil, ZW.ws_cons, ZW.an_one, ZW.an_cons, ZW.or_one, ZW.or_cons, ZW.t_e, ZW.t_cmp', ZW.t_not', ZW.t_and', ZW.t_or', ZW.ts_nil, ZW.ts_cons, ZW.to_nil, ZW.to_cons, ZW.ss_nil, ZW.ss_cons, ZW.s_ex, ZW.s_asg, ZW.s_asgO, ZW.s_asgC, ZW.s_par, ZW.par_nil, ZW.par_t, ZW.par_f, ZW.kTup_tup, ZW.s_star, ZW.s_ret, ZW.kRF_fr, ZW.kRF_bw, ZW.s_retF, ZW.s_retN, ZW.s_iff, ZW.s_app, ZW.s_setO, ZW.kRef_ref, ZW.s_setR, ZW.s_frz, ZW.s_brk, ZW.s_cont, ZW.s_pass, ZW.bt_nm, ZW.bt_tp, ZW.bt_lp, ZW.bts_nil, ZW.bts_cons, ZW.kSeq_tup, ZW.kSeq_lst, ZW.kSeq_scr, ZW.kSeq_str, ZW.it_seq, ZW.it_rng, ZW.it_rng2, ZW.kZip_lst, ZW.kZip_tup, ZW.it_zip, ZW.kLst_lst, ZW.it_enum, ZW.tw_post, ZW.tx_post, ZW.s_for, ZW.e_comp, ZW.kT_nx, ZW.kT_cont, ZW.kT_brk, ZW.kT_ret, Z.setAll, List.set_cons_zero, List.set_cons_succ, if_true, if_false, Bool.false_eq_true, Option.bind_some, Option.map_some, Z.wipe, m_listT, List.length_cons, List.length_nil, ix_lst, at_0, at_1]
  refine at_bare n2 c _ _ (by omega) ?_
  simp +decide only [f12, decide_true, decide_false, true_and, and_true, ZW.kO_some, ZW.kO_none, ZW.kO_map, ZW.kO_bind, ZW.kO_if, ZW.kS_nx, ZW.kS_ret, ZW.kS_brk, ZW.kS_cont, ZW.kB_bl, ZW.kI_int, ZW.kF_fr, ZW.kStr_str, ZW.kVar_val, ZW.kOwn_own, ZW.kRet_ret, ZW.kRet_nx, ZW.dg_v, ZW.dg_fr, ZW.wdg_v, ZW.wdg_fr, ZW.wdg_bw, ZW.get_0, ZW.get_s, ZW.e_var, ZW.e_own, ZW.e_int, ZW.e_bl, ZW.e_non, ZW.e_str, ZW.e_glo, ZW.e_tup, ZW.e_lst, ZW.e_bin, ZW.e_cmp, ZW.e_neg, ZW.e_not, ZW.e_and, ZW.e_or, ZW.e_ifE, ZW.e_idx, ZW.e_sl, ZW.e_call, ZW.e_bi, ZW.e_sset, ZW.e_isi, ZW.e_mth, ZW.op_no, ZW.op_yes, ZW.es_nil, ZW.es_cons, ZW.ws_nil, ZW.ws_cons, ZW.an_one, ZW.an_cons, ZW.or_one, ZW.or_cons, ZW.t_e, ZW.t_cmp', ZW.t_not', ZW.t_and', ZW.t_or', ZW.ts_nil, ZW.ts_cons, ZW.to_nil, ZW.to_cons, ZW.ss_nil, ZW.ss_cons, ZW.s_ex, ZW.s_asg, ZW.s_asgO, ZW.s_asgC, ZW.s_par, ZW.par_nil, ZW.par_t, ZW.par_f, ZW.kTup_tup, ZW.s_star, ZW.s_ret, ZW.kRF_fr, ZW.kRF_bw, ZW.s_retF, ZW.s_retN, ZW.s_iff, ZW.s_app, ZW.s_setO, ZW.kRef_ref, ZW.s_setR, ZW.s_frz, ZW.s_brk, ZW.s_cont, ZW.s_pass, ZW.bt_nm, ZW.bt_tp, ZW.bt_lp, ZW.bts_nil, ZW.bts_cons, ZW.kSeq_tup, ZW.kSeq_lst, ZW.kSeq_scr, ZW.kSeq_str, ZW.it_seq, ZW.it_rng, ZW.it_rng2, ZW.kZip_lst, ZW.kZip_tup, ZW.it_zip, ZW.kLst_lst, ZW.it_enum, ZW.tw_post, ZW.tx_post, ZW.s_for, ZW.e_comp, ZW.kT_nx, ZW.kT_cont, ZW.kT_brk, ZW.kT_ret, Z.setAll, List.set_cons_zero, List.set_cons_succ, if_true, if_false, Bool.false_eq_true, Option.bind_some, Option.map_some, Z.wipe, m_listT, List.length_cons, List.length_nil, ix_lst, at_0, at_1, b_addL, List.cons_append, List.nil_append]
  refine true_ok (B := []) n1 (.inl rfl) c _ _ (by omega) ?_
  simp +decide only [f12, decide_true, decide_false, true_and, and_true, ZW.kO_some, ZW.kO_none, ZW.kO_map, ZW.kO_bind, ZW.kO_if, ZW.kS_nx, ZW.kS_ret, ZW.kS_brk, ZW.kS_cont, ZW.kB_bl, ZW.kI_int, ZW.kF_fr, ZW.kStr_str, ZW.kVar_val, ZW.kOwn_own, ZW.kRet_ret, ZW.kRet_nx, ZW.dg_v, ZW.dg_fr, ZW.wdg_v, ZW.wdg_fr, ZW.wdg_bw, ZW.get_0, ZW.get_s, ZW.e_var, ZW.e_own, ZW.e_int, ZW.e_bl, ZW.e_non, ZW.e_str, ZW.e_glo, ZW.e_tup, ZW.e_lst, ZW.e_bin, ZW.e_cmp, ZW.e_neg, ZW.e_not, ZW.e_and, ZW.e_or, ZW.e_ifE, ZW.e_idx, ZW.e_sl, ZW.e_call, ZW.e_bi, ZW.e_sset, ZW.e_isi, ZW.e_mth, ZW.op_no, ZW.op_yes, ZW.es_nil, ZW.es_cons, ZW.ws_nil, ZW.ws_cons, ZW.an_one, ZW.an_cons, ZW.or_one, ZW.or_cons, ZW.t_e, ZW.t_cmp', ZW.t_not', ZW.t_and', ZW.t_or', ZW.ts_nil, ZW.ts_cons, ZW.to_nil, ZW.to_cons, ZW.ss_nil, ZW.ss_cons, ZW.s_ex, ZW.s_asg, ZW.s_asgO, ZW.s_asgC, ZW.s_par, ZW.par_nil, ZW.par_t, ZW.par_f, ZW.kTup_tup, ZW.s_star, ZW.s_ret, ZW.kRF_fr, ZW.kRF_bw, ZW.s_retF, ZW.s_retN, ZW.s_iff, ZW.s_app, ZW.s_setO, ZW.kRef_ref, ZW.s_setR, ZW.s_frz, ZW.s_brk, ZW.s_cont, ZW.s_pass, ZW.bt_nm, ZW.bt_tp, ZW.bt_lp, ZW.bts_nil, ZW.bts_cons, ZW.kSeq_tup, ZW.kSeq_lst, ZW.kSeq_scr, ZW.kSeq_str, ZW.it_seq, ZW.it_rng, ZW.it_rng2, ZW.kZip_lst, ZW.kZip_tup, ZW.it_zip, ZW.kLst_lst, ZW.it_enum, ZW.tw_post, ZW.tx_post, ZW.s_for, ZW.e_comp, ZW.kT_nx, ZW.kT_cont, ZW.kT_brk, ZW.kT_ret, Z.setAll, List.set_cons_zero, List.set_cons_succ, if_true, if_false, Bool.false_eq_true, Option.bind_some, Option.map_some, Z.wipe, m_listT, List.length_cons, List.length_nil, ix_lst, at_0, at_1, b_addL, List.cons_append, List.nil_append, mul3, mul2]
  refine same_lst [c.ev N B, c.ev N B, c.ev N B, c.ev N [], c.ev N []] (by show 5 ≤ 64; decide) ?_
  simp +decide only [f12, decide_true, decide_false, true_and, and_true, ZW.kO_some, ZW.kO_none, ZW.kO_map, ZW.kO_bind, ZW.kO_if, ZW.kS_nx, ZW.kS_ret, ZW.kS_brk, ZW.kS_cont, ZW.kB_bl, ZW.kI_int, ZW.kF_fr, ZW.kStr_str, ZW.kVar_val, ZW.kOwn_own, ZW.kRet_ret, ZW.kRet_nx, ZW.dg_v, ZW.dg_fr, ZW.wdg_v, ZW.wdg_fr, ZW.wdg_bw, ZW.get_0, ZW.get_s, ZW.e_var, ZW.e_own, ZW.e_int, ZW.e_bl, ZW.e_non, ZW.e_str, ZW.e_glo, ZW.e_tup, ZW.e_lst, ZW.e_bin, ZW.e_cmp, ZW.e_neg, ZW.e_not, ZW.e_and, ZW.e_or, ZW.e_ifE, ZW.e_idx, ZW.e_sl, ZW.e_call, ZW.e_bi, ZW.e_sset, ZW.e_isi, ZW.e_mth, ZW.op_no, ZW.op_yes, ZW.es_nil, ZW.es_cons, ZW.ws_nil, ZW.ws_cons, ZW.an_one, ZW.an_cons, ZW.or_one, ZW.or_cons, ZW.t_e, ZW.t_cmp', ZW.t_not', ZW.t_and', ZW.t_or', ZW.ts_nil, ZW.ts_cons, ZW.to_nil, ZW.to_cons, ZW.ss_nil, ZW.ss_cons, ZW.s_ex, ZW.s_asg, ZW.s_asgO, ZW.s_asgC, ZW.s_par, ZW.par_nil, ZW.par_t, ZW.par_f, ZW.kTup_tup, ZW.s_star, ZW.s_ret, ZW.kRF_fr, ZW.kRF_bw, ZW.s_retF, ZW.s_retN, ZW.s_iff, ZW.s_app, ZW.s_setO, ZW.kRef_ref, ZW.s_setR, ZW.s_frz, ZW.s_brk, ZW.s_cont, ZW.s_pass, ZW.bt_nm, ZW.bt_tp, ZW.bt_lp, ZW.bts_nil, ZW.bts_cons, ZW.kSeq_tup, ZW.kSeq_lst, ZW.kSeq_scr, ZW.kSeq_str, ZW.it_seq, ZW.it_rng, ZW.it_rng2, ZW.kZip_lst, ZW.kZip_tup, ZW.it_zip, ZW.kLst_lst, ZW.it_enum, ZW.tw_post, ZW.tx_post, ZW.s_for, ZW.e_comp, ZW.kT_nx, ZW.kT_cont, ZW.kT_brk, ZW.kT_ret, Z.setAll, List.set_cons_zero, List.set_cons_succ, if_true, if_false, Bool.false_eq_true, Option.bind_some, Option.map_some, Z.wipe, m_listT, List.length_cons, List.length_nil, eq2]
  exact q
end
end K03
end

section
namespace K03
open Z ZW
section
variable {wf n : Nat} {h : LH} {Q : Rv → LH → Prop} {xs : List (List Nat)} {r : Nat}
theorem leaf_ok {f k : Nat} (h0 : xs ≠ []) (h1 : xs.length < 1000) (hb : Box (f + 2) r h) (q : ∀ (c : C) h', c.dp ≤ 1 → Box f r h' → Q (.v c.d) h') : (run fs G wf (k + 3) 8 [.ref r, .lst (xs.map .str)] h).post Q XF := by
  rw [w_run (fn := f8) rfl rfl]
  rw [show startE f8 [.ref r, .lst (xs.map .str)] = [.val (.ref r), .val (.lst (xs.map .str)), .emp] from rfl]
  simp +decide only [f8, decide_true, decide_false, true_and, and_true, ZW.kO_some, ZW.kO_none, ZW.kO_map, ZW.kO_bind, ZW.kO_if, ZW.kS_nx, ZW.kS_ret, ZW.kS_brk, ZW.kS_cont, ZW.kB_bl, ZW.kI_int, ZW.kF_fr, ZW.kStr_str, ZW.kVar_val, ZW.kOwn_own, ZW.kRet_ret, ZW.kRet_nx, ZW.dg_v, ZW.dg_fr, ZW.wdg_v, ZW.wdg_fr, ZW.wdg_bw, ZW.get_0, ZW.get_s, ZW.e_var, ZW.e_own, ZW.e_int, ZW.e_bl, ZW.e_non, ZW.e_str, ZW.e_glo, ZW.e_tup, ZW.e_lst, ZW.e_bin, ZW.e_cmp, ZW.e_neg, ZW.e_not, ZW.e_and, ZW.e_or, ZW.e_ifE, ZW.e_idx, ZW.e_sl, ZW.e_call, ZW.e_bi, ZW.e_sset, ZW.e_isi, ZW.e_mth, ZW.op_no, ZW.op_yes, ZW.es_nil, ZW.es_cons, ZW.ws_nil, ZW.ws_cons, ZW.an_one, ZW.an_cons, ZW.or_one, ZW.or_cons, ZW.t_e, ZW.t_cmp', ZW.t_not', ZW.t_and', ZW.t_or', ZW.ts_nil, ZW.ts_cons, ZW.to_nil, ZW.to_cons, ZW.ss_nil, ZW.ss_cons, ZW.s_ex, ZW.s_asg, ZW.s_asgO, ZW.s_asgC, ZW.s_par, ZW.par_nil, ZW.par_t, ZW.par_f, ZW.kTup_tup, ZW.s_star, ZW.s_ret, ZW.kRF_fr, ZW.kRF_bw, ZW.s_retF, ZW.s_retN, ZW.s_iff, ZW.s_app, ZW.s_setO, ZW.kRef_ref, ZW.s_setR, ZW.s_frz, ZW.s_brk, ZW.s_cont, ZW.s_pass, ZW.bt_nm, ZW.bt_tp, ZW.bt_lp, ZW.bts_nil, ZW.bts_cons, ZW.kSeq_tup, ZW.kSeq_lst, ZW.kSeq_scr, ZW.kSeq_str, ZW.it_seq, ZW.it_rng, ZW.it_rng2, ZW.kZip_lst, ZW.kZip_tup, ZW.it_zip, ZW.kLst_lst, ZW.it_enum, ZW.tw_post, ZW.tx_post, ZW.s_for, ZW.e_comp, ZW.kT_nx, ZW.kT_cont, ZW.kT_brk, ZW.kT_ret, Z.setAll, List.set_cons_zero, List.set_cons_succ, if_true, if_false, Bool.false_eq_true, Option.bind_some, Option.map_some, Z.wipe]
  refine take_ok i2 (f := f + 1) (k := 8) (by decide) (by decide) hb fun j h' j0 j1 b1 => ?_
  have hm : xs.map D.str ≠ [] := fun z => h0 (List.map_eq_nil_iff.mp z)
  have e1 : j = 0 ∨ j = 1 ∨ (¬ j < 2 ∧ j < 4) ∨ (¬ j < 2 ∧ ¬ j < 4) := by omega
  have pk : ∀ w : List Nat, (w = wasS ∨ w = onS) → ∀ Q' : Rv → LH → Prop, (∀ s h', Box f r h' → Q' (.v (.str s)) h') → (run fs G wf (k + 2) 3 [.ref r, .lst (xs.map .str)] h').post Q' XF := fun w hw Q' hQ => by
    refine pick_ok i3 i2 hm (by rw [List.length_map]; omega) b1 fun x h'' hx b2 => ?_
    obtain ⟨s, _, rfl⟩ := List.mem_map.mp hx
    exact hQ s h'' b2
  rcases e1 with rfl | rfl | ⟨e1, e2⟩ | ⟨e1, e2⟩
  · simp +decide only [decide_true, decide_false, true_and, and_true, ZW.kO_some, ZW.kO_none, ZW.kO_map, ZW.kO_bind, ZW.kO_if, ZW.kS_nx, ZW.kS_ret, ZW.kS_brk, ZW.kS_cont, ZW.kB_bl, ZW.kI_int, ZW.kF_fr, ZW.kStr_str, ZW.kVar_val, ZW.kOwn_own, ZW.kRet_ret, ZW.kRet_nx, ZW.dg_v, ZW.dg_fr, ZW.wdg_v, ZW.wdg_fr, ZW.wdg_bw, ZW.get_0, ZW.get_s, ZW.e_var, ZW.e_own, ZW.e_int, ZW.e_bl, ZW.e_non, ZW.e_str, ZW.e_glo, ZW.e_tup, ZW.e_lst, ZW.e_bin, ZW.e_cmp, ZW.e_neg, ZW.e_not, ZW.e_and, ZW.e_or, ZW.e_ifE, ZW.e_idx, ZW.e_sl, ZW.e_call, ZW.e_bi, ZW.e_sset, ZW.e_isi, ZW.e_mth, ZW.op_no, ZW.op_yes, ZW.es_nil, ZW.es_cons, ZW.ws_nil, ZW.ws_cons, ZW.an_one, ZW.an_cons, ZW.or_one, ZW.or_cons, ZW.t_e, ZW.t_cmp', ZW.t_not', ZW.t_and', ZW.t_or', ZW.ts_nil, ZW.ts_cons, ZW.to_nil, ZW.to_cons, ZW.ss_nil, ZW.ss_cons, ZW.s_ex, ZW.s_asg, ZW.s_asgO, ZW.s_asgC, ZW.s_par, ZW.par_nil, ZW.par_t, ZW.par_f, ZW.kTup_tup, ZW.s_star, ZW.s_ret, ZW.kRF_fr, ZW.kRF_bw, ZW.s_retF, ZW.s_retN, ZW.s_iff, ZW.s_app, ZW.s_setO, ZW.kRef_ref, ZW.s_setR, ZW.s_frz, ZW.s_brk, ZW.s_cont, ZW.s_pass, ZW.bt_nm, ZW.bt_tp, ZW.bt_lp, ZW.bts_nil, ZW.bts_cons, ZW.kSeq_tup, ZW.kSeq_lst, ZW.kSeq_scr, ZW.kSeq_str, ZW.it_seq, ZW.it_rng, ZW.it_rng2, ZW.kZip_lst, ZW.kZip_tup, ZW.it_zip, ZW.kLst_lst, ZW.it_enum, ZW.tw_post, ZW.tx_post, ZW.s_for, ZW.e_comp, ZW.kT_nx, ZW.kT_cont, ZW.kT_brk, ZW.kT_ret, Z.setAll, List.set_cons_zero, List.set_cons_succ, if_true, if_false, Bool.false_eq_true, Option.bind_some, Option.map_some, Z.wipe, c_lt, ix_lst, at_0, at_1]
    exact q .yes _ (Nat.le_refl _) (b1.less (by omega))
  · simp +decide only [decide_true, decide_false, true_and, and_true, ZW.kO_some, ZW.kO_none, ZW.kO_map, ZW.kO_bind, ZW.kO_if, ZW.kS_nx, ZW.kS_ret, ZW.kS_brk, ZW.kS_cont, ZW.kB_bl, ZW.kI_int, ZW.kF_fr, ZW.kStr_str, ZW.kVar_val, ZW.kOwn_own, ZW.kRet_ret, ZW.kRet_nx, ZW.dg_v, ZW.dg_fr, ZW.wdg_v, ZW.wdg_fr, ZW.wdg_bw, ZW.get_0, ZW.get_s, ZW.e_var, ZW.e_own, ZW.e_int, ZW.e_bl, ZW.e_non, ZW.e_str, ZW.e_glo, ZW.e_tup, ZW.e_lst, ZW.e_bin, ZW.e_cmp, ZW.e_neg, ZW.e_not, ZW.e_and, ZW.e_or, ZW.e_ifE, ZW.e_idx, ZW.e_sl, ZW.e_call, ZW.e_bi, ZW.e_sset, ZW.e_isi, ZW.e_mth, ZW.op_no, ZW.op_yes, ZW.es_nil, ZW.es_cons, ZW.ws_nil, ZW.ws_cons, ZW.an_one, ZW.an_cons, ZW.or_one, ZW.or_cons, ZW.t_e, ZW.t_cmp', ZW.t_not', ZW.t_and', ZW.t_or', ZW.ts_nil, ZW.ts_cons, ZW.to_nil, ZW.to_cons, ZW.ss_nil, ZW.ss_cons, ZW.s_ex, ZW.s_asg, ZW.s_asgO, ZW.s_asgC, ZW.s_par, ZW.par_nil, ZW.par_t, ZW.par_f, ZW.kTup_tup, ZW.s_star, ZW.s_ret, ZW.kRF_fr, ZW.kRF_bw, ZW.s_retF, ZW.s_retN, ZW.s_iff, ZW.s_app, ZW.s_setO, ZW.kRef_ref, ZW.s_setR, ZW.s_frz, ZW.s_brk, ZW.s_cont, ZW.s_pass, ZW.bt_nm, ZW.bt_tp, ZW.bt_lp, ZW.bts_nil, ZW.bts_cons, ZW.kSeq_tup, ZW.kSeq_lst, ZW.kSeq_scr, ZW.kSeq_str, ZW.it_seq, ZW.it_rng, ZW.it_rng2, ZW.kZip_lst, ZW.kZip_tup, ZW.it_zip, ZW.kLst_lst, ZW.it_enum, ZW.tw_post, ZW.tx_post, ZW.s_for, ZW.e_comp, ZW.kT_nx, ZW.kT_cont, ZW.kT_brk, ZW.kT_ret, Z.setAll, List.set_cons_zero, List.set_cons_succ, if_true, if_false, Bool.false_eq_true, Option.bind_some, Option.map_some, Z.wipe, c_lt, ix_lst, at_0, at_1]
    exact q .no _ (Nat.le_refl _) (b1.less (by omega))
  · have e1 : decide (j < 2) = false := decide_eq_false e1
    have e2 : decide (j < 4) = true := decide_eq_true e2
    simp +decide only [decide_true, decide_false, true_and, and_true, ZW.kO_some, ZW.kO_none, ZW.kO_map, ZW.kO_bind, ZW.kO_if, ZW.kS_nx, ZW.kS_ret, ZW.kS_brk, ZW.kS_cont, ZW.kB_bl, ZW.kI_int, ZW.kF_fr, ZW.kStr_str, ZW.kVar_val, ZW.kOwn_own, ZW.kRet_ret, ZW.kRet_nx, ZW.dg_v, ZW.dg_fr, ZW.wdg_v, ZW.wdg_fr, ZW.wdg_bw, ZW.get_0, ZW.get_s, ZW.e_var, ZW.e_own, ZW.e_int, ZW.e_bl, ZW.e_non, ZW.e_str, ZW.e_glo, ZW.e_tup, ZW.e_lst, ZW.e_bin, ZW.e_cmp, ZW.e_neg, ZW.e_not, ZW.e_and, ZW.e_or, ZW.e_ifE, ZW.e_idx, ZW.e_sl, ZW.e_call, ZW.e_bi, ZW.e_sset, ZW.e_isi, ZW.e_mth, ZW.op_no, ZW.op_yes, ZW.es_nil, ZW.es_cons, ZW.ws_nil, ZW.ws_cons, ZW.an_one, ZW.an_cons, ZW.or_one, ZW.or_cons, ZW.t_e, ZW.t_cmp', ZW.t_not', ZW.t_and', ZW.t_or', ZW.ts_nil, ZW.ts_cons, ZW.to_nil, ZW.to_cons, ZW.ss_nil, ZW.ss_cons, ZW.s_ex, ZW.s_asg, ZW.s_asgO, ZW.s_asgC, ZW.s_par, ZW.par_nil, ZW.par_t, ZW.par_f, ZW.kTup_tup, ZW.s_star, ZW.s_ret, ZW.kRF_fr, ZW.kRF_bw, ZW.s_retF, ZW.s_retN, ZW.s_iff, ZW.s_app, ZW.s_setO, ZW.kRef_ref, ZW.s_setR, ZW.s_frz, ZW.s_brk, ZW.s_cont, ZW.s_pass, ZW.bt_nm, ZW.bt_tp, ZW.bt_lp, ZW.bts_nil, ZW.bts_cons, ZW.kSeq_tup, ZW.kSeq_lst, ZW.kSeq_scr, ZW.kSeq_str, ZW.it_seq, ZW.it_rng, ZW.it_rng2, ZW.kZip_lst, ZW.kZip_tup, ZW.it_zip, ZW.kLst_lst, ZW.it_enum, ZW.tw_post, ZW.tx_post, ZW.s_for, ZW.e_comp, ZW.kT_nx, ZW.kT_cont, ZW.kT_brk, ZW.kT_ret, Z.setAll, List.set_cons_zero, List.set_cons_succ, if_true, if_false, Bool.false_eq_true, Option.bind_some, Option.map_some, Z.wipe, c_lt, e1, e2]
    refine pk wasS (.inl rfl) _ fun s h'' b2 => ?_
    simp +decide only [decide_true, decide_false, true_and, and_true, ZW.kO_some, ZW.kO_none, ZW.kO_map, ZW.kO_bind, ZW.kO_if, ZW.kS_nx, ZW.kS_ret, ZW.kS_brk, ZW.kS_cont, ZW.kB_bl, ZW.kI_int, ZW.kF_fr, ZW.kStr_str, ZW.kVar_val, ZW.kOwn_own, ZW.kRet_ret, ZW.kRet_nx, ZW.dg_v, ZW.dg_fr, ZW.wdg_v, ZW.wdg_fr, ZW.wdg_bw, ZW.get_0, ZW.get_s, ZW.e_var, ZW.e_own, ZW.e_int, ZW.e_bl, ZW.e_non, ZW.e_str, ZW.e_glo, ZW.e_tup, ZW.e_lst, ZW.e_bin, ZW.e_cmp, ZW.e_neg, ZW.e_not, ZW.e_and, ZW.e_or, ZW.e_ifE, ZW.e_idx, ZW.e_sl, ZW.e_call, ZW.e_bi, ZW.e_sset, ZW.e_isi, ZW.e_mth, ZW.op_no, ZW.op_yes, ZW.es_nil, ZW.es_cons, ZW.ws_nil, ZW.ws_cons, ZW.an_one, ZW.an_cons, ZW.or_one, ZW.or_cons, ZW.t_e, ZW.t_cmp', ZW.t_not', ZW.t_and', ZW.t_or', ZW.ts_nil, ZW.ts_cons, ZW.to_nil, ZW.to_cons, ZW.ss_nil, ZW.ss_cons, ZW.s_ex, ZW.s_asg, ZW.s_asgO, ZW.s_asgC, ZW.s_par, ZW.par_nil, ZW.par_t, ZW.par_f, ZW.kTup_tup, ZW.s_star, ZW.s_ret, ZW.kRF_fr, ZW.kRF_bw, ZW.s_retF, ZW.s_retN, ZW.s_iff, ZW.s_app, ZW.s_setO, ZW.kRef_ref, ZW.s_setR, ZW.s_frz, ZW.s_brk, ZW.s_cont, ZW.s_pass, ZW.bt_nm, ZW.bt_tp, ZW.bt_lp, ZW.bts_nil, ZW.bts_cons, ZW.kSeq_tup, ZW.kSeq_lst, ZW.kSeq_scr, ZW.kSeq_str, ZW.it_seq, ZW.it_rng, ZW.it_rng2, ZW.kZip_lst, ZW.kZip_tup, ZW.it_zip, ZW.kLst_lst, ZW.it_enum, ZW.tw_post, ZW.tx_post, ZW.s_for, ZW.e_comp, ZW.kT_nx, ZW.kT_cont, ZW.kT_brk, ZW.kT_ret, Z.setAll, List.set_cons_zero, List.set_cons_succ, if_true, if_false, Bool.false_eq_true, Option.bind_some, Option.map_some, Z.wipe, List.length_cons, List.length_nil]
    exact q (.was s) _ (Nat.le_refl _) b2
  · have e1 : decide (j < 2) = false := decide_eq_false e1
    have e2 : decide (j < 4) = false := decide_eq_false e2
    simp +decide only [decide_true, decide_false, true_and, and_true, ZW.kO_some, ZW.kO_none, ZW.kO_map, ZW.kO_bind, ZW.kO_if, ZW.kS_nx, ZW.kS_ret, ZW.kS_brk, ZW.kS_cont, ZW.kB_bl, ZW.kI_int, ZW.kF_fr, ZW.kStr_str, ZW.kVar_val, ZW.kOwn_own, ZW.kRet_ret, ZW.kRet_nx, ZW.dg_v, ZW.dg_fr, ZW.wdg_v, ZW.wdg_fr, ZW.wdg_bw, ZW.get_0, ZW.get_s, ZW.e_var, ZW.e_own, ZW.e_int, ZW.e_bl, ZW.e_non, ZW.e_str, ZW.e_glo, ZW.e_tup, ZW.e_lst, ZW.e_bin, ZW.e_cmp, ZW.e_neg, ZW.e_not, ZW.e_and, ZW.e_or, ZW.e_ifE, ZW.e_idx, ZW.e_sl, ZW.e_call, ZW.e_bi, ZW.e_sset, ZW.e_isi, ZW.e_mth, ZW.op_no, ZW.op_yes, ZW.es_nil, ZW.es_cons, ZW.ws_nil, ZW.ws_cons, ZW.an_one, ZW.an_cons, ZW.or_one, ZW.or_cons, ZW.t_e, ZW.t_cmp', ZW.t_not', ZW.t_and', ZW.t_or', ZW.ts_nil, ZW.ts_cons, ZW.to_nil, ZW.to_cons, ZW.ss_nil, ZW.ss_cons, ZW.s_ex, ZW.s_asg, ZW.s_asgO, ZW.s_asgC, ZW.s_par, ZW.par_nil, ZW.par_t, ZW.par_f, ZW.kTup_tup, ZW.s_star, ZW.s_ret, ZW.kRF_fr, ZW.kRF_bw, ZW.s_retF, ZW.s_retN, ZW.s_iff, ZW.s_app, ZW.s_setO, ZW.kRef_ref, ZW.s_setR, ZW.s_frz, ZW.s_brk, ZW.s_cont, ZW.s_pass, ZW.bt_nm, ZW.bt_tp, ZW.bt_lp, ZW.bts_nil, ZW.bts_cons, ZW.kSeq_tup, ZW.kSeq_lst, ZW.kSeq_scr, ZW.kSeq_str, ZW.it_seq, ZW.it_rng, ZW.it_rng2, ZW.kZip_lst, ZW.kZip_tup, ZW.it_zip, ZW.kLst_lst, ZW.it_enum, ZW.tw_post, ZW.tx_post, ZW.s_for, ZW.e_comp, ZW.kT_nx, ZW.kT_cont, ZW.kT_brk, ZW.kT_ret, Z.setAll, List.set_cons_zero, List.set_cons_succ, if_true, if_false, Bool.false_eq_true, Option.bind_some, Option.map_some, Z.wipe, c_lt, e1, e2]
    refine pk onS (.inr rfl) _ fun s h'' b2 => ?_
    simp +decide only [decide_true, decide_false, true_and, and_true, ZW.kO_some, ZW.kO_none, ZW.kO_map, ZW.kO_bind, ZW.kO_if, ZW.kS_nx, ZW.kS_ret, ZW.kS_brk, ZW.kS_cont, ZW.kB_bl, ZW.kI_int, ZW.kF_fr, ZW.kStr_str, ZW.kVar_val, ZW.kOwn_own, ZW.kRet_ret, ZW.kRet_nx, ZW.dg_v, ZW.dg_fr, ZW.wdg_v, ZW.wdg_fr, ZW.wdg_bw, ZW.get_0, ZW.get_s, ZW.e_var, ZW.e_own, ZW.e_int, ZW.e_bl, ZW.e_non, ZW.e_str, ZW.e_glo, ZW.e_tup, ZW.e_lst, ZW.e_bin, ZW.e_cmp, ZW.e_neg, ZW.e_not, ZW.e_and, ZW.e_or, ZW.e_ifE, ZW.e_idx, ZW.e_sl, ZW.e_call, ZW.e_bi, ZW.e_sset, ZW.e_isi, ZW.e_mth, ZW.op_no, ZW.op_yes, ZW.es_nil, ZW.es_cons, ZW.ws_nil, ZW.ws_cons, ZW.an_one, ZW.an_cons, ZW.or_one, ZW.or_cons, ZW.t_e, ZW.t_cmp', ZW.t_not', ZW.t_and', ZW.t_or', ZW.ts_nil, ZW.ts_cons, ZW.to_nil, ZW.to_cons, ZW.ss_nil, ZW.ss_cons, ZW.s_ex, ZW.s_asg, ZW.s_asgO, ZW.s_asgC, ZW.s_par, ZW.par_nil, ZW.par_t, ZW.par_f, ZW.kTup_tup, ZW.s_star, ZW.s_ret, ZW.kRF_fr, ZW.kRF_bw, ZW.s_retF, ZW.s_retN, ZW.s_iff, ZW.s_app, ZW.s_setO, ZW.kRef_ref, ZW.s_setR, ZW.s_frz, ZW.s_brk, ZW.s_cont, ZW.s_pass, ZW.bt_nm, ZW.bt_tp, ZW.bt_lp, ZW.bts_nil, ZW.bts_cons, ZW.kSeq_tup, ZW.kSeq_lst, ZW.kSeq_scr, ZW.kSeq_str, ZW.it_seq, ZW.it_rng, ZW.it_rng2, ZW.kZip_lst, ZW.kZip_tup, ZW.it_zip, ZW.kLst_lst, ZW.it_enum, ZW.tw_post, ZW.tx_post, ZW.s_for, ZW.e_comp, ZW.kT_nx, ZW.kT_cont, ZW.kT_brk, ZW.kT_ret, Z.setAll, List.set_cons_zero, List.set_cons_succ, if_true, if_false, Bool.false_eq_true, Option.bind_some, Option.map_some, Z.wipe, List.length_cons, List.length_nil]
    exact q (.on s) _ (Nat.le_refl _) b2
def dT : Nat → Nat
  | 0 => 2
  | d + 1 => 2 * dT d + 3
theorem dT2 : ∀ d, 2 ≤ dT d
  | 0 => Nat.le_refl _
  | d + 1 => by have := dT2 d; unfold dT; omega
theorem deep_ok (h0 : xs ≠ []) (h1 : xs.length < 1000) : ∀ (d k f : Nat) (i : Int) (h : LH) (Q : Rv → LH → Prop), 1 ≤ i → i ≤ d + 1 → d < 100 → d + 4 ≤ k → Box (f + dT d) r h → (∀ (c : C) h', c.dp ≤ d + 1 → Box f r h' → Q (.v c.d) h') → (run fs G wf k 9 [.ref r, .lst (xs.map .str), .int i] h).post Q XF := by
  intro d
  induction d with
  | zero =>
    intro k f i h Q hi1 hi2 hd hk hb q
    obtain ⟨k, rfl⟩ : ∃ j, k = j + 4 := ⟨k - 4, by omega⟩
    rw [w_run (fn := f9) rfl rfl]
    rw [show startE f9 [.ref r, .lst (xs.map .str), .int i] = [.val (.ref r), .val (.lst (xs.map .str)), .val (.int i), .emp, .emp, .emp] from rfl]
    have e1 : decide (i < 2) = true := decide_eq_true (by omega)
    simp +decide only [f9, decide_true, decide_false, true_and, and_true, ZW.kO_some, ZW.kO_none, ZW.kO_map, ZW.kO_bind, ZW.kO_if, ZW.kS_nx, ZW.kS_ret, ZW.kS_brk, ZW.kS_cont, ZW.kB_bl, ZW.kI_int, ZW.kF_fr, ZW.kStr_str, ZW.kVar_val, ZW.kOwn_own, ZW.kRet_ret, ZW.kRet_nx, ZW.dg_v, ZW.dg_fr, ZW.wdg_v, ZW.wdg_fr, ZW.wdg_bw, ZW.get_0, ZW.get_s, ZW.e_var, ZW.e_own, ZW.e_int, ZW.e_bl, ZW.e_non, ZW.e_str, ZW.e_glo, ZW.e_tup, ZW.e_lst, ZW.e_bin, ZW.e_cmp, ZW.e_neg, ZW.e_not, ZW.e_and, ZW.e_or, ZW.e_ifE, ZW.e_idx, ZW.e_sl, ZW.e_call, ZW.e_bi, ZW.e_sset, ZW.e_isi, ZW.e_mth, ZW.op_no, ZW.op_yes, ZW.es_nil, ZW.es_cons, ZW.ws_nil, ZW.ws_cons, ZW.an_one, ZW.an_cons, ZW.or_one, ZW.or_cons, ZW.t_e, ZW.t_cmp', ZW.t_not', ZW.t_and', ZW.t_or', ZW.ts_nil, ZW.ts_cons, ZW.to_nil, ZW.to_cons, ZW.ss_nil, ZW.ss_cons, ZW.s_ex, ZW.s_asg, ZW.s_asgO, ZW.s_asgC, ZW.s_par, ZW.par_nil, ZW.par_t, ZW.par_f, ZW.kTup_tup, ZW.s_star, ZW.s_ret, ZW.kRF_fr, ZW.kRF_bw, ZW.s_retF, ZW.s_retN, ZW.s_iff, ZW.s_app, ZW.s_setO, ZW.kRef_ref, ZW.s_setR, ZW.s_frz, ZW.s_brk, ZW.s_cont, ZW.s_pass, ZW.bt_nm, ZW.bt_tp, ZW.bt_lp, ZW.bts_nil, ZW.bts_cons, ZW.kSeq_tup, ZW.kSeq_lst, ZW.kSeq_scr, ZW.kSeq_str, ZW.it_seq, ZW.it_rng, ZW.it_rng2, ZW.kZip_lst, ZW.kZip_tup, ZW.it_zip, ZW.kLst_lst, ZW.it_enum, ZW.tw_post, ZW.tx_post, ZW.s_for, ZW.e_comp, ZW.kT_nx, ZW.kT_cont, ZW.kT_brk, ZW.kT_ret, Z.setAll, List.set_cons_zero, List.set_cons_succ, if_true, if_false, Bool.false_eq_true, Option.bind_some, Option.map_some, Z.wipe, c_lt, e1]
    refine leaf_ok h0 h1 hb fun c h' hc b => ?_
    simp +decide only [ZW.kO_some, ZW.kO_none, ZW.kO_map, ZW.kO_bind, ZW.kO_if, ZW.kS_nx, ZW.kS_ret, ZW.kS_brk, ZW.kS_cont, ZW.kB_bl, ZW.kI_int, ZW.kF_fr, ZW.kStr_str, ZW.kVar_val, ZW.kOwn_own, ZW.kRet_ret, ZW.kRet_nx, ZW.dg_v, ZW.dg_fr, ZW.wdg_v, ZW.wdg_fr, ZW.wdg_bw, ZW.get_0, ZW.get_s, ZW.e_var, ZW.e_own, ZW.e_int, ZW.e_bl, ZW.e_non, ZW.e_str, ZW.e_glo, ZW.e_tup, ZW.e_lst, ZW.e_bin, ZW.e_cmp, ZW.e_neg, ZW.e_not, ZW.e_and, ZW.e_or, ZW.e_ifE, ZW.e_idx, ZW.e_sl, ZW.e_call, ZW.e_bi, ZW.e_sset, ZW.e_isi, ZW.e_mth, ZW.op_no, ZW.op_yes, ZW.es_nil, ZW.es_cons, ZW.ws_nil, ZW.ws_cons, ZW.an_one, ZW.an_cons, ZW.or_one, ZW.or_cons, ZW.t_e, ZW.t_cmp', ZW.t_not', ZW.t_and', ZW.t_or', ZW.ts_nil, ZW.ts_cons, ZW.to_nil, ZW.to_cons, ZW.ss_nil, ZW.ss_cons, ZW.s_ex, ZW.s_asg, ZW.s_asgO, ZW.s_asgC, ZW.s_par, ZW.par_nil, ZW.par_t, ZW.par_f, ZW.kTup_tup, ZW.s_star, ZW.s_ret, ZW.kRF_fr, ZW.kRF_bw, ZW.s_retF, ZW.s_retN, ZW.s_iff, ZW.s_app, ZW.s_setO, ZW.kRef_ref, ZW.s_setR, ZW.s_frz, ZW.s_brk, ZW.s_cont, ZW.s_pass, ZW.bt_nm, ZW.bt_tp, ZW.bt_lp, ZW.bts_nil, ZW.bts_cons, ZW.kSeq_tup, ZW.kSeq_lst, ZW.kSeq_scr, ZW.kSeq_str, ZW.it_seq, ZW.it_rng, ZW.it_rng2, ZW.kZip_lst, ZW.kZip_tup, ZW.it_zip, ZW.kLst_lst, ZW.it_enum, ZW.tw_post, ZW.tx_post, ZW.s_for, ZW.e_comp, ZW.kT_nx, ZW.kT_cont, ZW.kT_brk, ZW.kT_ret, Z.setAll, List.set_cons_zero, List.set_cons_succ, if_true, if_false, Bool.false_eq_true, Option.bind_some, Option.map_some, Z.wipe]
    exact q c h' hc b
  | succ d ih =>
    intro k f i h Q hi1 hi2 hd hk hb q
    obtain ⟨k, rfl⟩ : ∃ j, k = j + 4 := ⟨k - 4, by omega⟩
    have t2 := dT2 (d + 1)
    have tt : dT (d + 1) = 2 * dT d + 3 := rfl
    rw [w_run (fn := f9) rfl rfl]
    rw [show startE f9 [.ref r, .lst (xs.map .str), .int i] = [.val (.ref r), .val (.lst (xs.map .str)), .val (.int i), .emp, .emp, .emp] from rfl]
    by_cases e : i < 2
    · have e1 : decide (i < 2) = true := decide_eq_true e
      simp +decide only [f9, decide_true, decide_false, true_and, and_true, ZW.kO_some, ZW.kO_none, ZW.kO_map, ZW.kO_bind, ZW.kO_if, ZW.kS_nx, ZW.kS_ret, ZW.kS_brk, ZW.kS_cont, ZW.kB_bl, ZW.kI_int, ZW.kF_fr, ZW.kStr_str, ZW.kVar_val, ZW.kOwn_own, ZW.kRet_ret, ZW.kRet_nx, ZW.dg_v, ZW.dg_fr, ZW.wdg_v, ZW.wdg_fr, ZW.wdg_bw, ZW.get_0, ZW.get_s, ZW.e_var, ZW.e_own, ZW.e_int, ZW.e_bl, ZW.e_non, ZW.e_str, ZW.e_glo, ZW.e_tup, ZW.e_lst, ZW.e_bin, ZW.e_cmp, ZW.e_neg, ZW.e_not, ZW.e_and, ZW.e_or, ZW.e_ifE, ZW.e_idx, ZW.e_sl, ZW.e_call, ZW.e_bi, ZW.e_sset, ZW.e_isi, ZW.e_mth, ZW.op_no, ZW.op_yes, ZW.es_nil, ZW.es_cons, ZW.ws_nil, ZW.ws_cons, ZW.an_one, ZW.an_cons, ZW.or_one, ZW.or_cons, ZW.t_e, ZW.t_cmp', ZW.t_not', ZW.t_and', ZW.t_or', ZW.ts_nil, ZW.ts_cons, ZW.to_nil, ZW.to_cons, ZW.ss_nil, ZW.ss_cons, ZW.s_ex, ZW.s_asg, ZW.s_asgO, ZW.s_asgC, ZW.s_par, ZW.par_nil, ZW.par_t, ZW.par_f, ZW.kTup_tup, ZW.s_star, ZW.s_ret, ZW.kRF_fr, ZW.kRF_bw, ZW.s_retF, ZW.s_retN, ZW.s_iff, ZW.s_app, ZW.s_setO, ZW.kRef_ref, ZW.s_setR, ZW.s_frz, ZW.s_brk, ZW.s_cont, ZW.s_pass, ZW.bt_nm, ZW.bt_tp, ZW.bt_lp, ZW.bts_nil, ZW.bts_cons, ZW.kSeq_tup, ZW.kSeq_lst, ZW.kSeq_scr, ZW.kSeq_str, ZW.it_seq, ZW.it_rng, ZW.it_rng2, ZW.kZip_lst, ZW.kZip_tup, ZW.it_zip, ZW.kLst_lst, ZW.it_enum, ZW.tw_post, ZW.tx_post, ZW.s_for, ZW.e_comp, ZW.kT_nx, ZW.kT_cont, ZW.kT_brk, ZW.kT_ret, Z.setAll, List.set_cons_zero, List.set_cons_succ, if_true, if_false, Bool.false_eq_true, Option.bind_some, Option.map_some, Z.wipe, c_lt, e1]
      refine leaf_ok (f := f) h0 h1 (hb.less (by omega)) fun c h' hc b => ?_
      simp +decide only [ZW.kO_some, ZW.kO_none, ZW.kO_map, ZW.kO_bind, ZW.kO_if, ZW.kS_nx, ZW.kS_ret, ZW.kS_brk, ZW.kS_cont, ZW.kB_bl, ZW.kI_int, ZW.kF_fr, ZW.kStr_str, ZW.kVar_val, ZW.kOwn_own, ZW.kRet_ret, ZW.kRet_nx, ZW.dg_v, ZW.dg_fr, ZW.wdg_v, ZW.wdg_fr, ZW.wdg_bw, ZW.get_0, ZW.get_s, ZW.e_var, ZW.e_own, ZW.e_int, ZW.e_bl, ZW.e_non, ZW.e_str, ZW.e_glo, ZW.e_tup, ZW.e_lst, ZW.e_bin, ZW.e_cmp, ZW.e_neg, ZW.e_not, ZW.e_and, ZW.e_or, ZW.e_ifE, ZW.e_idx, ZW.e_sl, ZW.e_call, ZW.e_bi, ZW.e_sset, ZW.e_isi, ZW.e_mth, ZW.op_no, ZW.op_yes, ZW.es_nil, ZW.es_cons, ZW.ws_nil, ZW.ws_cons, ZW.an_one, ZW.an_cons, ZW.or_one, ZW.or_cons, ZW.t_e, ZW.t_cmp', ZW.t_not', ZW.t_and', ZW.t_or', ZW.ts_nil, ZW.ts_cons, ZW.to_nil, ZW.to_cons, ZW.ss_nil, ZW.ss_cons, ZW.s_ex, ZW.s_asg, ZW.s_asgO, ZW.s_asgC, ZW.s_par, ZW.par_nil, ZW.par_t, ZW.par_f, ZW.kTup_tup, ZW.s_star, ZW.s_ret, ZW.kRF_fr, ZW.kRF_bw, ZW.s_retF, ZW.s_retN, ZW.s_iff, ZW.s_app, ZW.s_setO, ZW.kRef_ref, ZW.s_setR, ZW.s_frz, ZW.s_brk, ZW.s_cont, ZW.s_pass, ZW.bt_nm, ZW.bt_tp, ZW.bt_lp, ZW.bts_nil, ZW.bts_cons, ZW.kSeq_tup, ZW.kSeq_lst, ZW.kSeq_scr, ZW.kSeq_str, ZW.it_seq, ZW.it_rng, ZW.it_rng2, ZW.kZip_lst, ZW.kZip_tup, ZW.it_zip, ZW.kLst_lst, ZW.it_enum, ZW.tw_post, ZW.tx_post, ZW.s_for, ZW.e_comp, ZW.kT_nx, ZW.kT_cont, ZW.kT_brk, ZW.kT_ret, Z.setAll, List.set_cons_zero, List.set_cons_succ, if_true, if_false, Bool.false_eq_true, Option.bind_some, Option.map_some, Z.wipe]
      exact q c h' (by omega) b
    · have e1 : decide (i < 2) = false := decide_eq_false e
      simp +decide only [f9, decide_true, decide_false, true_and, and_true, ZW.kO_some, ZW.kO_none, ZW.kO_map, ZW.kO_bind, ZW.kO_if, ZW.kS_nx, ZW.kS_ret, ZW.kS_brk, ZW.kS_cont, ZW.kB_bl, ZW.kI_int, ZW.kF_fr, ZW.kStr_str, ZW.kVar_val, ZW.kOwn_own, ZW.kRet_ret, ZW.kRet_nx, ZW.dg_v, ZW.dg_fr, ZW.wdg_v, ZW.wdg_fr, ZW.wdg_bw, ZW.get_0, ZW.get_s, ZW.e_var, ZW.e_own, ZW.e_int, ZW.e_bl, ZW.e_non, ZW.e_str, ZW.e_glo, ZW.e_tup, ZW.e_lst, ZW.e_bin, ZW.e_cmp, ZW.e_neg, ZW.e_not, ZW.e_and, ZW.e_or, ZW.e_ifE, ZW.e_idx, ZW.e_sl, ZW.e_call, ZW.e_bi, ZW.e_sset, ZW.e_isi, ZW.e_mth, ZW.op_no, ZW.op_yes, ZW.es_nil, ZW.es_cons, ZW.ws_nil, ZW.ws_cons, ZW.an_one, ZW.an_cons, ZW.or_one, ZW.or_cons, ZW.t_e, ZW.t_cmp', ZW.t_not', ZW.t_and', ZW.t_or', ZW.ts_nil, ZW.ts_cons, ZW.to_nil, ZW.to_cons, ZW.ss_nil, ZW.ss_cons, ZW.s_ex, ZW.s_asg, ZW.s_asgO, ZW.s_asgC, ZW.s_par, ZW.par_nil, ZW.par_t, ZW.par_f, ZW.kTup_tup, ZW.s_star, ZW.s_ret, ZW.kRF_fr, ZW.kRF_bw, ZW.s_retF, ZW.s_retN, ZW.s_iff, ZW.s_app, ZW.s_setO, ZW.kRef_ref, ZW.s_setR, ZW.s_frz, ZW.s_brk, ZW.s_cont, ZW.s_pass, ZW.bt_nm, ZW.bt_tp, ZW.bt_lp, ZW.bts_nil, ZW.bts_cons, ZW.kSeq_tup, ZW.kSeq_lst, ZW.kSeq_scr, ZW.kSeq_str, ZW.it_seq, ZW.it_rng, ZW.it_rng2, ZW.kZip_lst, ZW.kZip_tup, ZW.it_zip, ZW.kLst_lst, ZW.it_enum, ZW.tw_post, ZW.tx_post, ZW.s_for, ZW.e_comp, ZW.kT_nx, ZW.kT_cont, ZW.kT_brk, ZW.kT_ret, Z.setAll, List.set_cons_zero, List.set_cons_succ, if_true, if_false, Bool.false_eq_true, Option.bind_some, Option.map_some, Z.wipe, c_lt, e1]
      refine take_ok i2 (f := f + 2 * dT d + 2) (k := 3) (by decide) (by decide) (hb.less (by omega)) fun j h2 j0 j1 b2 => ?_
      simp +decide only [decide_true, decide_false, true_and, and_true, ZW.kO_some, ZW.kO_none, ZW.kO_map, ZW.kO_bind, ZW.kO_if, ZW.kS_nx, ZW.kS_ret, ZW.kS_brk, ZW.kS_cont, ZW.kB_bl, ZW.kI_int, ZW.kF_fr, ZW.kStr_str, ZW.kVar_val, ZW.kOwn_own, ZW.kRet_ret, ZW.kRet_nx, ZW.dg_v, ZW.dg_fr, ZW.wdg_v, ZW.wdg_fr, ZW.wdg_bw, ZW.get_0, ZW.get_s, ZW.e_var, ZW.e_own, ZW.e_int, ZW.e_bl, ZW.e_non, ZW.e_str, ZW.e_glo, ZW.e_tup, ZW.e_lst, ZW.e_bin, ZW.e_cmp, ZW.e_neg, ZW.e_not, ZW.e_and, ZW.e_or, ZW.e_ifE, ZW.e_idx, ZW.e_sl, ZW.e_call, ZW.e_bi, ZW.e_sset, ZW.e_isi, ZW.e_mth, ZW.op_no, ZW.op_yes, ZW.es_nil, ZW.es_cons, ZW.ws_nil, ZW.ws_cons, ZW.an_one, ZW.an_cons, ZW.or_one, ZW.or_cons, ZW.t_e, ZW.t_cmp', ZW.t_not', ZW.t_and', ZW.t_or', ZW.ts_nil, ZW.ts_cons, ZW.to_nil, ZW.to_cons, ZW.ss_nil, ZW.ss_cons, ZW.s_ex, ZW.s_asg, ZW.s_asgO, ZW.s_asgC, ZW.s_par, ZW.par_nil, ZW.par_t, ZW.par_f, ZW.kTup_tup, ZW.s_star, ZW.s_ret, ZW.kRF_fr, ZW.kRF_bw, ZW.s_retF, ZW.s_retN, ZW.s_iff, ZW.s_app, ZW.s_setO, ZW.kRef_ref, ZW.s_setR, ZW.s_frz, ZW.s_brk, ZW.s_cont, ZW.s_pass, ZW.bt_nm, ZW.bt_tp, ZW.bt_lp, ZW.bts_nil, ZW.bts_cons, ZW.kSeq_tup, ZW.kSeq_lst, ZW.kSeq_scr, ZW.kSeq_str, ZW.it_seq, ZW.it_rng, ZW.it_rng2, ZW.kZip_lst, ZW.kZip_tup, ZW.it_zip, ZW.kLst_lst, ZW.it_enum, ZW.tw_post, ZW.tx_post, ZW.s_for, ZW.e_comp, ZW.kT_nx, ZW.kT_cont, ZW.kT_brk, ZW.kT_ret, Z.setAll, List.set_cons_zero, List.set_cons_succ, if_true, if_false, Bool.false_eq_true, Option.bind_some, Option.map_some, Z.wipe, b_sub]
      refine ih (k + 3) (f + dT d + 2) (i - 1) _ _ (by omega) (by omega) (by omega) (by omega) (b2.less (by omega)) fun c1 h3 hc1 b3 => ?_
      simp +decide only [decide_true, decide_false, true_and, and_true, ZW.kO_some, ZW.kO_none, ZW.kO_map, ZW.kO_bind, ZW.kO_if, ZW.kS_nx, ZW.kS_ret, ZW.kS_brk, ZW.kS_cont, ZW.kB_bl, ZW.kI_int, ZW.kF_fr, ZW.kStr_str, ZW.kVar_val, ZW.kOwn_own, ZW.kRet_ret, ZW.kRet_nx, ZW.dg_v, ZW.dg_fr, ZW.wdg_v, ZW.wdg_fr, ZW.wdg_bw, ZW.get_0, ZW.get_s, ZW.e_var, ZW.e_own, ZW.e_int, ZW.e_bl, ZW.e_non, ZW.e_str, ZW.e_glo, ZW.e_tup, ZW.e_lst, ZW.e_bin, ZW.e_cmp, ZW.e_neg, ZW.e_not, ZW.e_and, ZW.e_or, ZW.e_ifE, ZW.e_idx, ZW.e_sl, ZW.e_call, ZW.e_bi, ZW.e_sset, ZW.e_isi, ZW.e_mth, ZW.op_no, ZW.op_yes, ZW.es_nil, ZW.es_cons, ZW.ws_nil, ZW.ws_cons, ZW.an_one, ZW.an_cons, ZW.or_one, ZW.or_cons, ZW.t_e, ZW.t_cmp', ZW.t_not', ZW.t_and', ZW.t_or', ZW.ts_nil, ZW.ts_cons, ZW.to_nil, ZW.to_cons, ZW.ss_nil, ZW.ss_cons, ZW.s_ex, ZW.s_asg, ZW.s_asgO, ZW.s_asgC, ZW.s_par, ZW.par_nil, ZW.par_t, ZW.par_f, ZW.kTup_tup, ZW.s_star, ZW.s_ret, ZW.kRF_fr, ZW.kRF_bw, ZW.s_retF, ZW.s_retN, ZW.s_iff, ZW.s_app, ZW.s_setO, ZW.kRef_ref, ZW.s_setR, ZW.s_frz, ZW.s_brk, ZW.s_cont, ZW.s_pass, ZW.bt_nm, ZW.bt_tp, ZW.bt_lp, ZW.bts_nil, ZW.bts_cons, ZW.kSeq_tup, ZW.kSeq_lst, ZW.kSeq_scr, ZW.kSeq_str, ZW.it_seq, ZW.it_rng, ZW.it_rng2, ZW.kZip_lst, ZW.kZip_tup, ZW.it_zip, ZW.kLst_lst, ZW.it_enum, ZW.tw_post, ZW.tx_post, ZW.s_for, ZW.e_comp, ZW.kT_nx, ZW.kT_cont, ZW.kT_brk, ZW.kT_ret, Z.setAll, List.set_cons_zero, List.set_cons_succ, if_true, if_false, Bool.false_eq_true, Option.bind_some, Option.map_some, Z.wipe, c_eq, p_int, q_int, Bool.and_self]
      by_cases ej : j = 0
      · subst ej
        simp +decide only [decide_true, decide_false, true_and, and_true, ZW.kO_some, ZW.kO_none, ZW.kO_map, ZW.kO_bind, ZW.kO_if, ZW.kS_nx, ZW.kS_ret, ZW.kS_brk, ZW.kS_cont, ZW.kB_bl, ZW.kI_int, ZW.kF_fr, ZW.kStr_str, ZW.kVar_val, ZW.kOwn_own, ZW.kRet_ret, ZW.kRet_nx, ZW.dg_v, ZW.dg_fr, ZW.wdg_v, ZW.wdg_fr, ZW.wdg_bw, ZW.get_0, ZW.get_s, ZW.e_var, ZW.e_own, ZW.e_int, ZW.e_bl, ZW.e_non, ZW.e_str, ZW.e_glo, ZW.e_tup, ZW.e_lst, ZW.e_bin, ZW.e_cmp, ZW.e_neg, ZW.e_not, ZW.e_and, ZW.e_or, ZW.e_ifE, ZW.e_idx, ZW.e_sl, ZW.e_call, ZW.e_bi, ZW.e_sset, ZW.e_isi, ZW.e_mth, ZW.op_no, ZW.op_yes, ZW.es_nil, ZW.es_cons, ZW.ws_nil, ZW.ws_cons, ZW.an_one, ZW.an_cons, ZW.or_one, ZW.or_cons, ZW.t_e, ZW.t_cmp', ZW.t_not', ZW.t_and', ZW.t_or', ZW.ts_nil, ZW.ts_cons, ZW.to_nil, ZW.to_cons, ZW.ss_nil, ZW.ss_cons, ZW.s_ex, ZW.s_asg, ZW.s_asgO, ZW.s_asgC, ZW.s_par, ZW.par_nil, ZW.par_t, ZW.par_f, ZW.kTup_tup, ZW.s_star, ZW.s_ret, ZW.kRF_fr, ZW.kRF_bw, ZW.s_retF, ZW.s_retN, ZW.s_iff, ZW.s_app, ZW.s_setO, ZW.kRef_ref, ZW.s_setR, ZW.s_frz, ZW.s_brk, ZW.s_cont, ZW.s_pass, ZW.bt_nm, ZW.bt_tp, ZW.bt_lp, ZW.bts_nil, ZW.bts_cons, ZW.kSeq_tup, ZW.kSeq_lst, ZW.kSeq_scr, ZW.kSeq_str, ZW.it_seq, ZW.it_rng, ZW.it_rng2, ZW.kZip_lst, ZW.kZip_tup, ZW.it_zip, ZW.kLst_lst, ZW.it_enum, ZW.tw_post, ZW.tx_post, ZW.s_for, ZW.e_comp, ZW.kT_nx, ZW.kT_cont, ZW.kT_brk, ZW.kT_ret, Z.setAll, List.set_cons_zero, List.set_cons_succ, if_true, if_false, Bool.false_eq_true, Option.bind_some, Option.map_some, Z.wipe, List.length_cons, List.length_nil]
        exact q (.not c1) _ (show c1.dp + 1 ≤ _ by omega) (b3.less (by omega))
      · have ej2 : (j == 0) = false := beq_false_of_ne ej
        simp +decide only [ej2, decide_true, decide_false, true_and, and_true, ZW.kO_some, ZW.kO_none, ZW.kO_map, ZW.kO_bind, ZW.kO_if, ZW.kS_nx, ZW.kS_ret, ZW.kS_brk, ZW.kS_cont, ZW.kB_bl, ZW.kI_int, ZW.kF_fr, ZW.kStr_str, ZW.kVar_val, ZW.kOwn_own, ZW.kRet_ret, ZW.kRet_nx, ZW.dg_v, ZW.dg_fr, ZW.wdg_v, ZW.wdg_fr, ZW.wdg_bw, ZW.get_0, ZW.get_s, ZW.e_var, ZW.e_own, ZW.e_int, ZW.e_bl, ZW.e_non, ZW.e_str, ZW.e_glo, ZW.e_tup, ZW.e_lst, ZW.e_bin, ZW.e_cmp, ZW.e_neg, ZW.e_not, ZW.e_and, ZW.e_or, ZW.e_ifE, ZW.e_idx, ZW.e_sl, ZW.e_call, ZW.e_bi, ZW.e_sset, ZW.e_isi, ZW.e_mth, ZW.op_no, ZW.op_yes, ZW.es_nil, ZW.es_cons, ZW.ws_nil, ZW.ws_cons, ZW.an_one, ZW.an_cons, ZW.or_one, ZW.or_cons, ZW.t_e, ZW.t_cmp', ZW.t_not', ZW.t_and', ZW.t_or', ZW.ts_nil, ZW.ts_cons, ZW.to_nil, ZW.to_cons, ZW.ss_nil, ZW.ss_cons, ZW.s_ex, ZW.s_asg, ZW.s_asgO, ZW.s_asgC, ZW.s_par, ZW.par_nil, ZW.par_t, ZW.par_f, ZW.kTup_tup, ZW.s_star, ZW.s_ret, ZW.kRF_fr, ZW.kRF_bw, ZW.s_retF, ZW.s_retN, ZW.s_iff, ZW.s_app, ZW.s_setO, ZW.kRef_ref, ZW.s_setR, ZW.s_frz, ZW.s_brk, ZW.s_cont, ZW.s_pass, ZW.bt_nm, ZW.bt_tp, ZW.bt_lp, ZW.bts_nil, ZW.bts_cons, ZW.kSeq_tup, ZW.kSeq_lst, ZW.kSeq_scr, ZW.kSeq_str, ZW.it_seq, ZW.it_rng, ZW.it_rng2, ZW.kZip_lst, ZW.kZip_tup, ZW.it_zip, ZW.kLst_lst, ZW.it_enum, ZW.tw_post, ZW.tx_post, ZW.s_for, ZW.e_comp, ZW.kT_nx, ZW.kT_cont, ZW.kT_brk, ZW.kT_ret, Z.setAll, List.set_cons_zero, List.set_cons_succ, if_true, if_false, Bool.false_eq_true, Option.bind_some, Option.map_some, Z.wipe, b_sub]
        refine take_ok i2 (f := f + dT d + 1) (k := i - 1) (by omega) (by omega) (b3.less (by omega)) fun j2 h4 j20 j21 b4 => ?_
        simp +decide only [decide_true, decide_false, true_and, and_true, ZW.kO_some, ZW.kO_none, ZW.kO_map, ZW.kO_bind, ZW.kO_if, ZW.kS_nx, ZW.kS_ret, ZW.kS_brk, ZW.kS_cont, ZW.kB_bl, ZW.kI_int, ZW.kF_fr, ZW.kStr_str, ZW.kVar_val, ZW.kOwn_own, ZW.kRet_ret, ZW.kRet_nx, ZW.dg_v, ZW.dg_fr, ZW.wdg_v, ZW.wdg_fr, ZW.wdg_bw, ZW.get_0, ZW.get_s, ZW.e_var, ZW.e_own, ZW.e_int, ZW.e_bl, ZW.e_non, ZW.e_str, ZW.e_glo, ZW.e_tup, ZW.e_lst, ZW.e_bin, ZW.e_cmp, ZW.e_neg, ZW.e_not, ZW.e_and, ZW.e_or, ZW.e_ifE, ZW.e_idx, ZW.e_sl, ZW.e_call, ZW.e_bi, ZW.e_sset, ZW.e_isi, ZW.e_mth, ZW.op_no, ZW.op_yes, ZW.es_nil, ZW.es_cons, ZW.ws_nil, ZW.ws_cons, ZW.an_one, ZW.an_cons, ZW.or_one, ZW.or_cons, ZW.t_e, ZW.t_cmp', ZW.t_not', ZW.t_and', ZW.t_or', ZW.ts_nil, ZW.ts_cons, ZW.to_nil, ZW.to_cons, ZW.ss_nil, ZW.ss_cons, ZW.s_ex, ZW.s_asg, ZW.s_asgO, ZW.s_asgC, ZW.s_par, ZW.par_nil, ZW.par_t, ZW.par_f, ZW.kTup_tup, ZW.s_star, ZW.s_ret, ZW.kRF_fr, ZW.kRF_bw, ZW.s_retF, ZW.s_retN, ZW.s_iff, ZW.s_app, ZW.s_setO, ZW.kRef_ref, ZW.s_setR, ZW.s_frz, ZW.s_brk, ZW.s_cont, ZW.s_pass, ZW.bt_nm, ZW.bt_tp, ZW.bt_lp, ZW.bts_nil, ZW.bts_cons, ZW.kSeq_tup, ZW.kSeq_lst, ZW.kSeq_scr, ZW.kSeq_str, ZW.it_seq, ZW.it_rng, ZW.it_rng2, ZW.kZip_lst, ZW.kZip_tup, ZW.it_zip, ZW.kLst_lst, ZW.it_enum, ZW.tw_post, ZW.tx_post, ZW.s_for, ZW.e_comp, ZW.kT_nx, ZW.kT_cont, ZW.kT_brk, ZW.kT_ret, Z.setAll, List.set_cons_zero, List.set_cons_succ, if_true, if_false, Bool.false_eq_true, Option.bind_some, Option.map_some, Z.wipe, b_add]
        refine ih (k + 3) (f + 1) (1 + j2) _ _ (by omega) (by omega) (by omega) (by omega) (b4.less (by omega)) fun c2 h5 hc2 b5 => ?_
        simp +decide only [decide_true, decide_false, true_and, and_true, ZW.kO_some, ZW.kO_none, ZW.kO_map, ZW.kO_bind, ZW.kO_if, ZW.kS_nx, ZW.kS_ret, ZW.kS_brk, ZW.kS_cont, ZW.kB_bl, ZW.kI_int, ZW.kF_fr, ZW.kStr_str, ZW.kVar_val, ZW.kOwn_own, ZW.kRet_ret, ZW.kRet_nx, ZW.dg_v, ZW.dg_fr, ZW.wdg_v, ZW.wdg_fr, ZW.wdg_bw, ZW.get_0, ZW.get_s, ZW.e_var, ZW.e_own, ZW.e_int, ZW.e_bl, ZW.e_non, ZW.e_str, ZW.e_glo, ZW.e_tup, ZW.e_lst, ZW.e_bin, ZW.e_cmp, ZW.e_neg, ZW.e_not, ZW.e_and, ZW.e_or, ZW.e_ifE, ZW.e_idx, ZW.e_sl, ZW.e_call, ZW.e_bi, ZW.e_sset, ZW.e_isi, ZW.e_mth, ZW.op_no, ZW.op_yes, ZW.es_nil, ZW.es_cons, ZW.ws_nil, ZW.ws_cons, ZW.an_one, ZW.an_cons, ZW.or_one, ZW.or_cons, ZW.t_e, ZW.t_cmp', ZW.t_not', ZW.t_and', ZW.t_or', ZW.ts_nil, ZW.ts_cons, ZW.to_nil, ZW.to_cons, ZW.ss_nil, ZW.ss_cons, ZW.s_ex, ZW.s_asg, ZW.s_asgO, ZW.s_asgC, ZW.s_par, ZW.par_nil, ZW.par_t, ZW.par_f, ZW.kTup_tup, ZW.s_star, ZW.s_ret, ZW.kRF_fr, ZW.kRF_bw, ZW.s_retF, ZW.s_retN, ZW.s_iff, ZW.s_app, ZW.s_setO, ZW.kRef_ref, ZW.s_setR, ZW.s_frz, ZW.s_brk, ZW.s_cont, ZW.s_pass, ZW.bt_nm, ZW.bt_tp, ZW.bt_lp, ZW.bts_nil, ZW.bts_cons, ZW.kSeq_tup, ZW.kSeq_lst, ZW.kSeq_scr, ZW.kSeq_str, ZW.it_seq, ZW.it_rng, ZW.it_rng2, ZW.kZip_lst, ZW.kZip_tup, ZW.it_zip, ZW.kLst_lst, ZW.it_enum, ZW.tw_post, ZW.tx_post, ZW.s_for, ZW.e_comp, ZW.kT_nx, ZW.kT_cont, ZW.kT_brk, ZW.kT_ret, Z.setAll, List.set_cons_zero, List.set_cons_succ, if_true, if_false, Bool.false_eq_true, Option.bind_some, Option.map_some, Z.wipe]
        refine take_ok i2 (f := f) (k := 2) (by omega) (by omega) b5 fun j3 h6 j30 j31 b6 => ?_
        have ew : j - 1 = 0 ∨ j - 1 = 1 := by omega
        have m1 : max c1.dp c2.dp + 1 ≤ d + 1 + 1 := by omega
        have m2 : max c2.dp c1.dp + 1 ≤ d + 1 + 1 := by omega
        have e3 : j3 = 0 ∨ j3 = 1 := by omega
        rcases ew with ew | ew <;> rcases e3 with rfl | rfl <;> simp +decide only [decide_true, decide_false, true_and, and_true, ZW.kO_some, ZW.kO_none, ZW.kO_map, ZW.kO_bind, ZW.kO_if, ZW.kS_nx, ZW.kS_ret, ZW.kS_brk, ZW.kS_cont, ZW.kB_bl, ZW.kI_int, ZW.kF_fr, ZW.kStr_str, ZW.kVar_val, ZW.kOwn_own, ZW.kRet_ret, ZW.kRet_nx, ZW.dg_v, ZW.dg_fr, ZW.wdg_v, ZW.wdg_fr, ZW.wdg_bw, ZW.get_0, ZW.get_s, ZW.e_var, ZW.e_own, ZW.e_int, ZW.e_bl, ZW.e_non, ZW.e_str, ZW.e_glo, ZW.e_tup, ZW.e_lst, ZW.e_bin, ZW.e_cmp, ZW.e_neg, ZW.e_not, ZW.e_and, ZW.e_or, ZW.e_ifE, ZW.e_idx, ZW.e_sl, ZW.e_call, ZW.e_bi, ZW.e_sset, ZW.e_isi, ZW.e_mth, ZW.op_no, ZW.op_yes, ZW.es_nil, ZW.es_cons, ZW.ws_nil, ZW.ws_cons, ZW.an_one, ZW.an_cons, ZW.or_one, ZW.or_cons, ZW.t_e, ZW.t_cmp', ZW.t_not', ZW.t_and', ZW.t_or', ZW.ts_nil, ZW.ts_cons, ZW.to_nil, ZW.to_cons, ZW.ss_nil, ZW.ss_cons, ZW.s_ex, ZW.s_asg, ZW.s_asgO, ZW.s_asgC, ZW.s_par, ZW.par_nil, ZW.par_t, ZW.par_f, ZW.kTup_tup, ZW.s_star, ZW.s_ret, ZW.kRF_fr, ZW.kRF_bw, ZW.s_retF, ZW.s_retN, ZW.s_iff, ZW.s_app, ZW.s_setO, ZW.kRef_ref, ZW.s_setR, ZW.s_frz, ZW.s_brk, ZW.s_cont, ZW.s_pass, ZW.bt_nm, ZW.bt_tp, ZW.bt_lp, ZW.bts_nil, ZW.bts_cons, ZW.kSeq_tup, ZW.kSeq_lst, ZW.kSeq_scr, ZW.kSeq_str, ZW.it_seq, ZW.it_rng, ZW.it_rng2, ZW.kZip_lst, ZW.kZip_tup, ZW.it_zip, ZW.kLst_lst, ZW.it_enum, ZW.tw_post, ZW.tx_post, ZW.s_for, ZW.e_comp, ZW.kT_nx, ZW.kT_cont, ZW.kT_brk, ZW.kT_ret, Z.setAll, List.set_cons_zero, List.set_cons_succ, if_true, if_false, Bool.false_eq_true, Option.bind_some, Option.map_some, Z.wipe, c_eq, p_int, q_int, Bool.and_self, b_sub, ew, ix_lst, at_0, at_1, List.length_cons, List.length_nil]
        · exact q (.or c1 c2) _ m1 b6
        · exact q (.or c2 c1) _ m2 b6
        · exact q (.and c1 c2) _ m1 b6
        · exact q (.and c2 c1) _ m2 b6
end
end K03
end

section
namespace K03
open Z ZW
section
variable {wf n : Nat} {h : LH} {Q : Rv → LH → Prop} {xs : List (List Nat)} {r : Nat}
abbrev odd : List (List Nat) := [[121, 101, 115, 97], [110, 111, 116, 115], [119, 97], [97, 110], [111, 114, 97], [116, 104, 101, 110, 116], [116, 105, 108, 108, 111], [111, 110], [97, 108, 119, 97, 121, 115], [102, 105, 114, 115, 116], [115, 111, 111, 110], [119, 105, 116, 104, 105, 110], [110, 101, 120, 116]]
theorem some_ok {f k : Nat} (hb : Box (f + 44) r h) (q : ∀ (xs : List (List Nat)) h', xs.length = 4 → Box f r h' → Q (.fr (xs.map .str)) h') : (run fs G wf (k + 3) 10 [.ref r] h).post Q XF := by
  rw [w_run (fn := f10) rfl rfl]
  rw [show startE f10 [.ref r] = [.val (.ref r), .emp, .emp, .emp, .emp] from rfl]
  simp +decide only [f10, decide_true, decide_false, true_and, and_true, ZW.kO_some, ZW.kO_none, ZW.kO_map, ZW.kO_bind, ZW.kO_if, ZW.kS_nx, ZW.kS_ret, ZW.kS_brk, ZW.kS_cont, ZW.kB_bl, ZW.kI_int, ZW.kF_fr, ZW.kStr_str, ZW.kVar_val, ZW.kOwn_own, ZW.kRet_ret, ZW.kRet_nx, ZW.dg_v, ZW.dg_fr, ZW.wdg_v, ZW.wdg_fr, ZW.wdg_bw, ZW.get_0, ZW.get_s, ZW.e_var, ZW.e_own, ZW.e_int, ZW.e_bl, ZW.e_non, ZW.e_str, ZW.e_glo, ZW.e_tup, ZW.e_lst, ZW.e_bin, ZW.e_cmp, ZW.e_neg, ZW.e_not, ZW.e_and, ZW.e_or, ZW.e_ifE, ZW.e_idx, ZW.e_sl, ZW.e_call, ZW.e_bi, ZW.e_sset, ZW.e_isi, ZW.e_mth, ZW.op_no, ZW.op_yes, ZW.es_nil, ZW.es_cons, ZW.ws_nil, ZW.ws_cons, ZW.an_one, ZW.an_cons, ZW.or_one, ZW.or_cons, ZW.t_e, ZW.t_cmp', ZW.t_not', ZW.t_and', ZW.t_or', ZW.ts_nil, ZW.ts_cons, ZW.to_nil, ZW.to_cons, ZW.ss_nil, ZW.ss_cons, ZW.s_ex, ZW.s_asg, ZW.s_asgO, ZW.s_asgC, ZW.s_par, ZW.par_nil, ZW.par_t, ZW.par_f, ZW.kTup_tup, ZW.s_star, ZW.s_ret, ZW.kRF_fr, ZW.kRF_bw, ZW.s_retF, ZW.s_retN, ZW.s_iff, ZW.s_app, ZW.s_setO, ZW.kRef_ref, ZW.s_setR, ZW.s_frz, ZW.s_brk, ZW.s_cont, ZW.s_pass, ZW.bt_nm, ZW.bt_tp, ZW.bt_lp, ZW.bts_nil, ZW.bts_cons, ZW.kSeq_tup, ZW.kSeq_lst, ZW.kSeq_scr, ZW.kSeq_str, ZW.it_seq, ZW.it_rng, ZW.it_rng2, ZW.kZip_lst, ZW.kZip_tup, ZW.it_zip, ZW.kLst_lst, ZW.it_enum, ZW.tw_post, ZW.tx_post, ZW.s_for, ZW.e_comp, ZW.kT_nx, ZW.kT_cont, ZW.kT_brk, ZW.kT_ret, Z.setAll, List.set_cons_zero, List.set_cons_succ, if_true, if_false, Bool.false_eq_true, Option.bind_some, Option.map_some, Z.wipe, List.length_cons, List.length_nil]
  refine names_ok (m := 4) (f := f + 8) i6 i2 (by decide) hb fun xs h1 hx _ b1 => ?_
  simp +decide only [decide_true, decide_false, true_and, and_true, ZW.kO_some, ZW.kO_none, ZW.kO_map, ZW.kO_bind, ZW.kO_if, ZW.kS_nx, ZW.kS_ret, ZW.kS_brk, ZW.kS_cont, ZW.kB_bl, ZW.kI_int, ZW.kF_fr, ZW.kStr_str, ZW.kVar_val, ZW.kOwn_own, ZW.kRet_ret, ZW.kRet_nx, ZW.dg_v, ZW.dg_fr, ZW.wdg_v, ZW.wdg_fr, ZW.wdg_bw, ZW.get_0, ZW.get_s, ZW.e_var, ZW.e_own, ZW.e_int, ZW.e_bl, ZW.e_non, ZW.e_str, ZW.e_glo, ZW.e_tup, ZW.e_lst, ZW.e_bin, ZW.e_cmp, ZW.e_neg, ZW.e_not, ZW.e_and, ZW.e_or, ZW.e_ifE, ZW.e_idx, ZW.e_sl, ZW.e_call, ZW.e_bi, ZW.e_sset, ZW.e_isi, ZW.e_mth, ZW.op_no, ZW.op_yes, ZW.es_nil, ZW.es_cons, ZW.ws_nil, ZW.ws_cons, ZW.an_one, ZW.an_cons, ZW.or_one, ZW.or_cons, ZW.t_e, ZW.t_cmp', ZW.t_not', ZW.t_and', ZW.t_or', ZW.ts_nil, ZW.ts_cons, ZW.to_nil, ZW.to_cons, ZW.ss_nil, ZW.ss_cons, ZW.s_ex, ZW.s_asg, ZW.s_asgO, ZW.s_asgC, ZW.s_par, ZW.par_nil, ZW.par_t, ZW.par_f, ZW.kTup_tup, ZW.s_star, ZW.s_ret, ZW.kRF_fr, ZW.kRF_bw, ZW.s_retF, ZW.s_retN, ZW.s_iff, ZW.s_app, ZW.s_setO, ZW.kRef_ref, ZW.s_setR, ZW.s_frz, ZW.s_brk, ZW.s_cont, ZW.s_pass, ZW.bt_nm, ZW.bt_tp, ZW.bt_lp, ZW.bts_nil, ZW.bts_cons, ZW.kSeq_tup, ZW.kSeq_lst, ZW.kSeq_scr, ZW.kSeq_str, ZW.it_seq, ZW.it_rng, ZW.it_rng2, ZW.kZip_lst, ZW.kZip_tup, ZW.it_zip, ZW.kLst_lst, ZW.it_enum, ZW.tw_post, ZW.tx_post, ZW.s_for, ZW.e_comp, ZW.kT_nx, ZW.kT_cont, ZW.kT_brk, ZW.kT_ret, Z.setAll, List.set_cons_zero, List.set_cons_succ, if_true, if_false, Bool.false_eq_true, Option.bind_some, Option.map_some, Z.wipe, List.length_cons, List.length_nil]
  refine w_for _ (fun i ρ h => i ≤ 4 ∧ ∃ (xs : List (List Nat)) (s3 s4 : Slot), xs.length = 4 ∧ ρ = [.val (.ref r), .val (.lst (odd.map .str)), .own (xs.map .str), s3, s4] ∧ Box (f + 2 * (4 - i)) r h) ?_ ?_ ?_
  · exact ⟨by decide, xs, _, _, hx, rfl, b1⟩
  · rintro i d ρ h ed ⟨hi, xs, s3, s4, hx, rfl, b2⟩
    obtain ⟨rfl, hi4⟩ := rng_at _ _ _ _ ed
    have hi4 : i < 4 := hi4
    simp +decide only [decide_true, decide_false, true_and, and_true, ZW.kO_some, ZW.kO_none, ZW.kO_map, ZW.kO_bind, ZW.kO_if, ZW.kS_nx, ZW.kS_ret, ZW.kS_brk, ZW.kS_cont, ZW.kB_bl, ZW.kI_int, ZW.kF_fr, ZW.kStr_str, ZW.kVar_val, ZW.kOwn_own, ZW.kRet_ret, ZW.kRet_nx, ZW.dg_v, ZW.dg_fr, ZW.wdg_v, ZW.wdg_fr, ZW.wdg_bw, ZW.get_0, ZW.get_s, ZW.e_var, ZW.e_own, ZW.e_int, ZW.e_bl, ZW.e_non, ZW.e_str, ZW.e_glo, ZW.e_tup, ZW.e_lst, ZW.e_bin, ZW.e_cmp, ZW.e_neg, ZW.e_not, ZW.e_and, ZW.e_or, ZW.e_ifE, ZW.e_idx, ZW.e_sl, ZW.e_call, ZW.e_bi, ZW.e_sset, ZW.e_isi, ZW.e_mth, ZW.op_no, ZW.op_yes, ZW.es_nil, ZW.es_cons, ZW.ws_nil, ZW.ws_cons, ZW.an_one, ZW.an_cons, ZW.or_one, ZW.or_cons, ZW.t_e, ZW.t_cmp', ZW.t_not', ZW.t_and', ZW.t_or', ZW.ts_nil, ZW.ts_cons, ZW.to_nil, ZW.to_cons, ZW.ss_nil, ZW.ss_cons, ZW.s_ex, ZW.s_asg, ZW.s_asgO, ZW.s_asgC, ZW.s_par, ZW.par_nil, ZW.par_t, ZW.par_f, ZW.kTup_tup, ZW.s_star, ZW.s_ret, ZW.kRF_fr, ZW.kRF_bw, ZW.s_retF, ZW.s_retN, ZW.s_iff, ZW.s_app, ZW.s_setO, ZW.kRef_ref, ZW.s_setR, ZW.s_frz, ZW.s_brk, ZW.s_cont, ZW.s_pass, ZW.bt_nm, ZW.bt_tp, ZW.bt_lp, ZW.bts_nil, ZW.bts_cons, ZW.kSeq_tup, ZW.kSeq_lst, ZW.kSeq_scr, ZW.kSeq_str, ZW.it_seq, ZW.it_rng, ZW.it_rng2, ZW.kZip_lst, ZW.kZip_tup, ZW.it_zip, ZW.kLst_lst, ZW.it_enum, ZW.tw_post, ZW.tx_post, ZW.s_for, ZW.e_comp, ZW.kT_nx, ZW.kT_cont, ZW.kT_brk, ZW.kT_ret, Z.setAll, List.set_cons_zero, List.set_cons_succ, if_true, if_false, Bool.false_eq_true, Option.bind_some, Option.map_some, Z.wipe, List.length_cons, List.length_nil]
    refine take_ok i2 (f := f + 2 * (4 - i) - 1) (k := 13) (by decide) (by decide) (b2.less (by omega)) fun j h2 j0 j1 b3 => ?_
    obtain ⟨x, e1, e2, _⟩ := atI_of (xs := odd.map D.str) j0 (by simpa using j1)
    obtain ⟨s, _, rfl⟩ := List.mem_map.mp e2
    simp +decide only [decide_true, decide_false, true_and, and_true, ZW.kO_some, ZW.kO_none, ZW.kO_map, ZW.kO_bind, ZW.kO_if, ZW.kS_nx, ZW.kS_ret, ZW.kS_brk, ZW.kS_cont, ZW.kB_bl, ZW.kI_int, ZW.kF_fr, ZW.kStr_str, ZW.kVar_val, ZW.kOwn_own, ZW.kRet_ret, ZW.kRet_nx, ZW.dg_v, ZW.dg_fr, ZW.wdg_v, ZW.wdg_fr, ZW.wdg_bw, ZW.get_0, ZW.get_s, ZW.e_var, ZW.e_own, ZW.e_int, ZW.e_bl, ZW.e_non, ZW.e_str, ZW.e_glo, ZW.e_tup, ZW.e_lst, ZW.e_bin, ZW.e_cmp, ZW.e_neg, ZW.e_not, ZW.e_and, ZW.e_or, ZW.e_ifE, ZW.e_idx, ZW.e_sl, ZW.e_call, ZW.e_bi, ZW.e_sset, ZW.e_isi, ZW.e_mth, ZW.op_no, ZW.op_yes, ZW.es_nil, ZW.es_cons, ZW.ws_nil, ZW.ws_cons, ZW.an_one, ZW.an_cons, ZW.or_one, ZW.or_cons, ZW.t_e, ZW.t_cmp', ZW.t_not', ZW.t_and', ZW.t_or', ZW.ts_nil, ZW.ts_cons, ZW.to_nil, ZW.to_cons, ZW.ss_nil, ZW.ss_cons, ZW.s_ex, ZW.s_asg, ZW.s_asgO, ZW.s_asgC, ZW.s_par, ZW.par_nil, ZW.par_t, ZW.par_f, ZW.kTup_tup, ZW.s_star, ZW.s_ret, ZW.kRF_fr, ZW.kRF_bw, ZW.s_retF, ZW.s_retN, ZW.s_iff, ZW.s_app, ZW.s_setO, ZW.kRef_ref, ZW.s_setR, ZW.s_frz, ZW.s_brk, ZW.s_cont, ZW.s_pass, ZW.bt_nm, ZW.bt_tp, ZW.bt_lp, ZW.bts_nil, ZW.bts_cons, ZW.kSeq_tup, ZW.kSeq_lst, ZW.kSeq_scr, ZW.kSeq_str, ZW.it_seq, ZW.it_rng, ZW.it_rng2, ZW.kZip_lst, ZW.kZip_tup, ZW.it_zip, ZW.kLst_lst, ZW.it_enum, ZW.tw_post, ZW.tx_post, ZW.s_for, ZW.e_comp, ZW.kT_nx, ZW.kT_cont, ZW.kT_brk, ZW.kT_ret, Z.setAll, List.set_cons_zero, List.set_cons_succ, if_true, if_false, Bool.false_eq_true, Option.bind_some, Option.map_some, Z.wipe, ix_lst, e1]
    refine take_ok i2 (f := f + 2 * (4 - i) - 2) (k := 3) (by decide) (by decide) (b3.less (by omega)) fun j h3 j0 j1 b4 => ?_
    simp +decide only [decide_true, decide_false, true_and, and_true, ZW.kO_some, ZW.kO_none, ZW.kO_map, ZW.kO_bind, ZW.kO_if, ZW.kS_nx, ZW.kS_ret, ZW.kS_brk, ZW.kS_cont, ZW.kB_bl, ZW.kI_int, ZW.kF_fr, ZW.kStr_str, ZW.kVar_val, ZW.kOwn_own, ZW.kRet_ret, ZW.kRet_nx, ZW.dg_v, ZW.dg_fr, ZW.wdg_v, ZW.wdg_fr, ZW.wdg_bw, ZW.get_0, ZW.get_s, ZW.e_var, ZW.e_own, ZW.e_int, ZW.e_bl, ZW.e_non, ZW.e_str, ZW.e_glo, ZW.e_tup, ZW.e_lst, ZW.e_bin, ZW.e_cmp, ZW.e_neg, ZW.e_not, ZW.e_and, ZW.e_or, ZW.e_ifE, ZW.e_idx, ZW.e_sl, ZW.e_call, ZW.e_bi, ZW.e_sset, ZW.e_isi, ZW.e_mth, ZW.op_no, ZW.op_yes, ZW.es_nil, ZW.es_cons, ZW.ws_nil, ZW.ws_cons, ZW.an_one, ZW.an_cons, ZW.or_one, ZW.or_cons, ZW.t_e, ZW.t_cmp', ZW.t_not', ZW.t_and', ZW.t_or', ZW.ts_nil, ZW.ts_cons, ZW.to_nil, ZW.to_cons, ZW.ss_nil, ZW.ss_cons, ZW.s_ex, ZW.s_asg, ZW.s_asgO, ZW.s_asgC, ZW.s_par, ZW.par_nil, ZW.par_t, ZW.par_f, ZW.kTup_tup, ZW.s_star, ZW.s_ret, ZW.kRF_fr, ZW.kRF_bw, ZW.s_retF, ZW.s_retN, ZW.s_iff, ZW.s_app, ZW.s_setO, ZW.kRef_ref, ZW.s_setR, ZW.s_frz, ZW.s_brk, ZW.s_cont, ZW.s_pass, ZW.bt_nm, ZW.bt_tp, ZW.bt_lp, ZW.bts_nil, ZW.bts_cons, ZW.kSeq_tup, ZW.kSeq_lst, ZW.kSeq_scr, ZW.kSeq_str, ZW.it_seq, ZW.it_rng, ZW.it_rng2, ZW.kZip_lst, ZW.kZip_tup, ZW.it_zip, ZW.kLst_lst, ZW.it_enum, ZW.tw_post, ZW.tx_post, ZW.s_for, ZW.e_comp, ZW.kT_nx, ZW.kT_cont, ZW.kT_brk, ZW.kT_ret, Z.setAll, List.set_cons_zero, List.set_cons_succ, if_true, if_false, Bool.false_eq_true, Option.bind_some, Option.map_some, Z.wipe, c_eq, p_int, q_int, Bool.and_self, c_nin]
    have b5 : Box (f + 2 * (4 - (i + 1))) r h3 := b4.less (by omega)
    have fin0 : ∀ s3 s4, (fun (i : Nat) (ρ : Env) (h : LH) => i ≤ 4 ∧ ∃ (xs : List (List Nat)) (s3 s4 : Slot), xs.length = 4 ∧ ρ = [.val (.ref r), .val (.lst (odd.map .str)), .own (xs.map .str), s3, s4] ∧ Box (f + 2 * (4 - i)) r h) (i + 1) [.val (.ref r), .val (.lst (odd.map .str)), .own (xs.map .str), s3, s4] h3 := fun s3 s4 => ⟨by omega, xs, s3, s4, hx, rfl, b5⟩
    split
    · split
      · have e9 : (0 : Int) + (i : Nat) = (i : Nat) := by omega
        rw [e9]
        have ex : L2.ixN (xs.map D.str).length (i : Int) = some i := ixN_nat (by rw [List.length_map]; omega)
        simp +decide only [decide_true, decide_false, true_and, and_true, ZW.kO_some, ZW.kO_none, ZW.kO_map, ZW.kO_bind, ZW.kO_if, ZW.kS_nx, ZW.kS_ret, ZW.kS_brk, ZW.kS_cont, ZW.kB_bl, ZW.kI_int, ZW.kF_fr, ZW.kStr_str, ZW.kVar_val, ZW.kOwn_own, ZW.kRet_ret, ZW.kRet_nx, ZW.dg_v, ZW.dg_fr, ZW.wdg_v, ZW.wdg_fr, ZW.wdg_bw, ZW.get_0, ZW.get_s, ZW.e_var, ZW.e_own, ZW.e_int, ZW.e_bl, ZW.e_non, ZW.e_str, ZW.e_glo, ZW.e_tup, ZW.e_lst, ZW.e_bin, ZW.e_cmp, ZW.e_neg, ZW.e_not, ZW.e_and, ZW.e_or, ZW.e_ifE, ZW.e_idx, ZW.e_sl, ZW.e_call, ZW.e_bi, ZW.e_sset, ZW.e_isi, ZW.e_mth, ZW.op_no, ZW.op_yes, ZW.es_nil, ZW.es_cons, ZW.ws_nil, ZW.ws_cons, ZW.an_one, ZW.an_cons, ZW.or_one, ZW.or_cons, ZW.t_e, ZW.t_cmp', ZW.t_not', ZW.t_and', ZW.t_or', ZW.ts_nil, ZW.ts_cons, ZW.to_nil, ZW.to_cons, ZW.ss_nil, ZW.ss_cons, ZW.s_ex, ZW.s_asg, ZW.s_asgO, ZW.s_asgC, ZW.s_par, ZW.par_nil, ZW.par_t, ZW.par_f, ZW.kTup_tup, ZW.s_star, ZW.s_ret, ZW.kRF_fr, ZW.kRF_bw, ZW.s_retF, ZW.s_retN, ZW.s_iff, ZW.s_app, ZW.s_setO, ZW.kRef_ref, ZW.s_setR, ZW.s_frz, ZW.s_brk, ZW.s_cont, ZW.s_pass, ZW.bt_nm, ZW.bt_tp, ZW.bt_lp, ZW.bts_nil, ZW.bts_cons, ZW.kSeq_tup, ZW.kSeq_lst, ZW.kSeq_scr, ZW.kSeq_str, ZW.it_seq, ZW.it_rng, ZW.it_rng2, ZW.kZip_lst, ZW.kZip_tup, ZW.it_zip, ZW.kLst_lst, ZW.it_enum, ZW.tw_post, ZW.tx_post, ZW.s_for, ZW.e_comp, ZW.kT_nx, ZW.kT_cont, ZW.kT_brk, ZW.kT_ret, Z.setAll, List.set_cons_zero, List.set_cons_succ, if_true, if_false, Bool.false_eq_true, Option.bind_some, Option.map_some, Z.wipe, ex]
        exact ⟨by omega, xs.set i s, .val (.int i), .val (.str s), by rw [List.length_set]; exact hx, by rw [List.map_set], b5⟩
      · exact fin0 _ _
    · exact fin0 _ _
  · rintro ρ h ⟨_, xs, s3, s4, hx, rfl, b⟩
    simp +decide only [decide_true, decide_false, true_and, and_true, ZW.kO_some, ZW.kO_none, ZW.kO_map, ZW.kO_bind, ZW.kO_if, ZW.kS_nx, ZW.kS_ret, ZW.kS_brk, ZW.kS_cont, ZW.kB_bl, ZW.kI_int, ZW.kF_fr, ZW.kStr_str, ZW.kVar_val, ZW.kOwn_own, ZW.kRet_ret, ZW.kRet_nx, ZW.dg_v, ZW.dg_fr, ZW.wdg_v, ZW.wdg_fr, ZW.wdg_bw, ZW.get_0, ZW.get_s, ZW.e_var, ZW.e_own, ZW.e_int, ZW.e_bl, ZW.e_non, ZW.e_str, ZW.e_glo, ZW.e_tup, ZW.e_lst, ZW.e_bin, ZW.e_cmp, ZW.e_neg, ZW.e_not, ZW.e_and, ZW.e_or, ZW.e_ifE, ZW.e_idx, ZW.e_sl, ZW.e_call, ZW.e_bi, ZW.e_sset, ZW.e_isi, ZW.e_mth, ZW.op_no, ZW.op_yes, ZW.es_nil, ZW.es_cons, ZW.ws_nil, ZW.ws_cons, ZW.an_one, ZW.an_cons, ZW.or_one, ZW.or_cons, ZW.t_e, ZW.t_cmp', ZW.t_not', ZW.t_and', ZW.t_or', ZW.ts_nil, ZW.ts_cons, ZW.to_nil, ZW.to_cons, ZW.ss_nil, ZW.ss_cons, ZW.s_ex, ZW.s_asg, ZW.s_asgO, ZW.s_asgC, ZW.s_par, ZW.par_nil, ZW.par_t, ZW.par_f, ZW.kTup_tup, ZW.s_star, ZW.s_ret, ZW.kRF_fr, ZW.kRF_bw, ZW.s_retF, ZW.s_retN, ZW.s_iff, ZW.s_app, ZW.s_setO, ZW.kRef_ref, ZW.s_setR, ZW.s_frz, ZW.s_brk, ZW.s_cont, ZW.s_pass, ZW.bt_nm, ZW.bt_tp, ZW.bt_lp, ZW.bts_nil, ZW.bts_cons, ZW.kSeq_tup, ZW.kSeq_lst, ZW.kSeq_scr, ZW.kSeq_str, ZW.it_seq, ZW.it_rng, ZW.it_rng2, ZW.kZip_lst, ZW.kZip_tup, ZW.it_zip, ZW.kLst_lst, ZW.it_enum, ZW.tw_post, ZW.tx_post, ZW.s_for, ZW.e_comp, ZW.kT_nx, ZW.kT_cont, ZW.kT_brk, ZW.kT_ret, Z.setAll, List.set_cons_zero, List.set_cons_succ, if_true, if_false, Bool.false_eq_true, Option.bind_some, Option.map_some, Z.wipe]
    exact q xs h hx (b.less (by omega))
theorem set_ok {f k : Nat} (hx : xs.length < 64) (hb : Box (f + xs.length) r h) (q : ∀ (ys : List (List Nat)) h', Box f r h' → Q (.v (.tup (ys.map .str))) h') : (run fs G wf (k + 2) 11 [.ref r, .lst (xs.map .str)] h).post Q XF := by
  rw [w_run (fn := f11) rfl rfl]
  rw [show startE f11 [.ref r, .lst (xs.map .str)] = [.val (.ref r), .val (.lst (xs.map .str)), .emp] from rfl]
  simp +decide only [f11, decide_true, decide_false, true_and, and_true, ZW.kO_some, ZW.kO_none, ZW.kO_map, ZW.kO_bind, ZW.kO_if, ZW.kS_nx, ZW.kS_ret, ZW.kS_brk, ZW.kS_cont, ZW.kB_bl, ZW.kI_int, ZW.kF_fr, ZW.kStr_str, ZW.kVar_val, ZW.kOwn_own, ZW.kRet_ret, ZW.kRet_nx, ZW.dg_v, ZW.dg_fr, ZW.wdg_v, ZW.wdg_fr, ZW.wdg_bw, ZW.get_0, ZW.get_s, ZW.e_var, ZW.e_own, ZW.e_int, ZW.e_bl, ZW.e_non, ZW.e_str, ZW.e_glo, ZW.e_tup, ZW.e_lst, ZW.e_bin, ZW.e_cmp, ZW.e_neg, ZW.e_not, ZW.e_and, ZW.e_or, ZW.e_ifE, ZW.e_idx, ZW.e_sl, ZW.e_call, ZW.e_bi, ZW.e_sset, ZW.e_isi, ZW.e_mth, ZW.op_no, ZW.op_yes, ZW.es_nil, ZW.es_cons, ZW.ws_nil, ZW.ws_cons, ZW.an_one, ZW.an_cons, ZW.or_one, ZW.or_cons, ZW.t_e, ZW.t_cmp', ZW.t_not', ZW.t_and', ZW.t_or', ZW.ts_nil, ZW.ts_cons, ZW.to_nil, ZW.to_cons, ZW.ss_nil, ZW.ss_cons, ZW.s_ex, ZW.s_asg, ZW.s_asgO, ZW.s_asgC, ZW.s_par, ZW.par_nil, ZW.par_t, ZW.par_f, ZW.kTup_tup, ZW.s_star, ZW.s_ret, ZW.kRF_fr, ZW.kRF_bw, ZW.s_retF, ZW.s_retN, ZW.s_iff, ZW.s_app, ZW.s_setO, ZW.kRef_ref, ZW.s_setR, ZW.s_frz, ZW.s_brk, ZW.s_cont, ZW.s_pass, ZW.bt_nm, ZW.bt_tp, ZW.bt_lp, ZW.bts_nil, ZW.bts_cons, ZW.kSeq_tup, ZW.kSeq_lst, ZW.kSeq_scr, ZW.kSeq_str, ZW.it_seq, ZW.it_rng, ZW.it_rng2, ZW.kZip_lst, ZW.kZip_tup, ZW.it_zip, ZW.kLst_lst, ZW.it_enum, ZW.tw_post, ZW.tx_post, ZW.s_for, ZW.e_comp, ZW.kT_nx, ZW.kT_cont, ZW.kT_brk, ZW.kT_ret, Z.setAll, List.set_cons_zero, List.set_cons_succ, if_true, if_false, Bool.false_eq_true, Option.bind_some, Option.map_some, Z.wipe]
  refine w_comp _ (fun i ys h => i ≤ xs.length ∧ ∃ ss : List (List Nat), ys = ss.map .str ∧ ss.length ≤ i ∧ Box (f + (xs.length - i)) r h) [] ?_ ?_ ?_
  · exact ⟨Nat.zero_le _, [], rfl, Nat.le_refl _, hb⟩
  · rintro i d ys h ed ⟨hi, ss, rfl, hl, b2⟩
    have hlt := (List.getElem?_eq_some_iff.mp ed).1
    rw [List.length_map] at hlt
    rw [List.getElem?_map] at ed
    cases ex : xs[i]? with
    | none => rw [ex] at ed; cases ed
    | some s =>
      rw [ex] at ed
      obtain rfl := Option.some.inj ed
      simp +decide only [decide_true, decide_false, true_and, and_true, ZW.kO_some, ZW.kO_none, ZW.kO_map, ZW.kO_bind, ZW.kO_if, ZW.kS_nx, ZW.kS_ret, ZW.kS_brk, ZW.kS_cont, ZW.kB_bl, ZW.kI_int, ZW.kF_fr, ZW.kStr_str, ZW.kVar_val, ZW.kOwn_own, ZW.kRet_ret, ZW.kRet_nx, ZW.dg_v, ZW.dg_fr, ZW.wdg_v, ZW.wdg_fr, ZW.wdg_bw, ZW.get_0, ZW.get_s, ZW.e_var, ZW.e_own, ZW.e_int, ZW.e_bl, ZW.e_non, ZW.e_str, ZW.e_glo, ZW.e_tup, ZW.e_lst, ZW.e_bin, ZW.e_cmp, ZW.e_neg, ZW.e_not, ZW.e_and, ZW.e_or, ZW.e_ifE, ZW.e_idx, ZW.e_sl, ZW.e_call, ZW.e_bi, ZW.e_sset, ZW.e_isi, ZW.e_mth, ZW.op_no, ZW.op_yes, ZW.es_nil, ZW.es_cons, ZW.ws_nil, ZW.ws_cons, ZW.an_one, ZW.an_cons, ZW.or_one, ZW.or_cons, ZW.t_e, ZW.t_cmp', ZW.t_not', ZW.t_and', ZW.t_or', ZW.ts_nil, ZW.ts_cons, ZW.to_nil, ZW.to_cons, ZW.ss_nil, ZW.ss_cons, ZW.s_ex, ZW.s_asg, ZW.s_asgO, ZW.s_asgC, ZW.s_par, ZW.par_nil, ZW.par_t, ZW.par_f, ZW.kTup_tup, ZW.s_star, ZW.s_ret, ZW.kRF_fr, ZW.kRF_bw, ZW.s_retF, ZW.s_retN, ZW.s_iff, ZW.s_app, ZW.s_setO, ZW.kRef_ref, ZW.s_setR, ZW.s_frz, ZW.s_brk, ZW.s_cont, ZW.s_pass, ZW.bt_nm, ZW.bt_tp, ZW.bt_lp, ZW.bts_nil, ZW.bts_cons, ZW.kSeq_tup, ZW.kSeq_lst, ZW.kSeq_scr, ZW.kSeq_str, ZW.it_seq, ZW.it_rng, ZW.it_rng2, ZW.kZip_lst, ZW.kZip_tup, ZW.it_zip, ZW.kLst_lst, ZW.it_enum, ZW.tw_post, ZW.tx_post, ZW.s_for, ZW.e_comp, ZW.kT_nx, ZW.kT_cont, ZW.kT_brk, ZW.kT_ret, Z.setAll, List.set_cons_zero, List.set_cons_succ, if_true, if_false, Bool.false_eq_true, Option.bind_some, Option.map_some, Z.wipe]
      refine take_ok i2 (f := f + (xs.length - i) - 1) (k := 2) (by decide) (by decide) (b2.less (by omega)) fun j h2 j0 j1 b3 => ?_
      simp +decide only [decide_true, decide_false, true_and, and_true, ZW.kO_some, ZW.kO_none, ZW.kO_map, ZW.kO_bind, ZW.kO_if, ZW.kS_nx, ZW.kS_ret, ZW.kS_brk, ZW.kS_cont, ZW.kB_bl, ZW.kI_int, ZW.kF_fr, ZW.kStr_str, ZW.kVar_val, ZW.kOwn_own, ZW.kRet_ret, ZW.kRet_nx, ZW.dg_v, ZW.dg_fr, ZW.wdg_v, ZW.wdg_fr, ZW.wdg_bw, ZW.get_0, ZW.get_s, ZW.e_var, ZW.e_own, ZW.e_int, ZW.e_bl, ZW.e_non, ZW.e_str, ZW.e_glo, ZW.e_tup, ZW.e_lst, ZW.e_bin, ZW.e_cmp, ZW.e_neg, ZW.e_not, ZW.e_and, ZW.e_or, ZW.e_ifE, ZW.e_idx, ZW.e_sl, ZW.e_call, ZW.e_bi, ZW.e_sset, ZW.e_isi, ZW.e_mth, ZW.op_no, ZW.op_yes, ZW.es_nil, ZW.es_cons, ZW.ws_nil, ZW.ws_cons, ZW.an_one, ZW.an_cons, ZW.or_one, ZW.or_cons, ZW.t_e, ZW.t_cmp', ZW.t_not', ZW.t_and', ZW.t_or', ZW.ts_nil, ZW.ts_cons, ZW.to_nil, ZW.to_cons, ZW.ss_nil, ZW.ss_cons, ZW.s_ex, ZW.s_asg, ZW.s_asgO, ZW.s_asgC, ZW.s_par, ZW.par_nil, ZW.par_t, ZW.par_f, ZW.kTup_tup, ZW.s_star, ZW.s_ret, ZW.kRF_fr, ZW.kRF_bw, ZW.s_retF, ZW.s_retN, ZW.s_iff, ZW.s_app, ZW.s_setO, ZW.kRef_ref, ZW.s_setR, ZW.s_frz, ZW.s_brk, ZW.s_cont, ZW.s_pass, ZW.bt_nm, ZW.bt_tp, ZW.bt_lp, ZW.bts_nil, ZW.bts_cons, ZW.kSeq_tup, ZW.kSeq_lst, ZW.kSeq_scr, ZW.kSeq_str, ZW.it_seq, ZW.it_rng, ZW.it_rng2, ZW.kZip_lst, ZW.kZip_tup, ZW.it_zip, ZW.kLst_lst, ZW.it_enum, ZW.tw_post, ZW.tx_post, ZW.s_for, ZW.e_comp, ZW.kT_nx, ZW.kT_cont, ZW.kT_brk, ZW.kT_ret, Z.setAll, List.set_cons_zero, List.set_cons_succ, if_true, if_false, Bool.false_eq_true, Option.bind_some, Option.map_some, Z.wipe, c_eq, p_int, q_int, Bool.and_self]
      have b5 : Box (f + (xs.length - (i + 1))) r h2 := b3.less (by omega)
      split
      · exact ⟨by omega, ss ++ [s], by rw [List.map_append]; rfl, by rw [List.length_append]; simp; omega, b5⟩
      · exact ⟨by omega, ss, rfl, by omega, b5⟩
  · rintro ys h2 ⟨_, ss, e3, hl, b2⟩
    rw [List.nil_append] at e3
    subst e3
    rw [List.length_map] at hl b2
    refine ⟨by rw [List.length_map]; unfold szL; omega, ?_⟩
    have el : lstV h2 (.lst (ss.map .str)) = some (ss.map .str) := rfl
    simp +decide only [decide_true, decide_false, true_and, and_true, ZW.kO_some, ZW.kO_none, ZW.kO_map, ZW.kO_bind, ZW.kO_if, ZW.kS_nx, ZW.kS_ret, ZW.kS_brk, ZW.kS_cont, ZW.kB_bl, ZW.kI_int, ZW.kF_fr, ZW.kStr_str, ZW.kVar_val, ZW.kOwn_own, ZW.kRet_ret, ZW.kRet_nx, ZW.dg_v, ZW.dg_fr, ZW.wdg_v, ZW.wdg_fr, ZW.wdg_bw, ZW.get_0, ZW.get_s, ZW.e_var, ZW.e_own, ZW.e_int, ZW.e_bl, ZW.e_non, ZW.e_str, ZW.e_glo, ZW.e_tup, ZW.e_lst, ZW.e_bin, ZW.e_cmp, ZW.e_neg, ZW.e_not, ZW.e_and, ZW.e_or, ZW.e_ifE, ZW.e_idx, ZW.e_sl, ZW.e_call, ZW.e_bi, ZW.e_sset, ZW.e_isi, ZW.e_mth, ZW.op_no, ZW.op_yes, ZW.es_nil, ZW.es_cons, ZW.ws_nil, ZW.ws_cons, ZW.an_one, ZW.an_cons, ZW.or_one, ZW.or_cons, ZW.t_e, ZW.t_cmp', ZW.t_not', ZW.t_and', ZW.t_or', ZW.ts_nil, ZW.ts_cons, ZW.to_nil, ZW.to_cons, ZW.ss_nil, ZW.ss_cons, ZW.s_ex, ZW.s_asg, ZW.s_asgO, ZW.s_asgC, ZW.s_par, ZW.par_nil, ZW.par_t, ZW.par_f, ZW.kTup_tup, ZW.s_star, ZW.s_ret, ZW.kRF_fr, ZW.kRF_bw, ZW.s_retF, ZW.s_retN, ZW.s_iff, ZW.s_app, ZW.s_setO, ZW.kRef_ref, ZW.s_setR, ZW.s_frz, ZW.s_brk, ZW.s_cont, ZW.s_pass, ZW.bt_nm, ZW.bt_tp, ZW.bt_lp, ZW.bts_nil, ZW.bts_cons, ZW.kSeq_tup, ZW.kSeq_lst, ZW.kSeq_scr, ZW.kSeq_str, ZW.it_seq, ZW.it_rng, ZW.it_rng2, ZW.kZip_lst, ZW.kZip_tup, ZW.it_zip, ZW.kLst_lst, ZW.it_enum, ZW.tw_post, ZW.tx_post, ZW.s_for, ZW.e_comp, ZW.kT_nx, ZW.kT_cont, ZW.kT_brk, ZW.kT_ret, Z.setAll, List.set_cons_zero, List.set_cons_succ, if_true, if_false, Bool.false_eq_true, Option.bind_some, Option.map_some, Z.wipe, el, strsOf_map, m_tupL]
    refine ⟨by omega, q _ h2 (b2.less (by omega))⟩
/-! every choice of some names -/
def tupsD (cs : List (List (List Nat))) : List D := cs.map fun t => .tup (t.map .str)
theorem sorted_strs : biD h .sorted [.lst (xs.map .str)] = if xs.length < 64 then some (.fr ((sortS xs).map .str)) else none := by
  have e : biD h .sorted [.lst (xs.map .str)] = (match strsOf (xs.map D.str) with
    | some ys => if ys.length < 64 then some (Rv.fr ((sortS ys).map D.str)) else none
    | none => if sortOk (xs.map D.str) then some (Rv.fr (sortD (xs.map D.str))) else none) := rfl
  rw [e, strsOf_map]
theorem pl_strs {n : Nat} : ∀ ss : List (List Nat), plains n (ss.map .str) = true
  | [] => by cases n <;> rfl
  | x :: r => by
    rw [List.map_cons]
    unfold plains
    rw [pl_strs r, p_str]
    rfl
theorem al_strs : ∀ ss ts : List (List Nat), PySem.W.alikeAll (pys (ss.map .str)) (pys (ts.map .str)) = true
  | [], _ => by cases ‹List (List Nat)› <;> rfl
  | _ :: _, [] => rfl
  | x :: r, y :: t => by
    rw [List.map_cons, List.map_cons]
    unfold pys
    unfold PySem.W.alikeAll
    rw [al_strs r t]
    rfl
theorem pl_tups {n : Nat} : ∀ cs, plains (n + 1) (tupsD cs) = true
  | [] => rfl
  | c :: r => by
    show plains (n + 1) (.tup (c.map .str) :: tupsD r) = true
    unfold plains
    rw [pl_tups r]
    unfold plain
    rw [pl_strs c]
    rfl
theorem ok_tups {cs : List (List (List Nat))} (hl : cs.length ≤ 1000) : sortOk (tupsD ([] :: cs)) = true := by
  have e1 : emptyHd (tupsD ([] :: cs)) = true := rfl
  have e2 : (tupsD ([] :: cs)).all isTupD = true := by
    rw [List.all_eq_true]
    intro x hx
    obtain ⟨t, _, rfl⟩ := List.mem_map.mp hx
    rfl
  have e3 : plains 8 (tupsD ([] :: cs)) = true := pl_tups _
  have e4 : alikeB (tupsD ([] :: cs)) = true := by
    unfold alikeB
    rw [List.all_eq_true]
    intro x hx
    rw [List.all_eq_true]
    intro y hy
    obtain ⟨t, _, rfl⟩ := List.mem_map.mp hx
    obtain ⟨u, _, rfl⟩ := List.mem_map.mp hy
    exact al_strs t u
  have e5 : decide ((tupsD ([] :: cs)).length ≤ szL) = true := by
    rw [decide_eq_true_eq]
    unfold tupsD
    rw [List.length_map, List.length_cons]
    unfold szL
    omega
  unfold sortOk
  rw [e1, e2, e3, e4, e5]
  rfl
theorem sorted_tups {cs : List (List (List Nat))} (hl : cs.length ≤ 1000) : ∃ ds : List (List (List Nat)), biD h .sorted [.lst (tupsD ([] :: cs))] = some (.fr (tupsD ds)) := by
  have e1 : biD h .sorted [.lst (tupsD ([] :: cs))] = if sortOk (tupsD ([] :: cs)) then some (.fr (sortD (tupsD ([] :: cs)))) else none := by
    rfl
  rw [e1, ok_tups hl]
  have : ∀ ys : List D, (∀ y ∈ ys, ∃ t : List (List Nat), y = .tup (t.map .str)) → ∃ ds, ys = tupsD ds := by
    intro ys
    induction ys with
    | nil => exact fun _ => ⟨[], rfl⟩
    | cons y r ih =>
      intro hy
      obtain ⟨t, rfl⟩ := hy y List.mem_cons_self
      obtain ⟨ds, rfl⟩ := ih fun z hz => hy z (List.mem_cons_of_mem _ hz)
      exact ⟨t :: ds, rfl⟩
  obtain ⟨ds, e⟩ := this (sortD (tupsD ([] :: cs))) fun y hy => by
    have hy := (List.mergeSort_perm _ _).mem_iff.mp hy
    obtain ⟨t, _, rfl⟩ := List.mem_map.mp hy
    exact ⟨t, rfl⟩
  exact ⟨ds, by rw [e]; rfl⟩
theorem fm_add (s : List Nat) : ∀ cs : List (List (List Nat)), (tupsD cs).filterMap (fun d => match d with
    | .tup t => some (.tup (t ++ [.str s]))
    | _ => none) = tupsD (cs.map (· ++ [s]))
  | [] => rfl
  | c :: r => by
    show D.tup (c.map .str ++ [.str s]) :: (tupsD r).filterMap _ = D.tup ((c ++ [s]).map .str) :: tupsD (r.map (· ++ [s]))
    rw [fm_add s r, List.map_append]
    rfl
theorem choices_ok {k : Nat} (hx : xs.length ≤ 4) (q : ∀ ds : List (List (List Nat)), Q (.fr (tupsD ds)) h) : (run fs G wf (k + 1) 4 [.lst (xs.map .str)] h).post Q XF := by
  rw [w_run (fn := f4) rfl rfl]
  rw [show startE f4 [.lst (xs.map .str)] = [.val (.lst (xs.map .str)), .emp, .emp, .emp] from rfl]
  simp +decide only [f4, decide_true, decide_false, true_and, and_true, ZW.kO_some, ZW.kO_none, ZW.kO_map, ZW.kO_bind, ZW.kO_if, ZW.kS_nx, ZW.kS_ret, ZW.kS_brk, ZW.kS_cont, ZW.kB_bl, ZW.kI_int, ZW.kF_fr, ZW.kStr_str, ZW.kVar_val, ZW.kOwn_own, ZW.kRet_ret, ZW.kRet_nx, ZW.dg_v, ZW.dg_fr, ZW.wdg_v, ZW.wdg_fr, ZW.wdg_bw, ZW.get_0, ZW.get_s, ZW.e_var, ZW.e_own, ZW.e_int, ZW.e_bl, ZW.e_non, ZW.e_str, ZW.e_glo, ZW.e_tup, ZW.e_lst, ZW.e_bin, ZW.e_cmp, ZW.e_neg, ZW.e_not, ZW.e_and, ZW.e_or, ZW.e_ifE, ZW.e_idx, ZW.e_sl, ZW.e_call, ZW.e_bi, ZW.e_sset, ZW.e_isi, ZW.e_mth, ZW.op_no, ZW.op_yes, ZW.es_nil, ZW.es_cons, ZW.ws_nil, ZW.ws_cons, ZW.an_one, ZW.an_cons, ZW.or_one, ZW.or_cons, ZW.t_e, ZW.t_cmp', ZW.t_not', ZW.t_and', ZW.t_or', ZW.ts_nil, ZW.ts_cons, ZW.to_nil, ZW.to_cons, ZW.ss_nil, ZW.ss_cons, ZW.s_ex, ZW.s_asg, ZW.s_asgO, ZW.s_asgC, ZW.s_par, ZW.par_nil, ZW.par_t, ZW.par_f, ZW.kTup_tup, ZW.s_star, ZW.s_ret, ZW.kRF_fr, ZW.kRF_bw, ZW.s_retF, ZW.s_retN, ZW.s_iff, ZW.s_app, ZW.s_setO, ZW.kRef_ref, ZW.s_setR, ZW.s_frz, ZW.s_brk, ZW.s_cont, ZW.s_pass, ZW.bt_nm, ZW.bt_tp, ZW.bt_lp, ZW.bts_nil, ZW.bts_cons, ZW.kSeq_tup, ZW.kSeq_lst, ZW.kSeq_scr, ZW.kSeq_str, ZW.it_seq, ZW.it_rng, ZW.it_rng2, ZW.kZip_lst, ZW.kZip_tup, ZW.it_zip, ZW.kLst_lst, ZW.it_enum, ZW.tw_post, ZW.tx_post, ZW.s_for, ZW.e_comp, ZW.kT_nx, ZW.kT_cont, ZW.kT_brk, ZW.kT_ret, Z.setAll, List.set_cons_zero, List.set_cons_succ, if_true, if_false, Bool.false_eq_true, Option.bind_some, Option.map_some, Z.wipe, List.length_cons, List.length_nil, sorted_strs]
  refine ⟨by omega, ?_⟩
  have hl : (sortS xs).length = xs.length := (sortS_perm xs).length_eq
  refine w_for _ (fun i ρ h' => h' = h ∧ i ≤ 4 ∧ ∃ (cs : List (List (List Nat))) (s2 s3 : Slot), ρ = [.val (.lst (xs.map .str)), .val (.lst (tupsD ([] :: cs))), s2, s3] ∧ cs.length + 1 = 2 ^ i ∧ ∀ c ∈ [] :: cs, c.length ≤ i) ?_ ?_ ?_
  · exact ⟨rfl, by decide, [], _, _, rfl, rfl, by simp⟩
  · rintro i d ρ h' ed ⟨rfl, hi, cs, s2, s3, rfl, hc, hcl⟩
    have hlt := (List.getElem?_eq_some_iff.mp ed).1
    rw [List.length_map, hl] at hlt
    obtain ⟨s, _, rfl⟩ := List.mem_map.mp (List.mem_of_getElem? ed)
    have hc16 : cs.length + 1 ≤ 8 := by
      have : 2 ^ i ≤ 2 ^ 3 := Nat.pow_le_pow_right (by decide) (by omega)
      omega
    simp +decide only [decide_true, decide_false, true_and, and_true, ZW.kO_some, ZW.kO_none, ZW.kO_map, ZW.kO_bind, ZW.kO_if, ZW.kS_nx, ZW.kS_ret, ZW.kS_brk, ZW.kS_cont, ZW.kB_bl, ZW.kI_int, ZW.kF_fr, ZW.kStr_str, ZW.kVar_val, ZW.kOwn_own, ZW.kRet_ret, ZW.kRet_nx, ZW.dg_v, ZW.dg_fr, ZW.wdg_v, ZW.wdg_fr, ZW.wdg_bw, ZW.get_0, ZW.get_s, ZW.e_var, ZW.e_own, ZW.e_int, ZW.e_bl, ZW.e_non, ZW.e_str, ZW.e_glo, ZW.e_tup, ZW.e_lst, ZW.e_bin, ZW.e_cmp, ZW.e_neg, ZW.e_not, ZW.e_and, ZW.e_or, ZW.e_ifE, ZW.e_idx, ZW.e_sl, ZW.e_call, ZW.e_bi, ZW.e_sset, ZW.e_isi, ZW.e_mth, ZW.op_no, ZW.op_yes, ZW.es_nil, ZW.es_cons, ZW.ws_nil, ZW.ws_cons, ZW.an_one, ZW.an_cons, ZW.or_one, ZW.or_cons, ZW.t_e, ZW.t_cmp', ZW.t_not', ZW.t_and', ZW.t_or', ZW.ts_nil, ZW.ts_cons, ZW.to_nil, ZW.to_cons, ZW.ss_nil, ZW.ss_cons, ZW.s_ex, ZW.s_asg, ZW.s_asgO, ZW.s_asgC, ZW.s_par, ZW.par_nil, ZW.par_t, ZW.par_f, ZW.kTup_tup, ZW.s_star, ZW.s_ret, ZW.kRF_fr, ZW.kRF_bw, ZW.s_retF, ZW.s_retN, ZW.s_iff, ZW.s_app, ZW.s_setO, ZW.kRef_ref, ZW.s_setR, ZW.s_frz, ZW.s_brk, ZW.s_cont, ZW.s_pass, ZW.bt_nm, ZW.bt_tp, ZW.bt_lp, ZW.bts_nil, ZW.bts_cons, ZW.kSeq_tup, ZW.kSeq_lst, ZW.kSeq_scr, ZW.kSeq_str, ZW.it_seq, ZW.it_rng, ZW.it_rng2, ZW.kZip_lst, ZW.kZip_tup, ZW.it_zip, ZW.kLst_lst, ZW.it_enum, ZW.tw_post, ZW.tx_post, ZW.s_for, ZW.e_comp, ZW.kT_nx, ZW.kT_cont, ZW.kT_brk, ZW.kT_ret, Z.setAll, List.set_cons_zero, List.set_cons_succ, if_true, if_false, Bool.false_eq_true, Option.bind_some, Option.map_some, Z.wipe]
    refine w_comp_pure (g := fun d => match d with
      | .tup t => some (.tup (t ++ [.str s]))
      | _ => none) _ (fun d hd R hR => ?_) ?_
    · obtain ⟨t, ht, rfl⟩ := List.mem_map.mp hd
      simp +decide only [decide_true, decide_false, true_and, and_true, ZW.kO_some, ZW.kO_none, ZW.kO_map, ZW.kO_bind, ZW.kO_if, ZW.kS_nx, ZW.kS_ret, ZW.kS_brk, ZW.kS_cont, ZW.kB_bl, ZW.kI_int, ZW.kF_fr, ZW.kStr_str, ZW.kVar_val, ZW.kOwn_own, ZW.kRet_ret, ZW.kRet_nx, ZW.dg_v, ZW.dg_fr, ZW.wdg_v, ZW.wdg_fr, ZW.wdg_bw, ZW.get_0, ZW.get_s, ZW.e_var, ZW.e_own, ZW.e_int, ZW.e_bl, ZW.e_non, ZW.e_str, ZW.e_glo, ZW.e_tup, ZW.e_lst, ZW.e_bin, ZW.e_cmp, ZW.e_neg, ZW.e_not, ZW.e_and, ZW.e_or, ZW.e_ifE, ZW.e_idx, ZW.e_sl, ZW.e_call, ZW.e_bi, ZW.e_sset, ZW.e_isi, ZW.e_mth, ZW.op_no, ZW.op_yes, ZW.es_nil, ZW.es_cons, ZW.ws_nil, ZW.ws_cons, ZW.an_one, ZW.an_cons, ZW.or_one, ZW.or_cons, ZW.t_e, ZW.t_cmp', ZW.t_not', ZW.t_and', ZW.t_or', ZW.ts_nil, ZW.ts_cons, ZW.to_nil, ZW.to_cons, ZW.ss_nil, ZW.ss_cons, ZW.s_ex, ZW.s_asg, ZW.s_asgO, ZW.s_asgC, ZW.s_par, ZW.par_nil, ZW.par_t, ZW.par_f, ZW.kTup_tup, ZW.s_star, ZW.s_ret, ZW.kRF_fr, ZW.kRF_bw, ZW.s_retF, ZW.s_retN, ZW.s_iff, ZW.s_app, ZW.s_setO, ZW.kRef_ref, ZW.s_setR, ZW.s_frz, ZW.s_brk, ZW.s_cont, ZW.s_pass, ZW.bt_nm, ZW.bt_tp, ZW.bt_lp, ZW.bts_nil, ZW.bts_cons, ZW.kSeq_tup, ZW.kSeq_lst, ZW.kSeq_scr, ZW.kSeq_str, ZW.it_seq, ZW.it_rng, ZW.it_rng2, ZW.kZip_lst, ZW.kZip_tup, ZW.it_zip, ZW.kLst_lst, ZW.it_enum, ZW.tw_post, ZW.tx_post, ZW.s_for, ZW.e_comp, ZW.kT_nx, ZW.kT_cont, ZW.kT_brk, ZW.kT_ret, Z.setAll, List.set_cons_zero, List.set_cons_succ, if_true, if_false, Bool.false_eq_true, Option.bind_some, Option.map_some, Z.wipe, b_addT, List.length_cons, List.length_nil]
      have := hcl t ht
      exact ⟨by rw [List.length_map]; unfold szL; omega, hR⟩
    · rw [fm_add]
      have hz1 : (tupsD (([] :: cs).map (· ++ [s]))).length ≤ 8 := by unfold tupsD; rw [List.length_map, List.length_map, List.length_cons]; exact hc16
      have hz2 : (tupsD ([] :: cs)).length ≤ 8 := by unfold tupsD; rw [List.length_map, List.length_cons]; exact hc16
      refine ⟨by unfold szL; omega, ?_⟩
      simp +decide only [decide_true, decide_false, true_and, and_true, ZW.kO_some, ZW.kO_none, ZW.kO_map, ZW.kO_bind, ZW.kO_if, ZW.kS_nx, ZW.kS_ret, ZW.kS_brk, ZW.kS_cont, ZW.kB_bl, ZW.kI_int, ZW.kF_fr, ZW.kStr_str, ZW.kVar_val, ZW.kOwn_own, ZW.kRet_ret, ZW.kRet_nx, ZW.dg_v, ZW.dg_fr, ZW.wdg_v, ZW.wdg_fr, ZW.wdg_bw, ZW.get_0, ZW.get_s, ZW.e_var, ZW.e_own, ZW.e_int, ZW.e_bl, ZW.e_non, ZW.e_str, ZW.e_glo, ZW.e_tup, ZW.e_lst, ZW.e_bin, ZW.e_cmp, ZW.e_neg, ZW.e_not, ZW.e_and, ZW.e_or, ZW.e_ifE, ZW.e_idx, ZW.e_sl, ZW.e_call, ZW.e_bi, ZW.e_sset, ZW.e_isi, ZW.e_mth, ZW.op_no, ZW.op_yes, ZW.es_nil, ZW.es_cons, ZW.ws_nil, ZW.ws_cons, ZW.an_one, ZW.an_cons, ZW.or_one, ZW.or_cons, ZW.t_e, ZW.t_cmp', ZW.t_not', ZW.t_and', ZW.t_or', ZW.ts_nil, ZW.ts_cons, ZW.to_nil, ZW.to_cons, ZW.ss_nil, ZW.ss_cons, ZW.s_ex, ZW.s_asg, ZW.s_asgO, ZW.s_asgC, ZW.s_par, ZW.par_nil, ZW.par_t, ZW.par_f, ZW.kTup_tup, ZW.s_star, ZW.s_ret, ZW.kRF_fr, ZW.kRF_bw, ZW.s_retF, ZW.s_retN, ZW.s_iff, ZW.s_app, ZW.s_setO, ZW.kRef_ref, ZW.s_setR, ZW.s_frz, ZW.s_brk, ZW.s_cont, ZW.s_pass, ZW.bt_nm, ZW.bt_tp, ZW.bt_lp, ZW.bts_nil, ZW.bts_cons, ZW.kSeq_tup, ZW.kSeq_lst, ZW.kSeq_scr, ZW.kSeq_str, ZW.it_seq, ZW.it_rng, ZW.it_rng2, ZW.kZip_lst, ZW.kZip_tup, ZW.it_zip, ZW.kLst_lst, ZW.it_enum, ZW.tw_post, ZW.tx_post, ZW.s_for, ZW.e_comp, ZW.kT_nx, ZW.kT_cont, ZW.kT_brk, ZW.kT_ret, Z.setAll, List.set_cons_zero, List.set_cons_succ, if_true, if_false, Bool.false_eq_true, Option.bind_some, Option.map_some, Z.wipe, b_addL]
      refine ⟨by unfold szL; omega, by omega, cs ++ (([] :: cs).map (· ++ [s])), .val (.str s), s3, ?_, ?_, ?_⟩
      · unfold tupsD
        rw [← List.map_append]
        rfl
      · rw [List.length_append, List.length_map, List.length_cons, Nat.pow_succ]
        omega
      · intro c hcm
        rcases List.mem_cons.mp hcm with rfl | hcm
        · exact Nat.zero_le _
        · rcases List.mem_append.mp hcm with z | z
          · have := hcl c (List.mem_cons_of_mem _ z)
            omega
          · obtain ⟨t, ht, rfl⟩ := List.mem_map.mp z
            have := hcl t ht
            rw [List.length_append, List.length_singleton]
            omega
  · rintro ρ h' ⟨rfl, hi, cs, s2, s3, rfl, hc, hcl⟩
    rw [List.length_map, hl] at hc
    have hc16 : cs.length + 1 ≤ 16 := by
      have : 2 ^ xs.length ≤ 2 ^ 4 := Nat.pow_le_pow_right (by decide) (by omega)
      omega
    obtain ⟨ds, e⟩ := sorted_tups (h := h') (cs := cs) (by omega)
    simp +decide only [decide_true, decide_false, true_and, and_true, ZW.kO_some, ZW.kO_none, ZW.kO_map, ZW.kO_bind, ZW.kO_if, ZW.kS_nx, ZW.kS_ret, ZW.kS_brk, ZW.kS_cont, ZW.kB_bl, ZW.kI_int, ZW.kF_fr, ZW.kStr_str, ZW.kVar_val, ZW.kOwn_own, ZW.kRet_ret, ZW.kRet_nx, ZW.dg_v, ZW.dg_fr, ZW.wdg_v, ZW.wdg_fr, ZW.wdg_bw, ZW.get_0, ZW.get_s, ZW.e_var, ZW.e_own, ZW.e_int, ZW.e_bl, ZW.e_non, ZW.e_str, ZW.e_glo, ZW.e_tup, ZW.e_lst, ZW.e_bin, ZW.e_cmp, ZW.e_neg, ZW.e_not, ZW.e_and, ZW.e_or, ZW.e_ifE, ZW.e_idx, ZW.e_sl, ZW.e_call, ZW.e_bi, ZW.e_sset, ZW.e_isi, ZW.e_mth, ZW.op_no, ZW.op_yes, ZW.es_nil, ZW.es_cons, ZW.ws_nil, ZW.ws_cons, ZW.an_one, ZW.an_cons, ZW.or_one, ZW.or_cons, ZW.t_e, ZW.t_cmp', ZW.t_not', ZW.t_and', ZW.t_or', ZW.ts_nil, ZW.ts_cons, ZW.to_nil, ZW.to_cons, ZW.ss_nil, ZW.ss_cons, ZW.s_ex, ZW.s_asg, ZW.s_asgO, ZW.s_asgC, ZW.s_par, ZW.par_nil, ZW.par_t, ZW.par_f, ZW.kTup_tup, ZW.s_star, ZW.s_ret, ZW.kRF_fr, ZW.kRF_bw, ZW.s_retF, ZW.s_retN, ZW.s_iff, ZW.s_app, ZW.s_setO, ZW.kRef_ref, ZW.s_setR, ZW.s_frz, ZW.s_brk, ZW.s_cont, ZW.s_pass, ZW.bt_nm, ZW.bt_tp, ZW.bt_lp, ZW.bts_nil, ZW.bts_cons, ZW.kSeq_tup, ZW.kSeq_lst, ZW.kSeq_scr, ZW.kSeq_str, ZW.it_seq, ZW.it_rng, ZW.it_rng2, ZW.kZip_lst, ZW.kZip_tup, ZW.it_zip, ZW.kLst_lst, ZW.it_enum, ZW.tw_post, ZW.tx_post, ZW.s_for, ZW.e_comp, ZW.kT_nx, ZW.kT_cont, ZW.kT_brk, ZW.kT_ret, Z.setAll, List.set_cons_zero, List.set_cons_succ, if_true, if_false, Bool.false_eq_true, Option.bind_some, Option.map_some, Z.wipe, e]
    exact q ds
end
end K03
end

section
namespace K03
open Z ZW
section
variable {wf n : Nat} {h : LH} {Q : Rv → LH → Prop} {xs : List (List Nat)} {r : Nat}
abbrev turnB : Ss := (.cons (.par [(false, 5), (false, 6)] (.cons (.call 9 (.cons (.var 2) (.cons (.var 3) (.cons (.bin .add (.int 1) (.call 2 (.cons (.var 2) (.cons (.int 6) .nil)))) .nil)))) (.cons (.call 9 (.cons (.var 2) (.cons (.var 3) (.cons (.bin .add (.int 1) (.call 2 (.cons (.var 2) (.cons (.int 5) .nil)))) .nil)))) .nil))) (.cons (.par [(false, 7), (false, 8)] (.cons (.call 11 (.cons (.var 2) (.cons (.bin .add (.var 3) (.lst (.cons (.str [122, 122, 122, 122]) .nil))) .nil))) (.cons (.call 11 (.cons (.var 2) (.cons (.var 3) .nil))) .nil))) (.cons (.iff (.or (.cons (.not (.e (.call 12 (.cons (.var 5) (.cons (.var 7) (.cons (.var 8) .nil)))))) (.cons (.not (.e (.call 12 (.cons (.var 6) (.cons (.var 8) (.cons (.var 7) .nil)))))) .nil))) (.cons (.ret (.bl false)) .nil) .nil) (.cons (.par [(false, 9), (false, 10)] (.cons (.call 0 (.cons (.var 6) (.cons (.var 7) (.cons (.var 8) .nil)))) (.cons (.lst (.cons (.call 0 (.cons (.tup (.cons (.str [121, 101, 115]) .nil)) (.cons (.var 7) (.cons (.var 8) .nil)))) (.cons (.call 0 (.cons (.tup (.cons (.str [110, 111]) .nil)) (.cons (.var 7) (.cons (.var 8) .nil)))) .nil))) .nil))) (.cons (.iff (.not (.e (.call 7 (.cons (.bin .add (.var 10) (.lst (.cons (.call 0 (.cons (.tup (.cons (.str [110, 111, 116]) (.cons (.var 6) .nil))) (.cons (.var 7) (.cons (.var 8) .nil)))) .nil))) (.cons (.lst (.cons (.bl true) (.cons (.bl false) (.cons (.not (.var 9)) .nil)))) .nil))))) (.cons (.ret (.bl false)) .nil) .nil) (.cons (.asg (.nm 11) (.call 9 (.cons (.var 2) (.cons (.var 3) (.cons (.bin .add (.int 1) (.call 2 (.cons (.var 2) (.cons (.int 5) .nil)))) .nil))))) (.cons (.asg (.nm 12) (.call 0 (.cons (.var 11) (.cons (.var 7) (.cons (.var 8) .nil))))) (.cons (.asg (.nm 13) (.lst (.cons (.call 0 (.cons (.tup (.cons (.str [97, 110, 100]) (.cons (.var 6) (.cons (.var 11) .nil)))) (.cons (.var 7) (.cons (.var 8) .nil)))) (.cons (.call 0 (.cons (.tup (.cons (.str [111, 114]) (.cons (.var 6) (.cons (.var 11) .nil)))) (.cons (.var 7) (.cons (.var 8) .nil)))) .nil)))) (.cons (.iff (.not (.e (.call 7 (.cons (.var 13) (.cons (.lst (.cons (.and (.cons (.var 9) (.cons (.var 12) .nil))) (.cons (.or (.cons (.var 9) (.cons (.var 12) .nil))) .nil))) .nil))))) (.cons (.ret (.bl false)) .nil) .nil) .nil)))))))))
theorem app1 {s : List Nat} : xs.map D.str ++ [.str s] = (xs ++ [s]).map .str := by rw [List.map_append]; rfl
theorem turn_ok {f : Nat} {s0 s1 s4 s5 s6 s7 s8 s9 s10 s11 s12 s13 s14 : Slot} {R : Fl → LH → Prop} (hx : xs.length = 4) (hb : Box (f + 330) r h)
    (q : ∀ s4 s5 s6 s7 s8 s9 s10 s11 s12 s13 s14 h', Box f r h' → R (.nx [s0, s1, .val (.ref r), .val (.lst (xs.map .str)), s4, s5, s6, s7, s8, s9, s10, s11, s12, s13, s14]) h') :
    (denSs ⟨run fs G wf 40, G, wf⟩ turnB [s0, s1, .val (.ref r), .val (.lst (xs.map .str)), s4, s5, s6, s7, s8, s9, s10, s11, s12, s13, s14] h).post R XF := by
  have x0 : xs ≠ [] := fun z => by rw [z] at hx; cases hx
  have x1 : xs.length < 1000 := by omega
  simp +decide only [turnB, decide_true, decide_false, true_and, and_true, ZW.kO_some, ZW.kO_none, ZW.kO_map, ZW.kO_bind, ZW.kO_if, ZW.kS_nx, ZW.kS_ret, ZW.kS_brk, ZW.kS_cont, ZW.kB_bl, ZW.kI_int, ZW.kF_fr, ZW.kStr_str, ZW.kVar_val, ZW.kOwn_own, ZW.kRet_ret, ZW.kRet_nx, ZW.dg_v, ZW.dg_fr, ZW.wdg_v, ZW.wdg_fr, ZW.wdg_bw, ZW.get_0, ZW.get_s, ZW.e_var, ZW.e_own, ZW.e_int, ZW.e_bl, ZW.e_non, ZW.e_str, ZW.e_glo, ZW.e_tup, ZW.e_lst, ZW.e_bin, ZW.e_cmp, ZW.e_neg, ZW.e_not, ZW.e_and, ZW.e_or, ZW.e_ifE, ZW.e_idx, ZW.e_sl, ZW.e_call, ZW.e_bi, ZW.e_sset, ZW.e_isi, ZW.e_mth, ZW.op_no, ZW.op_yes, ZW.es_nil, ZW.es_cons, ZW.ws_nil, ZW.ws_cons, ZW.an_one, ZW.an_cons, ZW.or_one, ZW.or_cons, ZW.t_e, ZW.t_cmp', ZW.t_not', ZW.t_and', ZW.t_or', ZW.ts_nil, ZW.ts_cons, ZW.to_nil, ZW.to_cons, ZW.ss_nil, ZW.ss_cons, ZW.s_ex, ZW.s_asg, ZW.s_asgO, ZW.s_asgC, ZW.s_par, ZW.par_nil, ZW.par_t, ZW.par_f, ZW.kTup_tup, ZW.s_star, ZW.s_ret, ZW.kRF_fr, ZW.kRF_bw, ZW.s_retF, ZW.s_retN, ZW.s_iff, ZW.s_app, ZW.s_setO, ZW.kRef_ref, ZW.s_setR, ZW.s_frz, ZW.s_brk, ZW.s_cont, ZW.s_pass, ZW.bt_nm, ZW.bt_tp, ZW.bt_lp, ZW.bts_nil, ZW.bts_cons, ZW.kSeq_tup, ZW.kSeq_lst, ZW.kSeq_scr, ZW.kSeq_str, ZW.it_seq, ZW.it_rng, ZW.it_rng2, ZW.kZip_lst, ZW.kZip_tup, ZW.it_zip, ZW.kLst_lst, ZW.it_enum, ZW.tw_post, ZW.tx_post, ZW.s_for, ZW.e_comp, ZW.kT_nx, ZW.kT_cont, ZW.kT_brk, ZW.kT_ret, Z.setAll, List.set_cons_zero, List.set_cons_succ, if_true, if_false, Bool.false_eq_true, Option.bind_some, Option.map_some, Z.wipe, List.length_cons, List.length_nil, Bool.not_true, Bool.not_false, b_add, b_addL, List.cons_append, List.nil_append]
  refine take_ok i2 (f := f + 329) (k := 6) (by decide) (by decide) hb fun j1 h1 j10 j11 b1 => ?_
  simp +decide only [decide_true, decide_false, true_and, and_true, ZW.kO_some, ZW.kO_none, ZW.kO_map, ZW.kO_bind, ZW.kO_if, ZW.kS_nx, ZW.kS_ret, ZW.kS_brk, ZW.kS_cont, ZW.kB_bl, ZW.kI_int, ZW.kF_fr, ZW.kStr_str, ZW.kVar_val, ZW.kOwn_own, ZW.kRet_ret, ZW.kRet_nx, ZW.dg_v, ZW.dg_fr, ZW.wdg_v, ZW.wdg_fr, ZW.wdg_bw, ZW.get_0, ZW.get_s, ZW.e_var, ZW.e_own, ZW.e_int, ZW.e_bl, ZW.e_non, ZW.e_str, ZW.e_glo, ZW.e_tup, ZW.e_lst, ZW.e_bin, ZW.e_cmp, ZW.e_neg, ZW.e_not, ZW.e_and, ZW.e_or, ZW.e_ifE, ZW.e_idx, ZW.e_sl, ZW.e_call, ZW.e_bi, ZW.e_sset, ZW.e_isi, ZW.e_mth, ZW.op_no, ZW.op_yes, ZW.es_nil, ZW.es_cons, ZW.ws_nil, ZW.ws_cons, ZW.an_one, ZW.an_cons, ZW.or_one, ZW.or_cons, ZW.t_e, ZW.t_cmp', ZW.t_not', ZW.t_and', ZW.t_or', ZW.ts_nil, ZW.ts_cons, ZW.to_nil, ZW.to_cons, ZW.ss_nil, ZW.ss_cons, ZW.s_ex, ZW.s_asg, ZW.s_asgO, ZW.s_asgC, ZW.s_par, ZW.par_nil, ZW.par_t, ZW.par_f, ZW.kTup_tup, ZW.s_star, ZW.s_ret, ZW.kRF_fr, ZW.kRF_bw, ZW.s_retF, ZW.s_retN, ZW.s_iff, ZW.s_app, ZW.s_setO, ZW.kRef_ref, ZW.s_setR, ZW.s_frz, ZW.s_brk, ZW.s_cont, ZW.s_pass, ZW.bt_nm, ZW.bt_tp, ZW.bt_lp, ZW.bts_nil, ZW.bts_cons, ZW.kSeq_tup, ZW.kSeq_lst, ZW.kSeq_scr, ZW.kSeq_str, ZW.it_seq, ZW.it_rng, ZW.it_rng2, ZW.kZip_lst, ZW.kZip_tup, ZW.it_zip, ZW.kLst_lst, ZW.it_enum, ZW.tw_post, ZW.tx_post, ZW.s_for, ZW.e_comp, ZW.kT_nx, ZW.kT_cont, ZW.kT_brk, ZW.kT_ret, Z.setAll, List.set_cons_zero, List.set_cons_succ, if_true, if_false, Bool.false_eq_true, Option.bind_some, Option.map_some, Z.wipe, List.length_cons, List.length_nil, Bool.not_true, Bool.not_false, b_add, b_addL, List.cons_append, List.nil_append]
  refine deep_ok x0 x1 5 40 (f + 172) (1 + j1) _ _ (by omega) (by omega) (by decide) (by decide) b1 fun ca h2 da b2 => ?_
  simp +decide only [decide_true, decide_false, true_and, and_true, ZW.kO_some, ZW.kO_none, ZW.kO_map, ZW.kO_bind, ZW.kO_if, ZW.kS_nx, ZW.kS_ret, ZW.kS_brk, ZW.kS_cont, ZW.kB_bl, ZW.kI_int, ZW.kF_fr, ZW.kStr_str, ZW.kVar_val, ZW.kOwn_own, ZW.kRet_ret, ZW.kRet_nx, ZW.dg_v, ZW.dg_fr, ZW.wdg_v, ZW.wdg_fr, ZW.wdg_bw, ZW.get_0, ZW.get_s, ZW.e_var, ZW.e_own, ZW.e_int, ZW.e_bl, ZW.e_non, ZW.e_str, ZW.e_glo, ZW.e_tup, ZW.e_lst, ZW.e_bin, ZW.e_cmp, ZW.e_neg, ZW.e_not, ZW.e_and, ZW.e_or, ZW.e_ifE, ZW.e_idx, ZW.e_sl, ZW.e_call, ZW.e_bi, ZW.e_sset, ZW.e_isi, ZW.e_mth, ZW.op_no, ZW.op_yes, ZW.es_nil, ZW.es_cons, ZW.ws_nil, ZW.ws_cons, ZW.an_one, ZW.an_cons, ZW.or_one, ZW.or_cons, ZW.t_e, ZW.t_cmp', ZW.t_not', ZW.t_and', ZW.t_or', ZW.ts_nil, ZW.ts_cons, ZW.to_nil, ZW.to_cons, ZW.ss_nil, ZW.ss_cons, ZW.s_ex, ZW.s_asg, ZW.s_asgO, ZW.s_asgC, ZW.s_par, ZW.par_nil, ZW.par_t, ZW.par_f, ZW.kTup_tup, ZW.s_star, ZW.s_ret, ZW.kRF_fr, ZW.kRF_bw, ZW.s_retF, ZW.s_retN, ZW.s_iff, ZW.s_app, ZW.s_setO, ZW.kRef_ref, ZW.s_setR, ZW.s_frz, ZW.s_brk, ZW.s_cont, ZW.s_pass, ZW.bt_nm, ZW.bt_tp, ZW.bt_lp, ZW.bts_nil, ZW.bts_cons, ZW.kSeq_tup, ZW.kSeq_lst, ZW.kSeq_scr, ZW.kSeq_str, ZW.it_seq, ZW.it_rng, ZW.it_rng2, ZW.kZip_lst, ZW.kZip_tup, ZW.it_zip, ZW.kLst_lst, ZW.it_enum, ZW.tw_post, ZW.tx_post, ZW.s_for, ZW.e_comp, ZW.kT_nx, ZW.kT_cont, ZW.kT_brk, ZW.kT_ret, Z.setAll, List.set_cons_zero, List.set_cons_succ, if_true, if_false, Bool.false_eq_true, Option.bind_some, Option.map_some, Z.wipe, List.length_cons, List.length_nil, Bool.not_true, Bool.not_false, b_add, b_addL, List.cons_append, List.nil_append]
  refine take_ok i2 (f := f + 171) (k := 5) (by decide) (by decide) b2 fun j2 h3 j20 j21 b3 => ?_
  simp +decide only [decide_true, decide_false, true_and, and_true, ZW.kO_some, ZW.kO_none, ZW.kO_map, ZW.kO_bind, ZW.kO_if, ZW.kS_nx, ZW.kS_ret, ZW.kS_brk, ZW.kS_cont, ZW.kB_bl, ZW.kI_int, ZW.kF_fr, ZW.kStr_str, ZW.kVar_val, ZW.kOwn_own, ZW.kRet_ret, ZW.kRet_nx, ZW.dg_v, ZW.dg_fr, ZW.wdg_v, ZW.wdg_fr, ZW.wdg_bw, ZW.get_0, ZW.get_s, ZW.e_var, ZW.e_own, ZW.e_int, ZW.e_bl, ZW.e_non, ZW.e_str, ZW.e_glo, ZW.e_tup, ZW.e_lst, ZW.e_bin, ZW.e_cmp, ZW.e_neg, ZW.e_not, ZW.e_and, ZW.e_or, ZW.e_ifE, ZW.e_idx, ZW.e_sl, ZW.e_call, ZW.e_bi, ZW.e_sset, ZW.e_isi, ZW.e_mth, ZW.op_no, ZW.op_yes, ZW.es_nil, ZW.es_cons, ZW.ws_nil, ZW.ws_cons, ZW.an_one, ZW.an_cons, ZW.or_one, ZW.or_cons, ZW.t_e, ZW.t_cmp', ZW.t_not', ZW.t_and', ZW.t_or', ZW.ts_nil, ZW.ts_cons, ZW.to_nil, ZW.to_cons, ZW.ss_nil, ZW.ss_cons, ZW.s_ex, ZW.s_asg, ZW.s_asgO, ZW.s_asgC, ZW.s_par, ZW.par_nil, ZW.par_t, ZW.par_f, ZW.kTup_tup, ZW.s_star, ZW.s_ret, ZW.kRF_fr, ZW.kRF_bw, ZW.s_retF, ZW.s_retN, ZW.s_iff, ZW.s_app, ZW.s_setO, ZW.kRef_ref, ZW.s_setR, ZW.s_frz, ZW.s_brk, ZW.s_cont, ZW.s_pass, ZW.bt_nm, ZW.bt_tp, ZW.bt_lp, ZW.bts_nil, ZW.bts_cons, ZW.kSeq_tup, ZW.kSeq_lst, ZW.kSeq_scr, ZW.kSeq_str, ZW.it_seq, ZW.it_rng, ZW.it_rng2, ZW.kZip_lst, ZW.kZip_tup, ZW.it_zip, ZW.kLst_lst, ZW.it_enum, ZW.tw_post, ZW.tx_post, ZW.s_for, ZW.e_comp, ZW.kT_nx, ZW.kT_cont, ZW.kT_brk, ZW.kT_ret, Z.setAll, List.set_cons_zero, List.set_cons_succ, if_true, if_false, Bool.false_eq_true, Option.bind_some, Option.map_some, Z.wipe, List.length_cons, List.length_nil, Bool.not_true, Bool.not_false, b_add, b_addL, List.cons_append, List.nil_append]
  refine deep_ok x0 x1 4 40 (f + 94) (1 + j2) _ _ (by omega) (by omega) (by decide) (by decide) b3 fun cb h4 db b4 => ?_
  simp +decide only [decide_true, decide_false, true_and, and_true, ZW.kO_some, ZW.kO_none, ZW.kO_map, ZW.kO_bind, ZW.kO_if, ZW.kS_nx, ZW.kS_ret, ZW.kS_brk, ZW.kS_cont, ZW.kB_bl, ZW.kI_int, ZW.kF_fr, ZW.kStr_str, ZW.kVar_val, ZW.kOwn_own, ZW.kRet_ret, ZW.kRet_nx, ZW.dg_v, ZW.dg_fr, ZW.wdg_v, ZW.wdg_fr, ZW.wdg_bw, ZW.get_0, ZW.get_s, ZW.e_var, ZW.e_own, ZW.e_int, ZW.e_bl, ZW.e_non, ZW.e_str, ZW.e_glo, ZW.e_tup, ZW.e_lst, ZW.e_bin, ZW.e_cmp, ZW.e_neg, ZW.e_not, ZW.e_and, ZW.e_or, ZW.e_ifE, ZW.e_idx, ZW.e_sl, ZW.e_call, ZW.e_bi, ZW.e_sset, ZW.e_isi, ZW.e_mth, ZW.op_no, ZW.op_yes, ZW.es_nil, ZW.es_cons, ZW.ws_nil, ZW.ws_cons, ZW.an_one, ZW.an_cons, ZW.or_one, ZW.or_cons, ZW.t_e, ZW.t_cmp', ZW.t_not', ZW.t_and', ZW.t_or', ZW.ts_nil, ZW.ts_cons, ZW.to_nil, ZW.to_cons, ZW.ss_nil, ZW.ss_cons, ZW.s_ex, ZW.s_asg, ZW.s_asgO, ZW.s_asgC, ZW.s_par, ZW.par_nil, ZW.par_t, ZW.par_f, ZW.kTup_tup, ZW.s_star, ZW.s_ret, ZW.kRF_fr, ZW.kRF_bw, ZW.s_retF, ZW.s_retN, ZW.s_iff, ZW.s_app, ZW.s_setO, ZW.kRef_ref, ZW.s_setR, ZW.s_frz, ZW.s_brk, ZW.s_cont, ZW.s_pass, ZW.bt_nm, ZW.bt_tp, ZW.bt_lp, ZW.bts_nil, ZW.bts_cons, ZW.kSeq_tup, ZW.kSeq_lst, ZW.kSeq_scr, ZW.kSeq_str, ZW.it_seq, ZW.it_rng, ZW.it_rng2, ZW.kZip_lst, ZW.kZip_tup, ZW.it_zip, ZW.kLst_lst, ZW.it_enum, ZW.tw_post, ZW.tx_post, ZW.s_for, ZW.e_comp, ZW.kT_nx, ZW.kT_cont, ZW.kT_brk, ZW.kT_ret, Z.setAll, List.set_cons_zero, List.set_cons_succ, if_true, if_false, Bool.false_eq_true, Option.bind_some, Option.map_some, Z.wipe, List.length_cons, List.length_nil, Bool.not_true, Bool.not_false, b_add, b_addL, List.cons_append, List.nil_append]
  refine ⟨by rw [List.length_map]; unfold szL; omega, ?_⟩
  rw [app1]
  refine set_ok (f := f + 89) (by rw [List.length_append, hx]; decide) (b4.less (by rw [List.length_append, hx]; exact Nat.le_refl _)) fun N h5 b5 => ?_
  simp +decide only [decide_true, decide_false, true_and, and_true, ZW.kO_some, ZW.kO_none, ZW.kO_map, ZW.kO_bind, ZW.kO_if, ZW.kS_nx, ZW.kS_ret, ZW.kS_brk, ZW.kS_cont, ZW.kB_bl, ZW.kI_int, ZW.kF_fr, ZW.kStr_str, ZW.kVar_val, ZW.kOwn_own, ZW.kRet_ret, ZW.kRet_nx, ZW.dg_v, ZW.dg_fr, ZW.wdg_v, ZW.wdg_fr, ZW.wdg_bw, ZW.get_0, ZW.get_s, ZW.e_var, ZW.e_own, ZW.e_int, ZW.e_bl, ZW.e_non, ZW.e_str, ZW.e_glo, ZW.e_tup, ZW.e_lst, ZW.e_bin, ZW.e_cmp, ZW.e_neg, ZW.e_not, ZW.e_and, ZW.e_or, ZW.e_ifE, ZW.e_idx, ZW.e_sl, ZW.e_call, ZW.e_bi, ZW.e_sset, ZW.e_isi, ZW.e_mth, ZW.op_no, ZW.op_yes, ZW.es_nil, ZW.es_cons, ZW.ws_nil, ZW.ws_cons, ZW.an_one, ZW.an_cons, ZW.or_one, ZW.or_cons, ZW.t_e, ZW.t_cmp', ZW.t_not', ZW.t_and', ZW.t_or', ZW.ts_nil, ZW.ts_cons, ZW.to_nil, ZW.to_cons, ZW.ss_nil, ZW.ss_cons, ZW.s_ex, ZW.s_asg, ZW.s_asgO, ZW.s_asgC, ZW.s_par, ZW.par_nil, ZW.par_t, ZW.par_f, ZW.kTup_tup, ZW.s_star, ZW.s_ret, ZW.kRF_fr, ZW.kRF_bw, ZW.s_retF, ZW.s_retN, ZW.s_iff, ZW.s_app, ZW.s_setO, ZW.kRef_ref, ZW.s_setR, ZW.s_frz, ZW.s_brk, ZW.s_cont, ZW.s_pass, ZW.bt_nm, ZW.bt_tp, ZW.bt_lp, ZW.bts_nil, ZW.bts_cons, ZW.kSeq_tup, ZW.kSeq_lst, ZW.kSeq_scr, ZW.kSeq_str, ZW.it_seq, ZW.it_rng, ZW.it_rng2, ZW.kZip_lst, ZW.kZip_tup, ZW.it_zip, ZW.kLst_lst, ZW.it_enum, ZW.tw_post, ZW.tx_post, ZW.s_for, ZW.e_comp, ZW.kT_nx, ZW.kT_cont, ZW.kT_brk, ZW.kT_ret, Z.setAll, List.set_cons_zero, List.set_cons_succ, if_true, if_false, Bool.false_eq_true, Option.bind_some, Option.map_some, Z.wipe, List.length_cons, List.length_nil, Bool.not_true, Bool.not_false, b_add, b_addL, List.cons_append, List.nil_append]
  refine set_ok (f := f + 85) (by rw [hx]; decide) (b5.less (by rw [hx]; exact Nat.le_refl _)) fun B h6 b6 => ?_
  simp +decide only [decide_true, decide_false, true_and, and_true, ZW.kO_some, ZW.kO_none, ZW.kO_map, ZW.kO_bind, ZW.kO_if, ZW.kS_nx, ZW.kS_ret, ZW.kS_brk, ZW.kS_cont, ZW.kB_bl, ZW.kI_int, ZW.kF_fr, ZW.kStr_str, ZW.kVar_val, ZW.kOwn_own, ZW.kRet_ret, ZW.kRet_nx, ZW.dg_v, ZW.dg_fr, ZW.wdg_v, ZW.wdg_fr, ZW.wdg_bw, ZW.get_0, ZW.get_s, ZW.e_var, ZW.e_own, ZW.e_int, ZW.e_bl, ZW.e_non, ZW.e_str, ZW.e_glo, ZW.e_tup, ZW.e_lst, ZW.e_bin, ZW.e_cmp, ZW.e_neg, ZW.e_not, ZW.e_and, ZW.e_or, ZW.e_ifE, ZW.e_idx, ZW.e_sl, ZW.e_call, ZW.e_bi, ZW.e_sset, ZW.e_isi, ZW.e_mth, ZW.op_no, ZW.op_yes, ZW.es_nil, ZW.es_cons, ZW.ws_nil, ZW.ws_cons, ZW.an_one, ZW.an_cons, ZW.or_one, ZW.or_cons, ZW.t_e, ZW.t_cmp', ZW.t_not', ZW.t_and', ZW.t_or', ZW.ts_nil, ZW.ts_cons, ZW.to_nil, ZW.to_cons, ZW.ss_nil, ZW.ss_cons, ZW.s_ex, ZW.s_asg, ZW.s_asgO, ZW.s_asgC, ZW.s_par, ZW.par_nil, ZW.par_t, ZW.par_f, ZW.kTup_tup, ZW.s_star, ZW.s_ret, ZW.kRF_fr, ZW.kRF_bw, ZW.s_retF, ZW.s_retN, ZW.s_iff, ZW.s_app, ZW.s_setO, ZW.kRef_ref, ZW.s_setR, ZW.s_frz, ZW.s_brk, ZW.s_cont, ZW.s_pass, ZW.bt_nm, ZW.bt_tp, ZW.bt_lp, ZW.bts_nil, ZW.bts_cons, ZW.kSeq_tup, ZW.kSeq_lst, ZW.kSeq_scr, ZW.kSeq_str, ZW.it_seq, ZW.it_rng, ZW.it_rng2, ZW.kZip_lst, ZW.kZip_tup, ZW.it_zip, ZW.kLst_lst, ZW.it_enum, ZW.tw_post, ZW.tx_post, ZW.s_for, ZW.e_comp, ZW.kT_nx, ZW.kT_cont, ZW.kT_brk, ZW.kT_ret, Z.setAll, List.set_cons_zero, List.set_cons_succ, if_true, if_false, Bool.false_eq_true, Option.bind_some, Option.map_some, Z.wipe, List.length_cons, List.length_nil, Bool.not_true, Bool.not_false, b_add, b_addL, List.cons_append, List.nil_append]
  have n1 : Nm (.tup (N.map .str)) N := .inl rfl
  have b1 : Nm (.tup (B.map .str)) B := .inl rfl
  refine right_ok ca (by omega) ?_
  simp +decide only [decide_true, decide_false, true_and, and_true, ZW.kO_some, ZW.kO_none, ZW.kO_map, ZW.kO_bind, ZW.kO_if, ZW.kS_nx, ZW.kS_ret, ZW.kS_brk, ZW.kS_cont, ZW.kB_bl, ZW.kI_int, ZW.kF_fr, ZW.kStr_str, ZW.kVar_val, ZW.kOwn_own, ZW.kRet_ret, ZW.kRet_nx, ZW.dg_v, ZW.dg_fr, ZW.wdg_v, ZW.wdg_fr, ZW.wdg_bw, ZW.get_0, ZW.get_s, ZW.e_var, ZW.e_own, ZW.e_int, ZW.e_bl, ZW.e_non, ZW.e_str, ZW.e_glo, ZW.e_tup, ZW.e_lst, ZW.e_bin, ZW.e_cmp, ZW.e_neg, ZW.e_not, ZW.e_and, ZW.e_or, ZW.e_ifE, ZW.e_idx, ZW.e_sl, ZW.e_call, ZW.e_bi, ZW.e_sset, ZW.e_isi, ZW.e_mth, ZW.op_no, ZW.op_yes, ZW.es_nil, ZW.es_cons, ZW.ws_nil, ZW.ws_cons, ZW.an_one, ZW.an_cons, ZW.or_one, ZW.or_cons, ZW.t_e, ZW.t_cmp', ZW.t_not', ZW.t_and', ZW.t_or', ZW.ts_nil, ZW.ts_cons, ZW.to_nil, ZW.to_cons, ZW.ss_nil, ZW.ss_cons, ZW.s_ex, ZW.s_asg, ZW.s_asgO, ZW.s_asgC, ZW.s_par, ZW.par_nil, ZW.par_t, ZW.par_f, ZW.kTup_tup, ZW.s_star, ZW.s_ret, ZW.kRF_fr, ZW.kRF_bw, ZW.s_retF, ZW.s_retN, ZW.s_iff, ZW.s_app, ZW.s_setO, ZW.kRef_ref, ZW.s_setR, ZW.s_frz, ZW.s_brk, ZW.s_cont, ZW.s_pass, ZW.bt_nm, ZW.bt_tp, ZW.bt_lp, ZW.bts_nil, ZW.bts_cons, ZW.kSeq_tup, ZW.kSeq_lst, ZW.kSeq_scr, ZW.kSeq_str, ZW.it_seq, ZW.it_rng, ZW.it_rng2, ZW.kZip_lst, ZW.kZip_tup, ZW.it_zip, ZW.kLst_lst, ZW.it_enum, ZW.tw_post, ZW.tx_post, ZW.s_for, ZW.e_comp, ZW.kT_nx, ZW.kT_cont, ZW.kT_brk, ZW.kT_ret, Z.setAll, List.set_cons_zero, List.set_cons_succ, if_true, if_false, Bool.false_eq_true, Option.bind_some, Option.map_some, Z.wipe, List.length_cons, List.length_nil, Bool.not_true, Bool.not_false, b_add, b_addL, List.cons_append, List.nil_append]
  refine right_ok cb (by omega) ?_
  simp +decide only [decide_true, decide_false, true_and, and_true, ZW.kO_some, ZW.kO_none, ZW.kO_map, ZW.kO_bind, ZW.kO_if, ZW.kS_nx, ZW.kS_ret, ZW.kS_brk, ZW.kS_cont, ZW.kB_bl, ZW.kI_int, ZW.kF_fr, ZW.kStr_str, ZW.kVar_val, ZW.kOwn_own, ZW.kRet_ret, ZW.kRet_nx, ZW.dg_v, ZW.dg_fr, ZW.wdg_v, ZW.wdg_fr, ZW.wdg_bw, ZW.get_0, ZW.get_s, ZW.e_var, ZW.e_own, ZW.e_int, ZW.e_bl, ZW.e_non, ZW.e_str, ZW.e_glo, ZW.e_tup, ZW.e_lst, ZW.e_bin, ZW.e_cmp, ZW.e_neg, ZW.e_not, ZW.e_and, ZW.e_or, ZW.e_ifE, ZW.e_idx, ZW.e_sl, ZW.e_call, ZW.e_bi, ZW.e_sset, ZW.e_isi, ZW.e_mth, ZW.op_no, ZW.op_yes, ZW.es_nil, ZW.es_cons, ZW.ws_nil, ZW.ws_cons, ZW.an_one, ZW.an_cons, ZW.or_one, ZW.or_cons, ZW.t_e, ZW.t_cmp', ZW.t_not', ZW.t_and', ZW.t_or', ZW.ts_nil, ZW.ts_cons, ZW.to_nil, ZW.to_cons, ZW.ss_nil, ZW.ss_cons, ZW.s_ex, ZW.s_asg, ZW.s_asgO, ZW.s_asgC, ZW.s_par, ZW.par_nil, ZW.par_t, ZW.par_f, ZW.kTup_tup, ZW.s_star, ZW.s_ret, ZW.kRF_fr, ZW.kRF_bw, ZW.s_retF, ZW.s_retN, ZW.s_iff, ZW.s_app, ZW.s_setO, ZW.kRef_ref, ZW.s_setR, ZW.s_frz, ZW.s_brk, ZW.s_cont, ZW.s_pass, ZW.bt_nm, ZW.bt_tp, ZW.bt_lp, ZW.bts_nil, ZW.bts_cons, ZW.kSeq_tup, ZW.kSeq_lst, ZW.kSeq_scr, ZW.kSeq_str, ZW.it_seq, ZW.it_rng, ZW.it_rng2, ZW.kZip_lst, ZW.kZip_tup, ZW.it_zip, ZW.kLst_lst, ZW.it_enum, ZW.tw_post, ZW.tx_post, ZW.s_for, ZW.e_comp, ZW.kT_nx, ZW.kT_cont, ZW.kT_brk, ZW.kT_ret, Z.setAll, List.set_cons_zero, List.set_cons_succ, if_true, if_false, Bool.false_eq_true, Option.bind_some, Option.map_some, Z.wipe, List.length_cons, List.length_nil, Bool.not_true, Bool.not_false, b_add, b_addL, List.cons_append, List.nil_append]
  refine at_ok n1 b1 cb _ _ (by omega) ?_
  simp +decide only [decide_true, decide_false, true_and, and_true, ZW.kO_some, ZW.kO_none, ZW.kO_map, ZW.kO_bind, ZW.kO_if, ZW.kS_nx, ZW.kS_ret, ZW.kS_brk, ZW.kS_cont, ZW.kB_bl, ZW.kI_int, ZW.kF_fr, ZW.kStr_str, ZW.kVar_val, ZW.kOwn_own, ZW.kRet_ret, ZW.kRet_nx, ZW.dg_v, ZW.dg_fr, ZW.wdg_v, ZW.wdg_fr, ZW.wdg_bw, ZW.get_0, ZW.get_s, ZW.e_var, ZW.e_own, ZW.e_int, ZW.e_bl, ZW.e_non, ZW.e_str, ZW.e_glo, ZW.e_tup, ZW.e_lst, ZW.e_bin, ZW.e_cmp, ZW.e_neg, ZW.e_not, ZW.e_and, ZW.e_or, ZW.e_ifE, ZW.e_idx, ZW.e_sl, ZW.e_call, ZW.e_bi, ZW.e_sset, ZW.e_isi, ZW.e_mth, ZW.op_no, ZW.op_yes, ZW.es_nil, ZW.es_cons, ZW.ws_nil, ZW.ws_cons, ZW.an_one, ZW.an_cons, ZW.or_one, ZW.or_cons, ZW.t_e, ZW.t_cmp', ZW.t_not', ZW.t_and', ZW.t_or', ZW.ts_nil, ZW.ts_cons, ZW.to_nil, ZW.to_cons, ZW.ss_nil, ZW.ss_cons, ZW.s_ex, ZW.s_asg, ZW.s_asgO, ZW.s_asgC, ZW.s_par, ZW.par_nil, ZW.par_t, ZW.par_f, ZW.kTup_tup, ZW.s_star, ZW.s_ret, ZW.kRF_fr, ZW.kRF_bw, ZW.s_retF, ZW.s_retN, ZW.s_iff, ZW.s_app, ZW.s_setO, ZW.kRef_ref, ZW.s_setR, ZW.s_frz, ZW.s_brk, ZW.s_cont, ZW.s_pass, ZW.bt_nm, ZW.bt_tp, ZW.bt_lp, ZW.bts_nil, ZW.bts_cons, ZW.kSeq_tup, ZW.kSeq_lst, ZW.kSeq_scr, ZW.kSeq_str, ZW.it_seq, ZW.it_rng, ZW.it_rng2, ZW.kZip_lst, ZW.kZip_tup, ZW.it_zip, ZW.kLst_lst, ZW.it_enum, ZW.tw_post, ZW.tx_post, ZW.s_for, ZW.e_comp, ZW.kT_nx, ZW.kT_cont, ZW.kT_brk, ZW.kT_ret, Z.setAll, List.set_cons_zero, List.set_cons_succ, if_true, if_false, Bool.false_eq_true, Option.bind_some, Option.map_some, Z.wipe, List.length_cons, List.length_nil, Bool.not_true, Bool.not_false, b_add, b_addL, List.cons_append, List.nil_append]
  refine at_ok n1 b1 .yes _ _ (by decide) ?_
  simp +decide only [decide_true, decide_false, true_and, and_true, ZW.kO_some, ZW.kO_none, ZW.kO_map, ZW.kO_bind, ZW.kO_if, ZW.kS_nx, ZW.kS_ret, ZW.kS_brk, ZW.kS_cont, ZW.kB_bl, ZW.kI_int, ZW.kF_fr, ZW.kStr_str, ZW.kVar_val, ZW.kOwn_own, ZW.kRet_ret, ZW.kRet_nx, ZW.dg_v, ZW.dg_fr, ZW.wdg_v, ZW.wdg_fr, ZW.wdg_bw, ZW.get_0, ZW.get_s, ZW.e_var, ZW.e_own, ZW.e_int, ZW.e_bl, ZW.e_non, ZW.e_str, ZW.e_glo, ZW.e_tup, ZW.e_lst, ZW.e_bin, ZW.e_cmp, ZW.e_neg, ZW.e_not, ZW.e_and, ZW.e_or, ZW.e_ifE, ZW.e_idx, ZW.e_sl, ZW.e_call, ZW.e_bi, ZW.e_sset, ZW.e_isi, ZW.e_mth, ZW.op_no, ZW.op_yes, ZW.es_nil, ZW.es_cons, ZW.ws_nil, ZW.ws_cons, ZW.an_one, ZW.an_cons, ZW.or_one, ZW.or_cons, ZW.t_e, ZW.t_cmp', ZW.t_not', ZW.t_and', ZW.t_or', ZW.ts_nil, ZW.ts_cons, ZW.to_nil, ZW.to_cons, ZW.ss_nil, ZW.ss_cons, ZW.s_ex, ZW.s_asg, ZW.s_asgO, ZW.s_asgC, ZW.s_par, ZW.par_nil, ZW.par_t, ZW.par_f, ZW.kTup_tup, ZW.s_star, ZW.s_ret, ZW.kRF_fr, ZW.kRF_bw, ZW.s_retF, ZW.s_retN, ZW.s_iff, ZW.s_app, ZW.s_setO, ZW.kRef_ref, ZW.s_setR, ZW.s_frz, ZW.s_brk, ZW.s_cont, ZW.s_pass, ZW.bt_nm, ZW.bt_tp, ZW.bt_lp, ZW.bts_nil, ZW.bts_cons, ZW.kSeq_tup, ZW.kSeq_lst, ZW.kSeq_scr, ZW.kSeq_str, ZW.it_seq, ZW.it_rng, ZW.it_rng2, ZW.kZip_lst, ZW.kZip_tup, ZW.it_zip, ZW.kLst_lst, ZW.it_enum, ZW.tw_post, ZW.tx_post, ZW.s_for, ZW.e_comp, ZW.kT_nx, ZW.kT_cont, ZW.kT_brk, ZW.kT_ret, Z.setAll, List.set_cons_zero, List.set_cons_succ, if_true, if_false, Bool.false_eq_true, Option.bind_some, Option.map_some, Z.wipe, List.length_cons, List.length_nil, Bool.not_true, Bool.not_false, b_add, b_addL, List.cons_append, List.nil_append]
  refine at_ok n1 b1 .no _ _ (by decide) ?_
  simp +decide only [decide_true, decide_false, true_and, and_true, ZW.kO_some, ZW.kO_none, ZW.kO_map, ZW.kO_bind, ZW.kO_if, ZW.kS_nx, ZW.kS_ret, ZW.kS_brk, ZW.kS_cont, ZW.kB_bl, ZW.kI_int, ZW.kF_fr, ZW.kStr_str, ZW.kVar_val, ZW.kOwn_own, ZW.kRet_ret, ZW.kRet_nx, ZW.dg_v, ZW.dg_fr, ZW.wdg_v, ZW.wdg_fr, ZW.wdg_bw, ZW.get_0, ZW.get_s, ZW.e_var, ZW.e_own, ZW.e_int, ZW.e_bl, ZW.e_non, ZW.e_str, ZW.e_glo, ZW.e_tup, ZW.e_lst, ZW.e_bin, ZW.e_cmp, ZW.e_neg, ZW.e_not, ZW.e_and, ZW.e_or, ZW.e_ifE, ZW.e_idx, ZW.e_sl, ZW.e_call, ZW.e_bi, ZW.e_sset, ZW.e_isi, ZW.e_mth, ZW.op_no, ZW.op_yes, ZW.es_nil, ZW.es_cons, ZW.ws_nil, ZW.ws_cons, ZW.an_one, ZW.an_cons, ZW.or_one, ZW.or_cons, ZW.t_e, ZW.t_cmp', ZW.t_not', ZW.t_and', ZW.t_or', ZW.ts_nil, ZW.ts_cons, ZW.to_nil, ZW.to_cons, ZW.ss_nil, ZW.ss_cons, ZW.s_ex, ZW.s_asg, ZW.s_asgO, ZW.s_asgC, ZW.s_par, ZW.par_nil, ZW.par_t, ZW.par_f, ZW.kTup_tup, ZW.s_star, ZW.s_ret, ZW.kRF_fr, ZW.kRF_bw, ZW.s_retF, ZW.s_retN, ZW.s_iff, ZW.s_app, ZW.s_setO, ZW.kRef_ref, ZW.s_setR, ZW.s_frz, ZW.s_brk, ZW.s_cont, ZW.s_pass, ZW.bt_nm, ZW.bt_tp, ZW.bt_lp, ZW.bts_nil, ZW.bts_cons, ZW.kSeq_tup, ZW.kSeq_lst, ZW.kSeq_scr, ZW.kSeq_str, ZW.it_seq, ZW.it_rng, ZW.it_rng2, ZW.kZip_lst, ZW.kZip_tup, ZW.it_zip, ZW.kLst_lst, ZW.it_enum, ZW.tw_post, ZW.tx_post, ZW.s_for, ZW.e_comp, ZW.kT_nx, ZW.kT_cont, ZW.kT_brk, ZW.kT_ret, Z.setAll, List.set_cons_zero, List.set_cons_succ, if_true, if_false, Bool.false_eq_true, Option.bind_some, Option.map_some, Z.wipe, List.length_cons, List.length_nil, Bool.not_true, Bool.not_false, b_add, b_addL, List.cons_append, List.nil_append]
  refine at_ok n1 b1 (.not cb) _ _ (by show cb.dp + 1 ≤ 40; omega) ?_
  simp +decide only [decide_true, decide_false, true_and, and_true, ZW.kO_some, ZW.kO_none, ZW.kO_map, ZW.kO_bind, ZW.kO_if, ZW.kS_nx, ZW.kS_ret, ZW.kS_brk, ZW.kS_cont, ZW.kB_bl, ZW.kI_int, ZW.kF_fr, ZW.kStr_str, ZW.kVar_val, ZW.kOwn_own, ZW.kRet_ret, ZW.kRet_nx, ZW.dg_v, ZW.dg_fr, ZW.wdg_v, ZW.wdg_fr, ZW.wdg_bw, ZW.get_0, ZW.get_s, ZW.e_var, ZW.e_own, ZW.e_int, ZW.e_bl, ZW.e_non, ZW.e_str, ZW.e_glo, ZW.e_tup, ZW.e_lst, ZW.e_bin, ZW.e_cmp, ZW.e_neg, ZW.e_not, ZW.e_and, ZW.e_or, ZW.e_ifE, ZW.e_idx, ZW.e_sl, ZW.e_call, ZW.e_bi, ZW.e_sset, ZW.e_isi, ZW.e_mth, ZW.op_no, ZW.op_yes, ZW.es_nil, ZW.es_cons, ZW.ws_nil, ZW.ws_cons, ZW.an_one, ZW.an_cons, ZW.or_one, ZW.or_cons, ZW.t_e, ZW.t_cmp', ZW.t_not', ZW.t_and', ZW.t_or', ZW.ts_nil, ZW.ts_cons, ZW.to_nil, ZW.to_cons, ZW.ss_nil, ZW.ss_cons, ZW.s_ex, ZW.s_asg, ZW.s_asgO, ZW.s_asgC, ZW.s_par, ZW.par_nil, ZW.par_t, ZW.par_f, ZW.kTup_tup, ZW.s_star, ZW.s_ret, ZW.kRF_fr, ZW.kRF_bw, ZW.s_retF, ZW.s_retN, ZW.s_iff, ZW.s_app, ZW.s_setO, ZW.kRef_ref, ZW.s_setR, ZW.s_frz, ZW.s_brk, ZW.s_cont, ZW.s_pass, ZW.bt_nm, ZW.bt_tp, ZW.bt_lp, ZW.bts_nil, ZW.bts_cons, ZW.kSeq_tup, ZW.kSeq_lst, ZW.kSeq_scr, ZW.kSeq_str, ZW.it_seq, ZW.it_rng, ZW.it_rng2, ZW.kZip_lst, ZW.kZip_tup, ZW.it_zip, ZW.kLst_lst, ZW.it_enum, ZW.tw_post, ZW.tx_post, ZW.s_for, ZW.e_comp, ZW.kT_nx, ZW.kT_cont, ZW.kT_brk, ZW.kT_ret, Z.setAll, List.set_cons_zero, List.set_cons_succ, if_true, if_false, Bool.false_eq_true, Option.bind_some, Option.map_some, Z.wipe, List.length_cons, List.length_nil, Bool.not_true, Bool.not_false, b_add, b_addL, List.cons_append, List.nil_append]
  refine same_lst [true, false, !(cb.ev N B)] (by show 3 ≤ 64; decide) ?_
  simp +decide only [decide_true, decide_false, true_and, and_true, ZW.kO_some, ZW.kO_none, ZW.kO_map, ZW.kO_bind, ZW.kO_if, ZW.kS_nx, ZW.kS_ret, ZW.kS_brk, ZW.kS_cont, ZW.kB_bl, ZW.kI_int, ZW.kF_fr, ZW.kStr_str, ZW.kVar_val, ZW.kOwn_own, ZW.kRet_ret, ZW.kRet_nx, ZW.dg_v, ZW.dg_fr, ZW.wdg_v, ZW.wdg_fr, ZW.wdg_bw, ZW.get_0, ZW.get_s, ZW.e_var, ZW.e_own, ZW.e_int, ZW.e_bl, ZW.e_non, ZW.e_str, ZW.e_glo, ZW.e_tup, ZW.e_lst, ZW.e_bin, ZW.e_cmp, ZW.e_neg, ZW.e_not, ZW.e_and, ZW.e_or, ZW.e_ifE, ZW.e_idx, ZW.e_sl, ZW.e_call, ZW.e_bi, ZW.e_sset, ZW.e_isi, ZW.e_mth, ZW.op_no, ZW.op_yes, ZW.es_nil, ZW.es_cons, ZW.ws_nil, ZW.ws_cons, ZW.an_one, ZW.an_cons, ZW.or_one, ZW.or_cons, ZW.t_e, ZW.t_cmp', ZW.t_not', ZW.t_and', ZW.t_or', ZW.ts_nil, ZW.ts_cons, ZW.to_nil, ZW.to_cons, ZW.ss_nil, ZW.ss_cons, ZW.s_ex, ZW.s_asg, ZW.s_asgO, ZW.s_asgC, ZW.s_par, ZW.par_nil, ZW.par_t, ZW.par_f, ZW.kTup_tup, ZW.s_star, ZW.s_ret, ZW.kRF_fr, ZW.kRF_bw, ZW.s_retF, ZW.s_retN, ZW.s_iff, ZW.s_app, ZW.s_setO, ZW.kRef_ref, ZW.s_setR, ZW.s_frz, ZW.s_brk, ZW.s_cont, ZW.s_pass, ZW.bt_nm, ZW.bt_tp, ZW.bt_lp, ZW.bts_nil, ZW.bts_cons, ZW.kSeq_tup, ZW.kSeq_lst, ZW.kSeq_scr, ZW.kSeq_str, ZW.it_seq, ZW.it_rng, ZW.it_rng2, ZW.kZip_lst, ZW.kZip_tup, ZW.it_zip, ZW.kLst_lst, ZW.it_enum, ZW.tw_post, ZW.tx_post, ZW.s_for, ZW.e_comp, ZW.kT_nx, ZW.kT_cont, ZW.kT_brk, ZW.kT_ret, Z.setAll, List.set_cons_zero, List.set_cons_succ, if_true, if_false, Bool.false_eq_true, Option.bind_some, Option.map_some, Z.wipe, List.length_cons, List.length_nil, Bool.not_true, Bool.not_false, b_add, b_addL, List.cons_append, List.nil_append]
  refine take_ok i2 (f := f + 84) (k := 5) (by decide) (by decide) b6 fun j3 h7 j30 j31 b7 => ?_
  simp +decide only [decide_true, decide_false, true_and, and_true, ZW.kO_some, ZW.kO_none, ZW.kO_map, ZW.kO_bind, ZW.kO_if, ZW.kS_nx, ZW.kS_ret, ZW.kS_brk, ZW.kS_cont, ZW.kB_bl, ZW.kI_int, ZW.kF_fr, ZW.kStr_str, ZW.kVar_val, ZW.kOwn_own, ZW.kRet_ret, ZW.kRet_nx, ZW.dg_v, ZW.dg_fr, ZW.wdg_v, ZW.wdg_fr, ZW.wdg_bw, ZW.get_0, ZW.get_s, ZW.e_var, ZW.e_own, ZW.e_int, ZW.e_bl, ZW.e_non, ZW.e_str, ZW.e_glo, ZW.e_tup, ZW.e_lst, ZW.e_bin, ZW.e_cmp, ZW.e_neg, ZW.e_not, ZW.e_and, ZW.e_or, ZW.e_ifE, ZW.e_idx, ZW.e_sl, ZW.e_call, ZW.e_bi, ZW.e_sset, ZW.e_isi, ZW.e_mth, ZW.op_no, ZW.op_yes, ZW.es_nil, ZW.es_cons, ZW.ws_nil, ZW.ws_cons, ZW.an_one, ZW.an_cons, ZW.or_one, ZW.or_cons, ZW.t_e, ZW.t_cmp', ZW.t_not', ZW.t_and', ZW.t_or', ZW.ts_nil, ZW.ts_cons, ZW.to_nil, ZW.to_cons, ZW.ss_nil, ZW.ss_cons, ZW.s_ex, ZW.s_asg, ZW.s_asgO, ZW.s_asgC, ZW.s_par, ZW.par_nil, ZW.par_t, ZW.par_f, ZW.kTup_tup, ZW.s_star, ZW.s_ret, ZW.kRF_fr, ZW.kRF_bw, ZW.s_retF, ZW.s_retN, ZW.s_iff, ZW.s_app, ZW.s_setO, ZW.kRef_ref, ZW.s_setR, ZW.s_frz, ZW.s_brk, ZW.s_cont, ZW.s_pass, ZW.bt_nm, ZW.bt_tp, ZW.bt_lp, ZW.bts_nil, ZW.bts_cons, ZW.kSeq_tup, ZW.kSeq_lst, ZW.kSeq_scr, ZW.kSeq_str, ZW.it_seq, ZW.it_rng, ZW.it_rng2, ZW.kZip_lst, ZW.kZip_tup, ZW.it_zip, ZW.kLst_lst, ZW.it_enum, ZW.tw_post, ZW.tx_post, ZW.s_for, ZW.e_comp, ZW.kT_nx, ZW.kT_cont, ZW.kT_brk, ZW.kT_ret, Z.setAll, List.set_cons_zero, List.set_cons_succ, if_true, if_false, Bool.false_eq_true, Option.bind_some, Option.map_some, Z.wipe, List.length_cons, List.length_nil, Bool.not_true, Bool.not_false, b_add, b_addL, List.cons_append, List.nil_append]
  refine deep_ok x0 x1 4 40 (f + 7) (1 + j3) _ _ (by omega) (by omega) (by decide) (by decide) b7 fun cc h8 dc b8 => ?_
  simp +decide only [decide_true, decide_false, true_and, and_true, ZW.kO_some, ZW.kO_none, ZW.kO_map, ZW.kO_bind, ZW.kO_if, ZW.kS_nx, ZW.kS_ret, ZW.kS_brk, ZW.kS_cont, ZW.kB_bl, ZW.kI_int, ZW.kF_fr, ZW.kStr_str, ZW.kVar_val, ZW.kOwn_own, ZW.kRet_ret, ZW.kRet_nx, ZW.dg_v, ZW.dg_fr, ZW.wdg_v, ZW.wdg_fr, ZW.wdg_bw, ZW.get_0, ZW.get_s, ZW.e_var, ZW.e_own, ZW.e_int, ZW.e_bl, ZW.e_non, ZW.e_str, ZW.e_glo, ZW.e_tup, ZW.e_lst, ZW.e_bin, ZW.e_cmp, ZW.e_neg, ZW.e_not, ZW.e_and, ZW.e_or, ZW.e_ifE, ZW.e_idx, ZW.e_sl, ZW.e_call, ZW.e_bi, ZW.e_sset, ZW.e_isi, ZW.e_mth, ZW.op_no, ZW.op_yes, ZW.es_nil, ZW.es_cons, ZW.ws_nil, ZW.ws_cons, ZW.an_one, ZW.an_cons, ZW.or_one, ZW.or_cons, ZW.t_e, ZW.t_cmp', ZW.t_not', ZW.t_and', ZW.t_or', ZW.ts_nil, ZW.ts_cons, ZW.to_nil, ZW.to_cons, ZW.ss_nil, ZW.ss_cons, ZW.s_ex, ZW.s_asg, ZW.s_asgO, ZW.s_asgC, ZW.s_par, ZW.par_nil, ZW.par_t, ZW.par_f, ZW.kTup_tup, ZW.s_star, ZW.s_ret, ZW.kRF_fr, ZW.kRF_bw, ZW.s_retF, ZW.s_retN, ZW.s_iff, ZW.s_app, ZW.s_setO, ZW.kRef_ref, ZW.s_setR, ZW.s_frz, ZW.s_brk, ZW.s_cont, ZW.s_pass, ZW.bt_nm, ZW.bt_tp, ZW.bt_lp, ZW.bts_nil, ZW.bts_cons, ZW.kSeq_tup, ZW.kSeq_lst, ZW.kSeq_scr, ZW.kSeq_str, ZW.it_seq, ZW.it_rng, ZW.it_rng2, ZW.kZip_lst, ZW.kZip_tup, ZW.it_zip, ZW.kLst_lst, ZW.it_enum, ZW.tw_post, ZW.tx_post, ZW.s_for, ZW.e_comp, ZW.kT_nx, ZW.kT_cont, ZW.kT_brk, ZW.kT_ret, Z.setAll, List.set_cons_zero, List.set_cons_succ, if_true, if_false, Bool.false_eq_true, Option.bind_some, Option.map_some, Z.wipe, List.length_cons, List.length_nil, Bool.not_true, Bool.not_false, b_add, b_addL, List.cons_append, List.nil_append]
  refine at_ok n1 b1 cc _ _ (by omega) ?_
  simp +decide only [decide_true, decide_false, true_and, and_true, ZW.kO_some, ZW.kO_none, ZW.kO_map, ZW.kO_bind, ZW.kO_if, ZW.kS_nx, ZW.kS_ret, ZW.kS_brk, ZW.kS_cont, ZW.kB_bl, ZW.kI_int, ZW.kF_fr, ZW.kStr_str, ZW.kVar_val, ZW.kOwn_own, ZW.kRet_ret, ZW.kRet_nx, ZW.dg_v, ZW.dg_fr, ZW.wdg_v, ZW.wdg_fr, ZW.wdg_bw, ZW.get_0, ZW.get_s, ZW.e_var, ZW.e_own, ZW.e_int, ZW.e_bl, ZW.e_non, ZW.e_str, ZW.e_glo, ZW.e_tup, ZW.e_lst, ZW.e_bin, ZW.e_cmp, ZW.e_neg, ZW.e_not, ZW.e_and, ZW.e_or, ZW.e_ifE, ZW.e_idx, ZW.e_sl, ZW.e_call, ZW.e_bi, ZW.e_sset, ZW.e_isi, ZW.e_mth, ZW.op_no, ZW.op_yes, ZW.es_nil, ZW.es_cons, ZW.ws_nil, ZW.ws_cons, ZW.an_one, ZW.an_cons, ZW.or_one, ZW.or_cons, ZW.t_e, ZW.t_cmp', ZW.t_not', ZW.t_and', ZW.t_or', ZW.ts_nil, ZW.ts_cons, ZW.to_nil, ZW.to_cons, ZW.ss_nil, ZW.ss_cons, ZW.s_ex, ZW.s_asg, ZW.s_asgO, ZW.s_asgC, ZW.s_par, ZW.par_nil, ZW.par_t, ZW.par_f, ZW.kTup_tup, ZW.s_star, ZW.s_ret, ZW.kRF_fr, ZW.kRF_bw, ZW.s_retF, ZW.s_retN, ZW.s_iff, ZW.s_app, ZW.s_setO, ZW.kRef_ref, ZW.s_setR, ZW.s_frz, ZW.s_brk, ZW.s_cont, ZW.s_pass, ZW.bt_nm, ZW.bt_tp, ZW.bt_lp, ZW.bts_nil, ZW.bts_cons, ZW.kSeq_tup, ZW.kSeq_lst, ZW.kSeq_scr, ZW.kSeq_str, ZW.it_seq, ZW.it_rng, ZW.it_rng2, ZW.kZip_lst, ZW.kZip_tup, ZW.it_zip, ZW.kLst_lst, ZW.it_enum, ZW.tw_post, ZW.tx_post, ZW.s_for, ZW.e_comp, ZW.kT_nx, ZW.kT_cont, ZW.kT_brk, ZW.kT_ret, Z.setAll, List.set_cons_zero, List.set_cons_succ, if_true, if_false, Bool.false_eq_true, Option.bind_some, Option.map_some, Z.wipe, List.length_cons, List.length_nil, Bool.not_true, Bool.not_false, b_add, b_addL, List.cons_append, List.nil_append]
  refine at_ok n1 b1 (.and cb cc) _ _ (by show max cb.dp cc.dp + 1 ≤ 40; omega) ?_
  simp +decide only [decide_true, decide_false, true_and, and_true, ZW.kO_some, ZW.kO_none, ZW.kO_map, ZW.kO_bind, ZW.kO_if, ZW.kS_nx, ZW.kS_ret, ZW.kS_brk, ZW.kS_cont, ZW.kB_bl, ZW.kI_int, ZW.kF_fr, ZW.kStr_str, ZW.kVar_val, ZW.kOwn_own, ZW.kRet_ret, ZW.kRet_nx, ZW.dg_v, ZW.dg_fr, ZW.wdg_v, ZW.wdg_fr, ZW.wdg_bw, ZW.get_0, ZW.get_s, ZW.e_var, ZW.e_own, ZW.e_int, ZW.e_bl, ZW.e_non, ZW.e_str, ZW.e_glo, ZW.e_tup, ZW.e_lst, ZW.e_bin, ZW.e_cmp, ZW.e_neg, ZW.e_not, ZW.e_and, ZW.e_or, ZW.e_ifE, ZW.e_idx, ZW.e_sl, ZW.e_call, ZW.e_bi, ZW.e_sset, ZW.e_isi, ZW.e_mth, ZW.op_no, ZW.op_yes, ZW.es_nil, ZW.es_cons, ZW.ws_nil, ZW.ws_cons, ZW.an_one, ZW.an_cons, ZW.or_one, ZW.or_cons, ZW.t_e, ZW.t_cmp', ZW.t_not', ZW.t_and', ZW.t_or', ZW.ts_nil, ZW.ts_cons, ZW.to_nil, ZW.to_cons, ZW.ss_nil, ZW.ss_cons, ZW.s_ex, ZW.s_asg, ZW.s_asgO, ZW.s_asgC, ZW.s_par, ZW.par_nil, ZW.par_t, ZW.par_f, ZW.kTup_tup, ZW.s_star, ZW.s_ret, ZW.kRF_fr, ZW.kRF_bw, ZW.s_retF, ZW.s_retN, ZW.s_iff, ZW.s_app, ZW.s_setO, ZW.kRef_ref, ZW.s_setR, ZW.s_frz, ZW.s_brk, ZW.s_cont, ZW.s_pass, ZW.bt_nm, ZW.bt_tp, ZW.bt_lp, ZW.bts_nil, ZW.bts_cons, ZW.kSeq_tup, ZW.kSeq_lst, ZW.kSeq_scr, ZW.kSeq_str, ZW.it_seq, ZW.it_rng, ZW.it_rng2, ZW.kZip_lst, ZW.kZip_tup, ZW.it_zip, ZW.kLst_lst, ZW.it_enum, ZW.tw_post, ZW.tx_post, ZW.s_for, ZW.e_comp, ZW.kT_nx, ZW.kT_cont, ZW.kT_brk, ZW.kT_ret, Z.setAll, List.set_cons_zero, List.set_cons_succ, if_true, if_false, Bool.false_eq_true, Option.bind_some, Option.map_some, Z.wipe, List.length_cons, List.length_nil, Bool.not_true, Bool.not_false, b_add, b_addL, List.cons_append, List.nil_append]
  refine at_ok n1 b1 (.or cb cc) _ _ (by show max cb.dp cc.dp + 1 ≤ 40; omega) ?_
  simp +decide only [decide_true, decide_false, true_and, and_true, ZW.kO_some, ZW.kO_none, ZW.kO_map, ZW.kO_bind, ZW.kO_if, ZW.kS_nx, ZW.kS_ret, ZW.kS_brk, ZW.kS_cont, ZW.kB_bl, ZW.kI_int, ZW.kF_fr, ZW.kStr_str, ZW.kVar_val, ZW.kOwn_own, ZW.kRet_ret, ZW.kRet_nx, ZW.dg_v, ZW.dg_fr, ZW.wdg_v, ZW.wdg_fr, ZW.wdg_bw, ZW.get_0, ZW.get_s, ZW.e_var, ZW.e_own, ZW.e_int, ZW.e_bl, ZW.e_non, ZW.e_str, ZW.e_glo, ZW.e_tup, ZW.e_lst, ZW.e_bin, ZW.e_cmp, ZW.e_neg, ZW.e_not, ZW.e_and, ZW.e_or, ZW.e_ifE, ZW.e_idx, ZW.e_sl, ZW.e_call, ZW.e_bi, ZW.e_sset, ZW.e_isi, ZW.e_mth, ZW.op_no, ZW.op_yes, ZW.es_nil, ZW.es_cons, ZW.ws_nil, ZW.ws_cons, ZW.an_one, ZW.an_cons, ZW.or_one, ZW.or_cons, ZW.t_e, ZW.t_cmp', ZW.t_not', ZW.t_and', ZW.t_or', ZW.ts_nil, ZW.ts_cons, ZW.to_nil, ZW.to_cons, ZW.ss_nil, ZW.ss_cons, ZW.s_ex, ZW.s_asg, ZW.s_asgO, ZW.s_asgC, ZW.s_par, ZW.par_nil, ZW.par_t, ZW.par_f, ZW.kTup_tup, ZW.s_star, ZW.s_ret, ZW.kRF_fr, ZW.kRF_bw, ZW.s_retF, ZW.s_retN, ZW.s_iff, ZW.s_app, ZW.s_setO, ZW.kRef_ref, ZW.s_setR, ZW.s_frz, ZW.s_brk, ZW.s_cont, ZW.s_pass, ZW.bt_nm, ZW.bt_tp, ZW.bt_lp, ZW.bts_nil, ZW.bts_cons, ZW.kSeq_tup, ZW.kSeq_lst, ZW.kSeq_scr, ZW.kSeq_str, ZW.it_seq, ZW.it_rng, ZW.it_rng2, ZW.kZip_lst, ZW.kZip_tup, ZW.it_zip, ZW.kLst_lst, ZW.it_enum, ZW.tw_post, ZW.tx_post, ZW.s_for, ZW.e_comp, ZW.kT_nx, ZW.kT_cont, ZW.kT_brk, ZW.kT_ret, Z.setAll, List.set_cons_zero, List.set_cons_succ, if_true, if_false, Bool.false_eq_true, Option.bind_some, Option.map_some, Z.wipe, List.length_cons, List.length_nil, Bool.not_true, Bool.not_false, b_add, b_addL, List.cons_append, List.nil_append]
  have e1 : C.ev N B (.and cb cc) = (C.ev N B cb && C.ev N B cc) := rfl
  have e2 : C.ev N B (.or cb cc) = (C.ev N B cb || C.ev N B cc) := rfl
  rw [e1, e2]
  cases C.ev N B cb with
  | true =>
    simp +decide only [decide_true, decide_false, true_and, and_true, ZW.kO_some, ZW.kO_none, ZW.kO_map, ZW.kO_bind, ZW.kO_if, ZW.kS_nx, ZW.kS_ret, ZW.kS_brk, ZW.kS_cont, ZW.kB_bl, ZW.kI_int, ZW.kF_fr, ZW.kStr_str, ZW.kVar_val, ZW.kOwn_own, ZW.kRet_ret, ZW.kRet_nx, ZW.dg_v, ZW.dg_fr, ZW.wdg_v, ZW.wdg_fr, ZW.wdg_bw, ZW.get_0, ZW.get_s, ZW.e_var, ZW.e_own, ZW.e_int, ZW.e_bl, ZW.e_non, ZW.e_str, ZW.e_glo, ZW.e_tup, ZW.e_lst, ZW.e_bin, ZW.e_cmp, ZW.e_neg, ZW.e_not, ZW.e_and, ZW.e_or, ZW.e_ifE, ZW.e_idx, ZW.e_sl, ZW.e_call, ZW.e_bi, ZW.e_sset, ZW.e_isi, ZW.e_mth, ZW.op_no, ZW.op_yes, ZW.es_nil, ZW.es_cons, ZW.ws_nil, ZW.ws_cons, ZW.an_one, ZW.an_cons, ZW.or_one, ZW.or_cons, ZW.t_e, ZW.t_cmp', ZW.t_not', ZW.t_and', ZW.t_or', ZW.ts_nil, ZW.ts_cons, ZW.to_nil, ZW.to_cons, ZW.ss_nil, ZW.ss_cons, ZW.s_ex, ZW.s_asg, ZW.s_asgO, ZW.s_asgC, ZW.s_par, ZW.par_nil, ZW.par_t, ZW.par_f, ZW.kTup_tup, ZW.s_star, ZW.s_ret, ZW.kRF_fr, ZW.kRF_bw, ZW.s_retF, ZW.s_retN, ZW.s_iff, ZW.s_app, ZW.s_setO, ZW.kRef_ref, ZW.s_setR, ZW.s_frz, ZW.s_brk, ZW.s_cont, ZW.s_pass, ZW.bt_nm, ZW.bt_tp, ZW.bt_lp, ZW.bts_nil, ZW.bts_cons, ZW.kSeq_tup, ZW.kSeq_lst, ZW.kSeq_scr, ZW.kSeq_str, ZW.it_seq, ZW.it_rng, ZW.it_rng2, ZW.kZip_lst, ZW.kZip_tup, ZW.it_zip, ZW.kLst_lst, ZW.it_enum, ZW.tw_post, ZW.tx_post, ZW.s_for, ZW.e_comp, ZW.kT_nx, ZW.kT_cont, ZW.kT_brk, ZW.kT_ret, Z.setAll, List.set_cons_zero, List.set_cons_succ, if_true, if_false, Bool.false_eq_true, Option.bind_some, Option.map_some, Z.wipe, List.length_cons, List.length_nil, Bool.not_true, Bool.not_false, b_add, b_addL, List.cons_append, List.nil_append, Bool.true_and, Bool.true_or]
    refine same_lst [C.ev N B cc, true] (by show 2 ≤ 64; decide) ?_
    simp +decide only [decide_true, decide_false, true_and, and_true, ZW.kO_some, ZW.kO_none, ZW.kO_map, ZW.kO_bind, ZW.kO_if, ZW.kS_nx, ZW.kS_ret, ZW.kS_brk, ZW.kS_cont, ZW.kB_bl, ZW.kI_int, ZW.kF_fr, ZW.kStr_str, ZW.kVar_val, ZW.kOwn_own, ZW.kRet_ret, ZW.kRet_nx, ZW.dg_v, ZW.dg_fr, ZW.wdg_v, ZW.wdg_fr, ZW.wdg_bw, ZW.get_0, ZW.get_s, ZW.e_var, ZW.e_own, ZW.e_int, ZW.e_bl, ZW.e_non, ZW.e_str, ZW.e_glo, ZW.e_tup, ZW.e_lst, ZW.e_bin, ZW.e_cmp, ZW.e_neg, ZW.e_not, ZW.e_and, ZW.e_or, ZW.e_ifE, ZW.e_idx, ZW.e_sl, ZW.e_call, ZW.e_bi, ZW.e_sset, ZW.e_isi, ZW.e_mth, ZW.op_no, ZW.op_yes, ZW.es_nil, ZW.es_cons, ZW.ws_nil, ZW.ws_cons, ZW.an_one, ZW.an_cons, ZW.or_one, ZW.or_cons, ZW.t_e, ZW.t_cmp', ZW.t_not', ZW.t_and', ZW.t_or', ZW.ts_nil, ZW.ts_cons, ZW.to_nil, ZW.to_cons, ZW.ss_nil, ZW.ss_cons, ZW.s_ex, ZW.s_asg, ZW.s_asgO, ZW.s_asgC, ZW.s_par, ZW.par_nil, ZW.par_t, ZW.par_f, ZW.kTup_tup, ZW.s_star, ZW.s_ret, ZW.kRF_fr, ZW.kRF_bw, ZW.s_retF, ZW.s_retN, ZW.s_iff, ZW.s_app, ZW.s_setO, ZW.kRef_ref, ZW.s_setR, ZW.s_frz, ZW.s_brk, ZW.s_cont, ZW.s_pass, ZW.bt_nm, ZW.bt_tp, ZW.bt_lp, ZW.bts_nil, ZW.bts_cons, ZW.kSeq_tup, ZW.kSeq_lst, ZW.kSeq_scr, ZW.kSeq_str, ZW.it_seq, ZW.it_rng, ZW.it_rng2, ZW.kZip_lst, ZW.kZip_tup, ZW.it_zip, ZW.kLst_lst, ZW.it_enum, ZW.tw_post, ZW.tx_post, ZW.s_for, ZW.e_comp, ZW.kT_nx, ZW.kT_cont, ZW.kT_brk, ZW.kT_ret, Z.setAll, List.set_cons_zero, List.set_cons_succ, if_true, if_false, Bool.false_eq_true, Option.bind_some, Option.map_some, Z.wipe, List.length_cons, List.length_nil, Bool.not_true, Bool.not_false, b_add, b_addL, List.cons_append, List.nil_append]
    exact q _ _ _ _ _ _ _ _ _ _ _ _ (b8.less (by omega))
  | false =>
    simp +decide only [decide_true, decide_false, true_and, and_true, ZW.kO_some, ZW.kO_none, ZW.kO_map, ZW.kO_bind, ZW.kO_if, ZW.kS_nx, ZW.kS_ret, ZW.kS_brk, ZW.kS_cont, ZW.kB_bl, ZW.kI_int, ZW.kF_fr, ZW.kStr_str, ZW.kVar_val, ZW.kOwn_own, ZW.kRet_ret, ZW.kRet_nx, ZW.dg_v, ZW.dg_fr, ZW.wdg_v, ZW.wdg_fr, ZW.wdg_bw, ZW.get_0, ZW.get_s, ZW.e_var, ZW.e_own, ZW.e_int, ZW.e_bl, ZW.e_non, ZW.e_str, ZW.e_glo, ZW.e_tup, ZW.e_lst, ZW.e_bin, ZW.e_cmp, ZW.e_neg, ZW.e_not, ZW.e_and, ZW.e_or, ZW.e_ifE, ZW.e_idx, ZW.e_sl, ZW.e_call, ZW.e_bi, ZW.e_sset, ZW.e_isi, ZW.e_mth, ZW.op_no, ZW.op_yes, ZW.es_nil, ZW.es_cons, ZW.ws_nil, ZW.ws_cons, ZW.an_one, ZW.an_cons, ZW.or_one, ZW.or_cons, ZW.t_e, ZW.t_cmp', ZW.t_not', ZW.t_and', ZW.t_or', ZW.ts_nil, ZW.ts_cons, ZW.to_nil, ZW.to_cons, ZW.ss_nil, ZW.ss_cons, ZW.s_ex, ZW.s_asg, ZW.s_asgO, ZW.s_asgC, ZW.s_par, ZW.par_nil, ZW.par_t, ZW.par_f, ZW.kTup_tup, ZW.s_star, ZW.s_ret, ZW.kRF_fr, ZW.kRF_bw, ZW.s_retF, ZW.s_retN, ZW.s_iff, ZW.s_app, ZW.s_setO, ZW.kRef_ref, ZW.s_setR, ZW.s_frz, ZW.s_brk, ZW.s_cont, ZW.s_pass, ZW.bt_nm, ZW.bt_tp, ZW.bt_lp, ZW.bts_nil, ZW.bts_cons, ZW.kSeq_tup, ZW.kSeq_lst, ZW.kSeq_scr, ZW.kSeq_str, ZW.it_seq, ZW.it_rng, ZW.it_rng2, ZW.kZip_lst, ZW.kZip_tup, ZW.it_zip, ZW.kLst_lst, ZW.it_enum, ZW.tw_post, ZW.tx_post, ZW.s_for, ZW.e_comp, ZW.kT_nx, ZW.kT_cont, ZW.kT_brk, ZW.kT_ret, Z.setAll, List.set_cons_zero, List.set_cons_succ, if_true, if_false, Bool.false_eq_true, Option.bind_some, Option.map_some, Z.wipe, List.length_cons, List.length_nil, Bool.not_true, Bool.not_false, b_add, b_addL, List.cons_append, List.nil_append, Bool.false_and, Bool.false_or]
    refine same_lst [false, C.ev N B cc] (by show 2 ≤ 64; decide) ?_
    simp +decide only [decide_true, decide_false, true_and, and_true, ZW.kO_some, ZW.kO_none, ZW.kO_map, ZW.kO_bind, ZW.kO_if, ZW.kS_nx, ZW.kS_ret, ZW.kS_brk, ZW.kS_cont, ZW.kB_bl, ZW.kI_int, ZW.kF_fr, ZW.kStr_str, ZW.kVar_val, ZW.kOwn_own, ZW.kRet_ret, ZW.kRet_nx, ZW.dg_v, ZW.dg_fr, ZW.wdg_v, ZW.wdg_fr, ZW.wdg_bw, ZW.get_0, ZW.get_s, ZW.e_var, ZW.e_own, ZW.e_int, ZW.e_bl, ZW.e_non, ZW.e_str, ZW.e_glo, ZW.e_tup, ZW.e_lst, ZW.e_bin, ZW.e_cmp, ZW.e_neg, ZW.e_not, ZW.e_and, ZW.e_or, ZW.e_ifE, ZW.e_idx, ZW.e_sl, ZW.e_call, ZW.e_bi, ZW.e_sset, ZW.e_isi, ZW.e_mth, ZW.op_no, ZW.op_yes, ZW.es_nil, ZW.es_cons, ZW.ws_nil, ZW.ws_cons, ZW.an_one, ZW.an_cons, ZW.or_one, ZW.or_cons, ZW.t_e, ZW.t_cmp', ZW.t_not', ZW.t_and', ZW.t_or', ZW.ts_nil, ZW.ts_cons, ZW.to_nil, ZW.to_cons, ZW.ss_nil, ZW.ss_cons, ZW.s_ex, ZW.s_asg, ZW.s_asgO, ZW.s_asgC, ZW.s_par, ZW.par_nil, ZW.par_t, ZW.par_f, ZW.kTup_tup, ZW.s_star, ZW.s_ret, ZW.kRF_fr, ZW.kRF_bw, ZW.s_retF, ZW.s_retN, ZW.s_iff, ZW.s_app, ZW.s_setO, ZW.kRef_ref, ZW.s_setR, ZW.s_frz, ZW.s_brk, ZW.s_cont, ZW.s_pass, ZW.bt_nm, ZW.bt_tp, ZW.bt_lp, ZW.bts_nil, ZW.bts_cons, ZW.kSeq_tup, ZW.kSeq_lst, ZW.kSeq_scr, ZW.kSeq_str, ZW.it_seq, ZW.it_rng, ZW.it_rng2, ZW.kZip_lst, ZW.kZip_tup, ZW.it_zip, ZW.kLst_lst, ZW.it_enum, ZW.tw_post, ZW.tx_post, ZW.s_for, ZW.e_comp, ZW.kT_nx, ZW.kT_cont, ZW.kT_brk, ZW.kT_ret, Z.setAll, List.set_cons_zero, List.set_cons_succ, if_true, if_false, Bool.false_eq_true, Option.bind_some, Option.map_some, Z.wipe, List.length_cons, List.length_nil, Bool.not_true, Bool.not_false, b_add, b_addL, List.cons_append, List.nil_append]
    exact q _ _ _ _ _ _ _ _ _ _ _ _ (b8.less (by omega))
end
end K03
end

section
namespace K03
open Z ZW
section
variable {wf n : Nat} {h : LH} {Q : Rv → LH → Prop} {xs : List (List Nat)} {r : Nat}
theorem sl2 {h : LH} (hx : xs.length = 4) : ∃ ys : List (List Nat), ys.length = 2 ∧ slD h (.lst (xs.map .str)) none (some 2) = some (.fr (ys.map .str)) := by
  match xs, hx with
  | [a, b, c, d], _ => exact ⟨[a, b], rfl, rfl⟩
theorem law_ok (ns : List Int) (hn : ns.length ≤ 63) (q : ∀ h, Q (.v (.bl true)) h) : (run fs G wf 41 13 [.scr ns] h).post Q XF := by
  rw [w_run (fn := f13) rfl rfl]
  rw [show startE f13 [.scr ns] = [.val (.scr ns), .emp, .emp, .emp, .emp, .emp, .emp, .emp, .emp, .emp, .emp, .emp, .emp, .emp, .emp] from rfl]
  simp +decide only [f13, m_lenS, m_min, m_max, decide_true, decide_false, true_and, and_true, ZW.kO_some, ZW.kO_none, ZW.kO_map, ZW.kO_bind, ZW.kO_if, ZW.kS_nx, ZW.kS_ret, ZW.kS_brk, ZW.kS_cont, ZW.kB_bl, ZW.kI_int, ZW.kF_fr, ZW.kStr_str, ZW.kVar_val, ZW.kOwn_own, ZW.kRet_ret, ZW.kRet_nx, ZW.dg_v, ZW.dg_fr, ZW.wdg_v, ZW.wdg_fr, ZW.wdg_bw, ZW.get_0, ZW.get_s, ZW.e_var, ZW.e_own, ZW.e_int, ZW.e_bl, ZW.e_non, ZW.e_str, ZW.e_glo, ZW.e_tup, ZW.e_lst, ZW.e_bin, ZW.e_cmp, ZW.e_neg, ZW.e_not, ZW.e_and, ZW.e_or, ZW.e_ifE, ZW.e_idx, ZW.e_sl, ZW.e_call, ZW.e_bi, ZW.e_sset, ZW.e_isi, ZW.e_mth, ZW.op_no, ZW.op_yes, ZW.es_nil, ZW.es_cons, ZW.ws_nil, ZW.ws_cons, ZW.an_one, ZW.an_cons, ZW.or_one, ZW.or_cons, ZW.t_e, ZW.t_cmp', ZW.t_not', ZW.t_and', ZW.t_or', ZW.ts_nil, ZW.ts_cons, ZW.to_nil, ZW.to_cons, ZW.ss_nil, ZW.ss_cons, ZW.s_ex, ZW.s_asg, ZW.s_asgO, ZW.s_asgC, ZW.s_par, ZW.par_nil, ZW.par_t, ZW.par_f, ZW.kTup_tup, ZW.s_star, ZW.s_ret, ZW.kRF_fr, ZW.kRF_bw, ZW.s_retF, ZW.s_retN, ZW.s_iff, ZW.s_app, ZW.s_setO, ZW.kRef_ref, ZW.s_setR, ZW.s_frz, ZW.s_brk, ZW.s_cont, ZW.s_pass, ZW.bt_nm, ZW.bt_tp, ZW.bt_lp, ZW.bts_nil, ZW.bts_cons, ZW.kSeq_tup, ZW.kSeq_lst, ZW.kSeq_scr, ZW.kSeq_str, ZW.it_seq, ZW.it_rng, ZW.it_rng2, ZW.kZip_lst, ZW.kZip_tup, ZW.it_zip, ZW.kLst_lst, ZW.it_enum, ZW.tw_post, ZW.tx_post, ZW.s_for, ZW.e_comp, ZW.kT_nx, ZW.kT_cont, ZW.kT_brk, ZW.kT_ret, Z.setAll, List.set_cons_zero, List.set_cons_succ, if_true, if_false, Bool.false_eq_true, Option.bind_some, Option.map_some, Z.wipe, List.length_cons, List.length_nil, Bool.not_true, Bool.not_false, b_add, b_addL, List.cons_append, List.nil_append]
  obtain ⟨J, ej, hj1, hj2⟩ : ∃ J : Int, J = (if (if (ns.length : Int) < 4 then (ns.length : Int) else 4) > 1 then (if (ns.length : Int) < 4 then (ns.length : Int) else 4) else 1) ∧ 1 ≤ J ∧ J ≤ 4 := ⟨_, rfl, by split <;> split <;> omega, by split <;> split <;> omega⟩
  rw [← ej]
  refine ⟨by unfold small62; rw [decide_eq_true_eq]; omega, ?_⟩
  refine w_for _ (fun i ρ h => ∃ s1 s2 s3 s4 s5 s6 s7 s8 s9 s10 s11 s12 s13 s14, ρ = [.val (.scr ns), s1, s2, s3, s4, s5, s6, s7, s8, s9, s10, s11, s12, s13, s14]) ?_ ?_ ?_
  · exact ⟨_, _, _, _, _, _, _, _, _, _, _, _, _, _, rfl⟩
  · rintro i d ρ h ed ⟨s1, s2, s3, s4, s5, s6, s7, s8, s9, s10, s11, s12, s13, s14, rfl⟩
    obtain ⟨rfl, hi⟩ := rng_at _ _ _ _ ed
    have hi4 : i < 4 := by omega
    have e9 : (0 : Int) + (i : Nat) = (i : Nat) := by omega
    rw [e9]
    simp +decide only [decide_true, decide_false, true_and, and_true, ZW.kO_some, ZW.kO_none, ZW.kO_map, ZW.kO_bind, ZW.kO_if, ZW.kS_nx, ZW.kS_ret, ZW.kS_brk, ZW.kS_cont, ZW.kB_bl, ZW.kI_int, ZW.kF_fr, ZW.kStr_str, ZW.kVar_val, ZW.kOwn_own, ZW.kRet_ret, ZW.kRet_nx, ZW.dg_v, ZW.dg_fr, ZW.wdg_v, ZW.wdg_fr, ZW.wdg_bw, ZW.get_0, ZW.get_s, ZW.e_var, ZW.e_own, ZW.e_int, ZW.e_bl, ZW.e_non, ZW.e_str, ZW.e_glo, ZW.e_tup, ZW.e_lst, ZW.e_bin, ZW.e_cmp, ZW.e_neg, ZW.e_not, ZW.e_and, ZW.e_or, ZW.e_ifE, ZW.e_idx, ZW.e_sl, ZW.e_call, ZW.e_bi, ZW.e_sset, ZW.e_isi, ZW.e_mth, ZW.op_no, ZW.op_yes, ZW.es_nil, ZW.es_cons, ZW.ws_nil, ZW.ws_cons, ZW.an_one, ZW.an_cons, ZW.or_one, ZW.or_cons, ZW.t_e, ZW.t_cmp', ZW.t_not', ZW.t_and', ZW.t_or', ZW.ts_nil, ZW.ts_cons, ZW.to_nil, ZW.to_cons, ZW.ss_nil, ZW.ss_cons, ZW.s_ex, ZW.s_asg, ZW.s_asgO, ZW.s_asgC, ZW.s_par, ZW.par_nil, ZW.par_t, ZW.par_f, ZW.kTup_tup, ZW.s_star, ZW.s_ret, ZW.kRF_fr, ZW.kRF_bw, ZW.s_retF, ZW.s_retN, ZW.s_iff, ZW.s_app, ZW.s_setO, ZW.kRef_ref, ZW.s_setR, ZW.s_frz, ZW.s_brk, ZW.s_cont, ZW.s_pass, ZW.bt_nm, ZW.bt_tp, ZW.bt_lp, ZW.bts_nil, ZW.bts_cons, ZW.kSeq_tup, ZW.kSeq_lst, ZW.kSeq_scr, ZW.kSeq_str, ZW.it_seq, ZW.it_rng, ZW.it_rng2, ZW.kZip_lst, ZW.kZip_tup, ZW.it_zip, ZW.kLst_lst, ZW.it_enum, ZW.tw_post, ZW.tx_post, ZW.s_for, ZW.e_comp, ZW.kT_nx, ZW.kT_cont, ZW.kT_brk, ZW.kT_ret, Z.setAll, List.set_cons_zero, List.set_cons_succ, if_true, if_false, Bool.false_eq_true, Option.bind_some, Option.map_some, Z.wipe, List.length_cons, List.length_nil, Bool.not_true, Bool.not_false, b_add, b_addL, List.cons_append, List.nil_append]
    refine box_ok i1 (by omega) fun a b ha hb hb2 => ?_
    simp +decide only [decide_true, decide_false, true_and, and_true, ZW.kO_some, ZW.kO_none, ZW.kO_map, ZW.kO_bind, ZW.kO_if, ZW.kS_nx, ZW.kS_ret, ZW.kS_brk, ZW.kS_cont, ZW.kB_bl, ZW.kI_int, ZW.kF_fr, ZW.kStr_str, ZW.kVar_val, ZW.kOwn_own, ZW.kRet_ret, ZW.kRet_nx, ZW.dg_v, ZW.dg_fr, ZW.wdg_v, ZW.wdg_fr, ZW.wdg_bw, ZW.get_0, ZW.get_s, ZW.e_var, ZW.e_own, ZW.e_int, ZW.e_bl, ZW.e_non, ZW.e_str, ZW.e_glo, ZW.e_tup, ZW.e_lst, ZW.e_bin, ZW.e_cmp, ZW.e_neg, ZW.e_not, ZW.e_and, ZW.e_or, ZW.e_ifE, ZW.e_idx, ZW.e_sl, ZW.e_call, ZW.e_bi, ZW.e_sset, ZW.e_isi, ZW.e_mth, ZW.op_no, ZW.op_yes, ZW.es_nil, ZW.es_cons, ZW.ws_nil, ZW.ws_cons, ZW.an_one, ZW.an_cons, ZW.or_one, ZW.or_cons, ZW.t_e, ZW.t_cmp', ZW.t_not', ZW.t_and', ZW.t_or', ZW.ts_nil, ZW.ts_cons, ZW.to_nil, ZW.to_cons, ZW.ss_nil, ZW.ss_cons, ZW.s_ex, ZW.s_asg, ZW.s_asgO, ZW.s_asgC, ZW.s_par, ZW.par_nil, ZW.par_t, ZW.par_f, ZW.kTup_tup, ZW.s_star, ZW.s_ret, ZW.kRF_fr, ZW.kRF_bw, ZW.s_retF, ZW.s_retN, ZW.s_iff, ZW.s_app, ZW.s_setO, ZW.kRef_ref, ZW.s_setR, ZW.s_frz, ZW.s_brk, ZW.s_cont, ZW.s_pass, ZW.bt_nm, ZW.bt_tp, ZW.bt_lp, ZW.bts_nil, ZW.bts_cons, ZW.kSeq_tup, ZW.kSeq_lst, ZW.kSeq_scr, ZW.kSeq_str, ZW.it_seq, ZW.it_rng, ZW.it_rng2, ZW.kZip_lst, ZW.kZip_tup, ZW.it_zip, ZW.kLst_lst, ZW.it_enum, ZW.tw_post, ZW.tx_post, ZW.s_for, ZW.e_comp, ZW.kT_nx, ZW.kT_cont, ZW.kT_brk, ZW.kT_ret, Z.setAll, List.set_cons_zero, List.set_cons_succ, if_true, if_false, Bool.false_eq_true, Option.bind_some, Option.map_some, Z.wipe, List.length_cons, List.length_nil, Bool.not_true, Bool.not_false, b_add, b_addL, List.cons_append, List.nil_append]
    have b1 : Box 900000 h.length (h ++ [.lst [.int a, .int b, .int 0]]) := ⟨a, b, 0, by simp, ha, hb, hb2, by decide, by decide⟩
    refine some_ok (f := 800000) (b1.less (by decide)) fun xs h1 hx b2 => ?_
    simp +decide only [decide_true, decide_false, true_and, and_true, ZW.kO_some, ZW.kO_none, ZW.kO_map, ZW.kO_bind, ZW.kO_if, ZW.kS_nx, ZW.kS_ret, ZW.kS_brk, ZW.kS_cont, ZW.kB_bl, ZW.kI_int, ZW.kF_fr, ZW.kStr_str, ZW.kVar_val, ZW.kOwn_own, ZW.kRet_ret, ZW.kRet_nx, ZW.dg_v, ZW.dg_fr, ZW.wdg_v, ZW.wdg_fr, ZW.wdg_bw, ZW.get_0, ZW.get_s, ZW.e_var, ZW.e_own, ZW.e_int, ZW.e_bl, ZW.e_non, ZW.e_str, ZW.e_glo, ZW.e_tup, ZW.e_lst, ZW.e_bin, ZW.e_cmp, ZW.e_neg, ZW.e_not, ZW.e_and, ZW.e_or, ZW.e_ifE, ZW.e_idx, ZW.e_sl, ZW.e_call, ZW.e_bi, ZW.e_sset, ZW.e_isi, ZW.e_mth, ZW.op_no, ZW.op_yes, ZW.es_nil, ZW.es_cons, ZW.ws_nil, ZW.ws_cons, ZW.an_one, ZW.an_cons, ZW.or_one, ZW.or_cons, ZW.t_e, ZW.t_cmp', ZW.t_not', ZW.t_and', ZW.t_or', ZW.ts_nil, ZW.ts_cons, ZW.to_nil, ZW.to_cons, ZW.ss_nil, ZW.ss_cons, ZW.s_ex, ZW.s_asg, ZW.s_asgO, ZW.s_asgC, ZW.s_par, ZW.par_nil, ZW.par_t, ZW.par_f, ZW.kTup_tup, ZW.s_star, ZW.s_ret, ZW.kRF_fr, ZW.kRF_bw, ZW.s_retF, ZW.s_retN, ZW.s_iff, ZW.s_app, ZW.s_setO, ZW.kRef_ref, ZW.s_setR, ZW.s_frz, ZW.s_brk, ZW.s_cont, ZW.s_pass, ZW.bt_nm, ZW.bt_tp, ZW.bt_lp, ZW.bts_nil, ZW.bts_cons, ZW.kSeq_tup, ZW.kSeq_lst, ZW.kSeq_scr, ZW.kSeq_str, ZW.it_seq, ZW.it_rng, ZW.it_rng2, ZW.kZip_lst, ZW.kZip_tup, ZW.it_zip, ZW.kLst_lst, ZW.it_enum, ZW.tw_post, ZW.tx_post, ZW.s_for, ZW.e_comp, ZW.kT_nx, ZW.kT_cont, ZW.kT_brk, ZW.kT_ret, Z.setAll, List.set_cons_zero, List.set_cons_succ, if_true, if_false, Bool.false_eq_true, Option.bind_some, Option.map_some, Z.wipe, List.length_cons, List.length_nil, Bool.not_true, Bool.not_false, b_add, b_addL, List.cons_append, List.nil_append]
    have x0 : xs ≠ [] := fun z => by rw [z] at hx; cases hx
    refine w_for _ (fun m ρ h' => m ≤ 12 ∧ Box (700000 - 330 * m) h.length h' ∧ ∃ s4 s5 s6 s7 s8 s9 s10 s11 s12 s13 s14, ρ = [.val (.scr ns), .val (.int ((i : Nat) : Int)), .val (.ref h.length), .val (.lst (xs.map .str)), s4, s5, s6, s7, s8, s9, s10, s11, s12, s13, s14]) ?_ ?_ ?_
    · exact ⟨by decide, b2.less (by decide), _, _, _, _, _, _, _, _, _, _, _, rfl⟩
    · rintro t2 d ρ h2 ed ⟨hi2, b3, s4, s5, s6, s7, s8, s9, s10, s11, s12, s13, s14, rfl⟩
      obtain ⟨rfl, hi⟩ := rng_at _ _ _ _ ed
      have hi12 : t2 < 12 := hi
      rw [tw_post]
      show (denSs ⟨run fs G wf 40, G, wf⟩ turnB [.val (.scr ns), .val (.int ((i : Nat) : Int)), .val (.ref h.length), .val (.lst (xs.map .str)), .val (.int (0 + (t2 : Nat))), s5, s6, s7, s8, s9, s10, s11, s12, s13, s14] h2).post _ XF
      refine turn_ok (f := 700000 - 330 * (t2 + 1)) hx (b3.less (by omega)) fun s4 s5 s6 s7 s8 s9 s10 s11 s12 s13 s14 h3 b4 => ?_
      exact ⟨by omega, b4, _, _, _, _, _, _, _, _, _, _, _, rfl⟩
    · rintro ρ h2 ⟨hi2, b3, s4, s5, s6, s7, s8, s9, s10, s11, s12, s13, s14, rfl⟩
      have b3 : Box 600000 h.length h2 := b3.less (by rw [rng_len]; decide)
      obtain ⟨ys, hy, ey⟩ := sl2 (h := h2) hx
      simp +decide only [decide_true, decide_false, true_and, and_true, ZW.kO_some, ZW.kO_none, ZW.kO_map, ZW.kO_bind, ZW.kO_if, ZW.kS_nx, ZW.kS_ret, ZW.kS_brk, ZW.kS_cont, ZW.kB_bl, ZW.kI_int, ZW.kF_fr, ZW.kStr_str, ZW.kVar_val, ZW.kOwn_own, ZW.kRet_ret, ZW.kRet_nx, ZW.dg_v, ZW.dg_fr, ZW.wdg_v, ZW.wdg_fr, ZW.wdg_bw, ZW.get_0, ZW.get_s, ZW.e_var, ZW.e_own, ZW.e_int, ZW.e_bl, ZW.e_non, ZW.e_str, ZW.e_glo, ZW.e_tup, ZW.e_lst, ZW.e_bin, ZW.e_cmp, ZW.e_neg, ZW.e_not, ZW.e_and, ZW.e_or, ZW.e_ifE, ZW.e_idx, ZW.e_sl, ZW.e_call, ZW.e_bi, ZW.e_sset, ZW.e_isi, ZW.e_mth, ZW.op_no, ZW.op_yes, ZW.es_nil, ZW.es_cons, ZW.ws_nil, ZW.ws_cons, ZW.an_one, ZW.an_cons, ZW.or_one, ZW.or_cons, ZW.t_e, ZW.t_cmp', ZW.t_not', ZW.t_and', ZW.t_or', ZW.ts_nil, ZW.ts_cons, ZW.to_nil, ZW.to_cons, ZW.ss_nil, ZW.ss_cons, ZW.s_ex, ZW.s_asg, ZW.s_asgO, ZW.s_asgC, ZW.s_par, ZW.par_nil, ZW.par_t, ZW.par_f, ZW.kTup_tup, ZW.s_star, ZW.s_ret, ZW.kRF_fr, ZW.kRF_bw, ZW.s_retF, ZW.s_retN, ZW.s_iff, ZW.s_app, ZW.s_setO, ZW.kRef_ref, ZW.s_setR, ZW.s_frz, ZW.s_brk, ZW.s_cont, ZW.s_pass, ZW.bt_nm, ZW.bt_tp, ZW.bt_lp, ZW.bts_nil, ZW.bts_cons, ZW.kSeq_tup, ZW.kSeq_lst, ZW.kSeq_scr, ZW.kSeq_str, ZW.it_seq, ZW.it_rng, ZW.it_rng2, ZW.kZip_lst, ZW.kZip_tup, ZW.it_zip, ZW.kLst_lst, ZW.it_enum, ZW.tw_post, ZW.tx_post, ZW.s_for, ZW.e_comp, ZW.kT_nx, ZW.kT_cont, ZW.kT_brk, ZW.kT_ret, Z.setAll, List.set_cons_zero, List.set_cons_succ, if_true, if_false, Bool.false_eq_true, Option.bind_some, Option.map_some, Z.wipe, List.length_cons, List.length_nil, Bool.not_true, Bool.not_false, b_add, b_addL, List.cons_append, List.nil_append, ey]
      refine take_ok i2 (f := 500000) (k := 4) (by decide) (by decide) (b3.less (by decide)) fun j1 h3 j10 j11 b4 => ?_
      obtain ⟨zs, hz, ez⟩ := sl2 (h := h3) hx
      simp +decide only [decide_true, decide_false, true_and, and_true, ZW.kO_some, ZW.kO_none, ZW.kO_map, ZW.kO_bind, ZW.kO_if, ZW.kS_nx, ZW.kS_ret, ZW.kS_brk, ZW.kS_cont, ZW.kB_bl, ZW.kI_int, ZW.kF_fr, ZW.kStr_str, ZW.kVar_val, ZW.kOwn_own, ZW.kRet_ret, ZW.kRet_nx, ZW.dg_v, ZW.dg_fr, ZW.wdg_v, ZW.wdg_fr, ZW.wdg_bw, ZW.get_0, ZW.get_s, ZW.e_var, ZW.e_own, ZW.e_int, ZW.e_bl, ZW.e_non, ZW.e_str, ZW.e_glo, ZW.e_tup, ZW.e_lst, ZW.e_bin, ZW.e_cmp, ZW.e_neg, ZW.e_not, ZW.e_and, ZW.e_or, ZW.e_ifE, ZW.e_idx, ZW.e_sl, ZW.e_call, ZW.e_bi, ZW.e_sset, ZW.e_isi, ZW.e_mth, ZW.op_no, ZW.op_yes, ZW.es_nil, ZW.es_cons, ZW.ws_nil, ZW.ws_cons, ZW.an_one, ZW.an_cons, ZW.or_one, ZW.or_cons, ZW.t_e, ZW.t_cmp', ZW.t_not', ZW.t_and', ZW.t_or', ZW.ts_nil, ZW.ts_cons, ZW.to_nil, ZW.to_cons, ZW.ss_nil, ZW.ss_cons, ZW.s_ex, ZW.s_asg, ZW.s_asgO, ZW.s_asgC, ZW.s_par, ZW.par_nil, ZW.par_t, ZW.par_f, ZW.kTup_tup, ZW.s_star, ZW.s_ret, ZW.kRF_fr, ZW.kRF_bw, ZW.s_retF, ZW.s_retN, ZW.s_iff, ZW.s_app, ZW.s_setO, ZW.kRef_ref, ZW.s_setR, ZW.s_frz, ZW.s_brk, ZW.s_cont, ZW.s_pass, ZW.bt_nm, ZW.bt_tp, ZW.bt_lp, ZW.bts_nil, ZW.bts_cons, ZW.kSeq_tup, ZW.kSeq_lst, ZW.kSeq_scr, ZW.kSeq_str, ZW.it_seq, ZW.it_rng, ZW.it_rng2, ZW.kZip_lst, ZW.kZip_tup, ZW.it_zip, ZW.kLst_lst, ZW.it_enum, ZW.tw_post, ZW.tx_post, ZW.s_for, ZW.e_comp, ZW.kT_nx, ZW.kT_cont, ZW.kT_brk, ZW.kT_ret, Z.setAll, List.set_cons_zero, List.set_cons_succ, if_true, if_false, Bool.false_eq_true, Option.bind_some, Option.map_some, Z.wipe, List.length_cons, List.length_nil, Bool.not_true, Bool.not_false, b_add, b_addL, List.cons_append, List.nil_append]
      refine deep_ok (xs := ys) (fun z => by rw [z] at hy; cases hy) (by omega) 3 40 400000 (1 + j1) _ _ (by omega) (by omega) (by decide) (by decide) (b4.less (by decide)) fun c h4 dc b5 => ?_
      obtain ⟨ws, hw, ew⟩ := sl2 (h := h4) hx
      simp +decide only [decide_true, decide_false, true_and, and_true, ZW.kO_some, ZW.kO_none, ZW.kO_map, ZW.kO_bind, ZW.kO_if, ZW.kS_nx, ZW.kS_ret, ZW.kS_brk, ZW.kS_cont, ZW.kB_bl, ZW.kI_int, ZW.kF_fr, ZW.kStr_str, ZW.kVar_val, ZW.kOwn_own, ZW.kRet_ret, ZW.kRet_nx, ZW.dg_v, ZW.dg_fr, ZW.wdg_v, ZW.wdg_fr, ZW.wdg_bw, ZW.get_0, ZW.get_s, ZW.e_var, ZW.e_own, ZW.e_int, ZW.e_bl, ZW.e_non, ZW.e_str, ZW.e_glo, ZW.e_tup, ZW.e_lst, ZW.e_bin, ZW.e_cmp, ZW.e_neg, ZW.e_not, ZW.e_and, ZW.e_or, ZW.e_ifE, ZW.e_idx, ZW.e_sl, ZW.e_call, ZW.e_bi, ZW.e_sset, ZW.e_isi, ZW.e_mth, ZW.op_no, ZW.op_yes, ZW.es_nil, ZW.es_cons, ZW.ws_nil, ZW.ws_cons, ZW.an_one, ZW.an_cons, ZW.or_one, ZW.or_cons, ZW.t_e, ZW.t_cmp', ZW.t_not', ZW.t_and', ZW.t_or', ZW.ts_nil, ZW.ts_cons, ZW.to_nil, ZW.to_cons, ZW.ss_nil, ZW.ss_cons, ZW.s_ex, ZW.s_asg, ZW.s_asgO, ZW.s_asgC, ZW.s_par, ZW.par_nil, ZW.par_t, ZW.par_f, ZW.kTup_tup, ZW.s_star, ZW.s_ret, ZW.kRF_fr, ZW.kRF_bw, ZW.s_retF, ZW.s_retN, ZW.s_iff, ZW.s_app, ZW.s_setO, ZW.kRef_ref, ZW.s_setR, ZW.s_frz, ZW.s_brk, ZW.s_cont, ZW.s_pass, ZW.bt_nm, ZW.bt_tp, ZW.bt_lp, ZW.bts_nil, ZW.bts_cons, ZW.kSeq_tup, ZW.kSeq_lst, ZW.kSeq_scr, ZW.kSeq_str, ZW.it_seq, ZW.it_rng, ZW.it_rng2, ZW.kZip_lst, ZW.kZip_tup, ZW.it_zip, ZW.kLst_lst, ZW.it_enum, ZW.tw_post, ZW.tx_post, ZW.s_for, ZW.e_comp, ZW.kT_nx, ZW.kT_cont, ZW.kT_brk, ZW.kT_ret, Z.setAll, List.set_cons_zero, List.set_cons_succ, if_true, if_false, Bool.false_eq_true, Option.bind_some, Option.map_some, Z.wipe, List.length_cons, List.length_nil, Bool.not_true, Bool.not_false, b_add, b_addL, List.cons_append, List.nil_append, ew]
      refine choices_ok (by omega) fun ds => ?_
      simp +decide only [decide_true, decide_false, true_and, and_true, ZW.kO_some, ZW.kO_none, ZW.kO_map, ZW.kO_bind, ZW.kO_if, ZW.kS_nx, ZW.kS_ret, ZW.kS_brk, ZW.kS_cont, ZW.kB_bl, ZW.kI_int, ZW.kF_fr, ZW.kStr_str, ZW.kVar_val, ZW.kOwn_own, ZW.kRet_ret, ZW.kRet_nx, ZW.dg_v, ZW.dg_fr, ZW.wdg_v, ZW.wdg_fr, ZW.wdg_bw, ZW.get_0, ZW.get_s, ZW.e_var, ZW.e_own, ZW.e_int, ZW.e_bl, ZW.e_non, ZW.e_str, ZW.e_glo, ZW.e_tup, ZW.e_lst, ZW.e_bin, ZW.e_cmp, ZW.e_neg, ZW.e_not, ZW.e_and, ZW.e_or, ZW.e_ifE, ZW.e_idx, ZW.e_sl, ZW.e_call, ZW.e_bi, ZW.e_sset, ZW.e_isi, ZW.e_mth, ZW.op_no, ZW.op_yes, ZW.es_nil, ZW.es_cons, ZW.ws_nil, ZW.ws_cons, ZW.an_one, ZW.an_cons, ZW.or_one, ZW.or_cons, ZW.t_e, ZW.t_cmp', ZW.t_not', ZW.t_and', ZW.t_or', ZW.ts_nil, ZW.ts_cons, ZW.to_nil, ZW.to_cons, ZW.ss_nil, ZW.ss_cons, ZW.s_ex, ZW.s_asg, ZW.s_asgO, ZW.s_asgC, ZW.s_par, ZW.par_nil, ZW.par_t, ZW.par_f, ZW.kTup_tup, ZW.s_star, ZW.s_ret, ZW.kRF_fr, ZW.kRF_bw, ZW.s_retF, ZW.s_retN, ZW.s_iff, ZW.s_app, ZW.s_setO, ZW.kRef_ref, ZW.s_setR, ZW.s_frz, ZW.s_brk, ZW.s_cont, ZW.s_pass, ZW.bt_nm, ZW.bt_tp, ZW.bt_lp, ZW.bts_nil, ZW.bts_cons, ZW.kSeq_tup, ZW.kSeq_lst, ZW.kSeq_scr, ZW.kSeq_str, ZW.it_seq, ZW.it_rng, ZW.it_rng2, ZW.kZip_lst, ZW.kZip_tup, ZW.it_zip, ZW.kLst_lst, ZW.it_enum, ZW.tw_post, ZW.tx_post, ZW.s_for, ZW.e_comp, ZW.kT_nx, ZW.kT_cont, ZW.kT_brk, ZW.kT_ret, Z.setAll, List.set_cons_zero, List.set_cons_succ, if_true, if_false, Bool.false_eq_true, Option.bind_some, Option.map_some, Z.wipe, List.length_cons, List.length_nil, Bool.not_true, Bool.not_false, b_add, b_addL, List.cons_append, List.nil_append]
      refine w_for _ (fun m ρ h' => ∃ s4 s6 s7 s8 s9 s10 s11 s12 s13, ρ = [.val (.scr ns), .val (.int ((i : Nat) : Int)), .val (.ref h.length), .val (.lst (xs.map .str)), s4, .val c.d, s6, s7, s8, s9, s10, s11, s12, s13, .val (.lst (tupsD ds))]) ?_ ?_ ?_
      · exact ⟨_, _, _, _, _, _, _, _, _, rfl⟩
      · rintro i3 d ρ h5 ed ⟨s4, s6, s7, s8, s9, s10, s11, s12, s13, rfl⟩
        obtain ⟨N, _, rfl⟩ := List.mem_map.mp (List.mem_of_getElem? ed)
        simp +decide only [decide_true, decide_false, true_and, and_true, ZW.kO_some, ZW.kO_none, ZW.kO_map, ZW.kO_bind, ZW.kO_if, ZW.kS_nx, ZW.kS_ret, ZW.kS_brk, ZW.kS_cont, ZW.kB_bl, ZW.kI_int, ZW.kF_fr, ZW.kStr_str, ZW.kVar_val, ZW.kOwn_own, ZW.kRet_ret, ZW.kRet_nx, ZW.dg_v, ZW.dg_fr, ZW.wdg_v, ZW.wdg_fr, ZW.wdg_bw, ZW.get_0, ZW.get_s, ZW.e_var, ZW.e_own, ZW.e_int, ZW.e_bl, ZW.e_non, ZW.e_str, ZW.e_glo, ZW.e_tup, ZW.e_lst, ZW.e_bin, ZW.e_cmp, ZW.e_neg, ZW.e_not, ZW.e_and, ZW.e_or, ZW.e_ifE, ZW.e_idx, ZW.e_sl, ZW.e_call, ZW.e_bi, ZW.e_sset, ZW.e_isi, ZW.e_mth, ZW.op_no, ZW.op_yes, ZW.es_nil, ZW.es_cons, ZW.ws_nil, ZW.ws_cons, ZW.an_one, ZW.an_cons, ZW.or_one, ZW.or_cons, ZW.t_e, ZW.t_cmp', ZW.t_not', ZW.t_and', ZW.t_or', ZW.ts_nil, ZW.ts_cons, ZW.to_nil, ZW.to_cons, ZW.ss_nil, ZW.ss_cons, ZW.s_ex, ZW.s_asg, ZW.s_asgO, ZW.s_asgC, ZW.s_par, ZW.par_nil, ZW.par_t, ZW.par_f, ZW.kTup_tup, ZW.s_star, ZW.s_ret, ZW.kRF_fr, ZW.kRF_bw, ZW.s_retF, ZW.s_retN, ZW.s_iff, ZW.s_app, ZW.s_setO, ZW.kRef_ref, ZW.s_setR, ZW.s_frz, ZW.s_brk, ZW.s_cont, ZW.s_pass, ZW.bt_nm, ZW.bt_tp, ZW.bt_lp, ZW.bts_nil, ZW.bts_cons, ZW.kSeq_tup, ZW.kSeq_lst, ZW.kSeq_scr, ZW.kSeq_str, ZW.it_seq, ZW.it_rng, ZW.it_rng2, ZW.kZip_lst, ZW.kZip_tup, ZW.it_zip, ZW.kLst_lst, ZW.it_enum, ZW.tw_post, ZW.tx_post, ZW.s_for, ZW.e_comp, ZW.kT_nx, ZW.kT_cont, ZW.kT_brk, ZW.kT_ret, Z.setAll, List.set_cons_zero, List.set_cons_succ, if_true, if_false, Bool.false_eq_true, Option.bind_some, Option.map_some, Z.wipe, List.length_cons, List.length_nil, Bool.not_true, Bool.not_false, b_add, b_addL, List.cons_append, List.nil_append]
        refine w_for _ (fun m ρ h' => ∃ s4 s6 s8 s9 s10 s11 s12 s13, ρ = [.val (.scr ns), .val (.int ((i : Nat) : Int)), .val (.ref h.length), .val (.lst (xs.map .str)), s4, .val c.d, s6, .val (.tup (N.map .str)), s8, s9, s10, s11, s12, s13, .val (.lst (tupsD ds))]) ?_ ?_ ?_
        · exact ⟨_, _, _, _, _, _, _, _, rfl⟩
        · rintro i4 d ρ h6 ed ⟨s4, s6, s8, s9, s10, s11, s12, s13, rfl⟩
          obtain ⟨B, _, rfl⟩ := List.mem_map.mp (List.mem_of_getElem? ed)
          simp +decide only [decide_true, decide_false, true_and, and_true, ZW.kO_some, ZW.kO_none, ZW.kO_map, ZW.kO_bind, ZW.kO_if, ZW.kS_nx, ZW.kS_ret, ZW.kS_brk, ZW.kS_cont, ZW.kB_bl, ZW.kI_int, ZW.kF_fr, ZW.kStr_str, ZW.kVar_val, ZW.kOwn_own, ZW.kRet_ret, ZW.kRet_nx, ZW.dg_v, ZW.dg_fr, ZW.wdg_v, ZW.wdg_fr, ZW.wdg_bw, ZW.get_0, ZW.get_s, ZW.e_var, ZW.e_own, ZW.e_int, ZW.e_bl, ZW.e_non, ZW.e_str, ZW.e_glo, ZW.e_tup, ZW.e_lst, ZW.e_bin, ZW.e_cmp, ZW.e_neg, ZW.e_not, ZW.e_and, ZW.e_or, ZW.e_ifE, ZW.e_idx, ZW.e_sl, ZW.e_call, ZW.e_bi, ZW.e_sset, ZW.e_isi, ZW.e_mth, ZW.op_no, ZW.op_yes, ZW.es_nil, ZW.es_cons, ZW.ws_nil, ZW.ws_cons, ZW.an_one, ZW.an_cons, ZW.or_one, ZW.or_cons, ZW.t_e, ZW.t_cmp', ZW.t_not', ZW.t_and', ZW.t_or', ZW.ts_nil, ZW.ts_cons, ZW.to_nil, ZW.to_cons, ZW.ss_nil, ZW.ss_cons, ZW.s_ex, ZW.s_asg, ZW.s_asgO, ZW.s_asgC, ZW.s_par, ZW.par_nil, ZW.par_t, ZW.par_f, ZW.kTup_tup, ZW.s_star, ZW.s_ret, ZW.kRF_fr, ZW.kRF_bw, ZW.s_retF, ZW.s_retN, ZW.s_iff, ZW.s_app, ZW.s_setO, ZW.kRef_ref, ZW.s_setR, ZW.s_frz, ZW.s_brk, ZW.s_cont, ZW.s_pass, ZW.bt_nm, ZW.bt_tp, ZW.bt_lp, ZW.bts_nil, ZW.bts_cons, ZW.kSeq_tup, ZW.kSeq_lst, ZW.kSeq_scr, ZW.kSeq_str, ZW.it_seq, ZW.it_rng, ZW.it_rng2, ZW.kZip_lst, ZW.kZip_tup, ZW.it_zip, ZW.kLst_lst, ZW.it_enum, ZW.tw_post, ZW.tx_post, ZW.s_for, ZW.e_comp, ZW.kT_nx, ZW.kT_cont, ZW.kT_brk, ZW.kT_ret, Z.setAll, List.set_cons_zero, List.set_cons_succ, if_true, if_false, Bool.false_eq_true, Option.bind_some, Option.map_some, Z.wipe, List.length_cons, List.length_nil, Bool.not_true, Bool.not_false, b_add, b_addL, List.cons_append, List.nil_append]
          refine right_ok c (by omega) ?_
          simp +decide only [decide_true, decide_false, true_and, and_true, ZW.kO_some, ZW.kO_none, ZW.kO_map, ZW.kO_bind, ZW.kO_if, ZW.kS_nx, ZW.kS_ret, ZW.kS_brk, ZW.kS_cont, ZW.kB_bl, ZW.kI_int, ZW.kF_fr, ZW.kStr_str, ZW.kVar_val, ZW.kOwn_own, ZW.kRet_ret, ZW.kRet_nx, ZW.dg_v, ZW.dg_fr, ZW.wdg_v, ZW.wdg_fr, ZW.wdg_bw, ZW.get_0, ZW.get_s, ZW.e_var, ZW.e_own, ZW.e_int, ZW.e_bl, ZW.e_non, ZW.e_str, ZW.e_glo, ZW.e_tup, ZW.e_lst, ZW.e_bin, ZW.e_cmp, ZW.e_neg, ZW.e_not, ZW.e_and, ZW.e_or, ZW.e_ifE, ZW.e_idx, ZW.e_sl, ZW.e_call, ZW.e_bi, ZW.e_sset, ZW.e_isi, ZW.e_mth, ZW.op_no, ZW.op_yes, ZW.es_nil, ZW.es_cons, ZW.ws_nil, ZW.ws_cons, ZW.an_one, ZW.an_cons, ZW.or_one, ZW.or_cons, ZW.t_e, ZW.t_cmp', ZW.t_not', ZW.t_and', ZW.t_or', ZW.ts_nil, ZW.ts_cons, ZW.to_nil, ZW.to_cons, ZW.ss_nil, ZW.ss_cons, ZW.s_ex, ZW.s_asg, ZW.s_asgO, ZW.s_asgC, ZW.s_par, ZW.par_nil, ZW.par_t, ZW.par_f, ZW.kTup_tup, ZW.s_star, ZW.s_ret, ZW.kRF_fr, ZW.kRF_bw, ZW.s_retF, ZW.s_retN, ZW.s_iff, ZW.s_app, ZW.s_setO, ZW.kRef_ref, ZW.s_setR, ZW.s_frz, ZW.s_brk, ZW.s_cont, ZW.s_pass, ZW.bt_nm, ZW.bt_tp, ZW.bt_lp, ZW.bts_nil, ZW.bts_cons, ZW.kSeq_tup, ZW.kSeq_lst, ZW.kSeq_scr, ZW.kSeq_str, ZW.it_seq, ZW.it_rng, ZW.it_rng2, ZW.kZip_lst, ZW.kZip_tup, ZW.it_zip, ZW.kLst_lst, ZW.it_enum, ZW.tw_post, ZW.tx_post, ZW.s_for, ZW.e_comp, ZW.kT_nx, ZW.kT_cont, ZW.kT_brk, ZW.kT_ret, Z.setAll, List.set_cons_zero, List.set_cons_succ, if_true, if_false, Bool.false_eq_true, Option.bind_some, Option.map_some, Z.wipe, List.length_cons, List.length_nil, Bool.not_true, Bool.not_false, b_add, b_addL, List.cons_append, List.nil_append]
          exact ⟨_, _, _, _, _, _, _, _, rfl⟩
        · rintro ρ h6 ⟨s4, s6, s8, s9, s10, s11, s12, s13, rfl⟩
          exact ⟨_, _, _, _, _, _, _, _, _, rfl⟩
      · rintro ρ h5 ⟨s4, s6, s7, s8, s9, s10, s11, s12, s13, rfl⟩
        simp +decide only [decide_true, decide_false, true_and, and_true, ZW.kO_some, ZW.kO_none, ZW.kO_map, ZW.kO_bind, ZW.kO_if, ZW.kS_nx, ZW.kS_ret, ZW.kS_brk, ZW.kS_cont, ZW.kB_bl, ZW.kI_int, ZW.kF_fr, ZW.kStr_str, ZW.kVar_val, ZW.kOwn_own, ZW.kRet_ret, ZW.kRet_nx, ZW.dg_v, ZW.dg_fr, ZW.wdg_v, ZW.wdg_fr, ZW.wdg_bw, ZW.get_0, ZW.get_s, ZW.e_var, ZW.e_own, ZW.e_int, ZW.e_bl, ZW.e_non, ZW.e_str, ZW.e_glo, ZW.e_tup, ZW.e_lst, ZW.e_bin, ZW.e_cmp, ZW.e_neg, ZW.e_not, ZW.e_and, ZW.e_or, ZW.e_ifE, ZW.e_idx, ZW.e_sl, ZW.e_call, ZW.e_bi, ZW.e_sset, ZW.e_isi, ZW.e_mth, ZW.op_no, ZW.op_yes, ZW.es_nil, ZW.es_cons, ZW.ws_nil, ZW.ws_cons, ZW.an_one, ZW.an_cons, ZW.or_one, ZW.or_cons, ZW.t_e, ZW.t_cmp', ZW.t_not', ZW.t_and', ZW.t_or', ZW.ts_nil, ZW.ts_cons, ZW.to_nil, ZW.to_cons, ZW.ss_nil, ZW.ss_cons, ZW.s_ex, ZW.s_asg, ZW.s_asgO, ZW.s_asgC, ZW.s_par, ZW.par_nil, ZW.par_t, ZW.par_f, ZW.kTup_tup, ZW.s_star, ZW.s_ret, ZW.kRF_fr, ZW.kRF_bw, ZW.s_retF, ZW.s_retN, ZW.s_iff, ZW.s_app, ZW.s_setO, ZW.kRef_ref, ZW.s_setR, ZW.s_frz, ZW.s_brk, ZW.s_cont, ZW.s_pass, ZW.bt_nm, ZW.bt_tp, ZW.bt_lp, ZW.bts_nil, ZW.bts_cons, ZW.kSeq_tup, ZW.kSeq_lst, ZW.kSeq_scr, ZW.kSeq_str, ZW.it_seq, ZW.it_rng, ZW.it_rng2, ZW.kZip_lst, ZW.kZip_tup, ZW.it_zip, ZW.kLst_lst, ZW.it_enum, ZW.tw_post, ZW.tx_post, ZW.s_for, ZW.e_comp, ZW.kT_nx, ZW.kT_cont, ZW.kT_brk, ZW.kT_ret, Z.setAll, List.set_cons_zero, List.set_cons_succ, if_true, if_false, Bool.false_eq_true, Option.bind_some, Option.map_some, Z.wipe, List.length_cons, List.length_nil, Bool.not_true, Bool.not_false, b_add, b_addL, List.cons_append, List.nil_append]
        exact ⟨_, _, _, _, _, _, _, _, _, _, _, _, _, _, rfl⟩
  · rintro ρ h ⟨s1, s2, s3, s4, s5, s6, s7, s8, s9, s10, s11, s12, s13, s14, rfl⟩
    simp +decide only [decide_true, decide_false, true_and, and_true, ZW.kO_some, ZW.kO_none, ZW.kO_map, ZW.kO_bind, ZW.kO_if, ZW.kS_nx, ZW.kS_ret, ZW.kS_brk, ZW.kS_cont, ZW.kB_bl, ZW.kI_int, ZW.kF_fr, ZW.kStr_str, ZW.kVar_val, ZW.kOwn_own, ZW.kRet_ret, ZW.kRet_nx, ZW.dg_v, ZW.dg_fr, ZW.wdg_v, ZW.wdg_fr, ZW.wdg_bw, ZW.get_0, ZW.get_s, ZW.e_var, ZW.e_own, ZW.e_int, ZW.e_bl, ZW.e_non, ZW.e_str, ZW.e_glo, ZW.e_tup, ZW.e_lst, ZW.e_bin, ZW.e_cmp, ZW.e_neg, ZW.e_not, ZW.e_and, ZW.e_or, ZW.e_ifE, ZW.e_idx, ZW.e_sl, ZW.e_call, ZW.e_bi, ZW.e_sset, ZW.e_isi, ZW.e_mth, ZW.op_no, ZW.op_yes, ZW.es_nil, ZW.es_cons, ZW.ws_nil, ZW.ws_cons, ZW.an_one, ZW.an_cons, ZW.or_one, ZW.or_cons, ZW.t_e, ZW.t_cmp', ZW.t_not', ZW.t_and', ZW.t_or', ZW.ts_nil, ZW.ts_cons, ZW.to_nil, ZW.to_cons, ZW.ss_nil, ZW.ss_cons, ZW.s_ex, ZW.s_asg, ZW.s_asgO, ZW.s_asgC, ZW.s_par, ZW.par_nil, ZW.par_t, ZW.par_f, ZW.kTup_tup, ZW.s_star, ZW.s_ret, ZW.kRF_fr, ZW.kRF_bw, ZW.s_retF, ZW.s_retN, ZW.s_iff, ZW.s_app, ZW.s_setO, ZW.kRef_ref, ZW.s_setR, ZW.s_frz, ZW.s_brk, ZW.s_cont, ZW.s_pass, ZW.bt_nm, ZW.bt_tp, ZW.bt_lp, ZW.bts_nil, ZW.bts_cons, ZW.kSeq_tup, ZW.kSeq_lst, ZW.kSeq_scr, ZW.kSeq_str, ZW.it_seq, ZW.it_rng, ZW.it_rng2, ZW.kZip_lst, ZW.kZip_tup, ZW.it_zip, ZW.kLst_lst, ZW.it_enum, ZW.tw_post, ZW.tx_post, ZW.s_for, ZW.e_comp, ZW.kT_nx, ZW.kT_cont, ZW.kT_brk, ZW.kT_ret, Z.setAll, List.set_cons_zero, List.set_cons_succ, if_true, if_false, Bool.false_eq_true, Option.bind_some, Option.map_some, Z.wipe, List.length_cons, List.length_nil, Bool.not_true, Bool.not_false, b_add, b_addL, List.cons_append, List.nil_append]
    exact q _
theorem plain_ok (ns : List Int) (hn : ns.length ≤ 63) : ∃ h', run fs G wf 41 13 [.scr ns] [] = .ok (.v (.bl true)) h' := by
  have := law_ok (wf := wf) (h := []) (Q := fun rv _ => rv = .v (.bl true)) ns hn fun _ => rfl
  cases e : run fs G wf 41 13 [.scr ns] [] with
  | ok a h' =>
    rw [e] at this
    have : a = .v (.bl true) := this
    subst this
    exact ⟨h', rfl⟩
  | exc _ _ _ => rw [e] at this; exact this.elim
  | bad => rw [e] at this; exact this.elim
end
end K03
end

namespace K03
open PySem PySem.Spec PyProof.Rows L2 Z
theorem ck : ((sts.zip fs).all fun p => ckFn ⟨fs, gl⟩ p.1 p.2) = true := by decide +kernel
theorem b0 : BindA (top 3) f0 := .inr ⟨by decide, fun k h1 h2 => by
  have h1 : k ≤ 3 := h1
  have h2 : 3 ≤ k + 1 := h2
  have : k = 2 ∨ k = 3 := by omega
  rcases this with rfl | rfl
  · exact fun _ _ _ _ _ _ _ us its hu hi => match us, its, hu, hi with | [_, _], [_], _, _ => ⟨_, rfl, rfl⟩
  · exact fun _ _ _ _ _ _ _ us its hu hi => match us, its, hu, hi with | [_, _, _], [_], _, _ => ⟨_, rfl, rfl⟩⟩
theorem b1 : BindA (top 5) f1 := .inl ⟨rfl, fun _ _ _ _ _ _ us hl => match us, hl with | [_, _], _ => rfl⟩
theorem b2 : BindA (top 6) f2 := .inl ⟨rfl, fun _ _ _ _ _ _ us hl => match us, hl with | [_, _], _ => rfl⟩
theorem b3 : BindA (top 7) f3 := .inl ⟨rfl, fun _ _ _ _ _ _ us hl => match us, hl with | [_, _], _ => rfl⟩
theorem b4 : BindA (top 8) f4 := .inl ⟨rfl, fun _ _ _ _ _ _ us hl => match us, hl with | [_], _ => rfl⟩
theorem b5 : BindA (top 9) f5 := .inl ⟨rfl, fun _ _ _ _ _ _ us hl => match us, hl with | [_, _, _], _ => rfl⟩
theorem b6 : BindA (top 10) f6 := .inl ⟨rfl, fun _ _ _ _ _ _ us hl => match us, hl with | [_, _], _ => rfl⟩
theorem b7 : BindA (top 11) f7 := .inl ⟨rfl, fun _ _ _ _ _ _ us hl => match us, hl with | [_, _], _ => rfl⟩
theorem b8 : BindA (top 12) f8 := .inl ⟨rfl, fun _ _ _ _ _ _ us hl => match us, hl with | [_, _], _ => rfl⟩
theorem b9 : BindA (top 13) f9 := .inl ⟨rfl, fun _ _ _ _ _ _ us hl => match us, hl with | [_, _, _], _ => rfl⟩
theorem b10 : BindA (top 14) f10 := .inl ⟨rfl, fun _ _ _ _ _ _ us hl => match us, hl with | [_], _ => rfl⟩
theorem b11 : BindA (top 15) f11 := .inl ⟨rfl, fun _ _ _ _ _ _ us hl => match us, hl with | [_, _], _ => rfl⟩
theorem b12 : BindA (top 16) f12 := .inl ⟨rfl, fun _ _ _ _ _ _ us hl => match us, hl with | [_, _, _], _ => rfl⟩
theorem b13 : BindA (top 17) f13 := .inl ⟨rfl, fun _ _ _ _ _ _ us hl => match us, hl with | [_], _ => rfl⟩
theorem hb : ∀ p ∈ sts.zip fs, BindA p.1 p.2 := by
  intro p hp
  have hp : p ∈ [(top 3, f0), (top 5, f1), (top 6, f2), (top 7, f3), (top 8, f4), (top 9, f5), (top 10, f6), (top 11, f7), (top 12, f8), (top 13, f9), (top 14, f10), (top 15, f11), (top 16, f12), (top 17, f13)] := hp
  simp only [List.mem_cons, List.not_mem_nil, or_false] at hp
  rcases hp with rfl | rfl | rfl | rfl | rfl | rfl | rfl | rfl | rfl | rfl | rfl | rfl | rfl | rfl
  · exact b0
  · exact b1
  · exact b2
  · exact b3
  · exact b4
  · exact b5
  · exact b6
  · exact b7
  · exact b8
  · exact b9
  · exact b10
  · exact b11
  · exact b12
  · exact b13
def lvl : Nat := 40
def wf : Nat := 1000
theorem plain : ∀ ns : List Int, ns.length ≤ 63 → ∃ h', run fs (Tab.glo ⟨fs, gl⟩) wf (lvl + 1) 13 [.scr ns] [] = .ok (.v (.bl true)) h' := by
  exact fun ns hn => plain_ok ns hn
abbrev R : PySem.W.OpenRow := PySem.W.OpenLaw.row PySem.Challenge.rw_soonrooms_k03_true_at_beats
abbrev dds : List He.DefD := (sts.zip fs).map fun p => ddOf p.1 p.2
abbrev hk : PySem.W.Hook := He.hookX 4 (faOf fs) dds [] [] (exC gl fs)
def ob (s : PySem.W.SharedT) : He.AlX := He.obsX 4 (faOf fs) dds [] [] (exC gl fs) (HandSHeadRun.getT s)
theorem ob_eq (s : PySem.W.SharedT) : ob s = hk.obs s.abs := He.obsX_eq (HandSHeadRun.getT_eq s)
def loose : List PySem.Str := (["__name__", "PLAIN", "ASKS", "true_at", "_law_box", "_law_take", "_law_pick", "_law_choices", "_law_true", "_law_names", "_law_same", "_law_leaf", "_law_deep", "_law_some_names", "_law_some_set", "_law_right"] : List PySem.Str)
theorem toprun (w : World) : HandSHeadRun.RunEq R (PySem.W.view R.prog [17]) hk ob 2080 loose w := by
  intro os
  kernel_rfl
end K03
open PySem PySem.W PySem.Calls PyProof.Rows
theorem PySem.Challenge.cw_soonrooms_k03_true_at_beats_holds : PySem.Challenge.rw_soonrooms_k03_true_at_beats.Holds := by
  w_on; o_law
  refine HandSHeadRun.head_any (r := OpenLaw.row PySem.Challenge.rw_soonrooms_k03_true_at_beats) (q := view (OpenLaw.row PySem.Challenge.rw_soonrooms_k03_true_at_beats).prog [17]) (H := K03.hk) (ob := K03.ob) (M := 2080) (loose := K03.loose) (d := HandSHeadRun.topDef (OpenLaw.row PySem.Challenge.rw_soonrooms_k03_true_at_beats).prog 17) (kwd := []) K03.ob_eq
    (by kernel_rfl) (fun s => by kernel_rfl) K03.toprun (by kernel_rfl) (by kernel_rfl) (by kernel_rfl) (by rfl) (by first | assumption | decide +kernel) (by decide +kernel) ⟨rfl, rfl, rfl, rfl, rfl, by decide +kernel⟩ ?hw ?hc
  case hw => w_witness2
  case hc =>
    refine L2.walk_ofE (l := PySem.Challenge.rw_soonrooms_k03_true_at_beats) (n := 63) (k := K03.lvl + 1) (x := "_law_script") (CX := Z.CXw (PySem.Challenge.rw_soonrooms_k03_true_at_beats).prog) rfl (by decide) (by kernel_rfl) ⟨rfl, by decide, by decide⟩ ?F ?C
    case C => exact fun _ _ _ _ ⟨_, _, _, _, _, _, _, _, _, _, _, _, _, z⟩ => z
    case F =>
      intro w mg fa h Y G hmg
      exact Z.law_F (f := 13) (st := K03.top 17) (fn := K03.f13) K03.plain Y G hmg rfl rfl rfl rfl rfl K03.ck K03.hb
