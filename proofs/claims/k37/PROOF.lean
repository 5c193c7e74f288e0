import PyProof.Rows.All
import Wide.All
import OpenK.AllK
import Wide.FinOn
import PySem.Str
import HandS.ForMost
import HandS.Wide
import HandS.IsInst
import HandS.Deep
import HandS.TupAny
import HandS.Style
import HandS.TryOnly
import HandS.Zip
import HandS.Conv
import HandS.HeadEnd
import HandS.Defaults
import KE.KStateDown
import HandS.Ends
import HandS.Words
import HandS.Head0
import HandS.Head1
import HandS.Head2
import HandS.HeadHook1
import HandS.HeadHook2
import PySem.Challenge.RW_dialyard_k37_whole_more_and_fewer_plates
set_option linter.all false
/-! The fragment: its data, its syntax, what it computes. No program in sight. -/
namespace DY

/-- data: what a value stands for -/
inductive D where
  | non
  | bl (b : Bool)
  | int (i : Int)
  | str (s : List Nat)
  | tup (ds : List D)
  | lst (ds : List D)
  | dct (kvs : List (Int × D))
  | exc (c : Nat) (fs : List D)
  | scr (ns : List Int)

/-- held data: fz may be shared and stays; the others are this holder's alone -/
inductive AV where
  | fz (d : D)
  | ol (ds : List D)
  | ot (xs : List AV)
  | od (kvs : List (Int × AV))

mutual
def AV.erase : AV → D
  | .fz d => d
  | .ol ds => .lst ds
  | .ot xs => .tup (eraseL xs)
  | .od kvs => .dct (eraseK kvs)
def eraseL : List AV → List D
  | [] => []
  | x :: xs => x.erase :: eraseL xs
def eraseK : List (Int × AV) → List (Int × D)
  | [] => []
  | (k, x) :: xs => (k, x.erase) :: eraseK xs
end

/-- an error: its class, its field -/
structure Xc where
  cls : Nat
  arg : List D

abbrev Ev := List (Option AV)

inductive R (α : Type) where
  | ok (a : α)
  | er (x : Xc) (ρ : Ev)
  | no

@[reducible] def R.bind {α β : Type} (r : R α) (f : α → R β) : R β :=
  match r with
  | .ok a => f a
  | .er x ρ => .er x ρ
  | .no => .no

/-- an option as a result -/
def R.of {α : Type} : Option α → R α
  | some a => .ok a
  | none => .no

/-- a result's place: data of its own, or a place in a slot -/
inductive PV where
  | av (a : AV)
  | pl (i : Nat) (p : List Nat)

inductive Bop where
  | add | sub | mul | div | mod | pow
inductive Cop where
  | eq | ne | lt | le | gt | ge | isIn | notIn | isN | notN
inductive Kd where
  | int | bool | tuple | list | str | exc (cs : List Nat)
inductive Bf where
  | len | abs | max | min | list | tuple | sorted | int | all | lrange

inductive Tg where
  | nm (i : Nat)
  | tp (ts : List Tg)

mutual
inductive E where
  | var (i : Nat)
  | glb (i : Nat)
  | non
  | bl (b : Bool)
  | int (i : Int)
  | str (s : List Nat)
  | dct0
  | tup (es : List E)
  | lst (es : List E)
  | bin (o : Bop) (a b : E)
  | neg (a : E)
  | not (a : E)
  | and (a b : E)
  | or (a b : E)
  | cmp (o : Cop) (a b : E)
  | chn (o p : Cop) (a b c : E)
  | ix (a b : E)
  | sl (a : E) (lo hi : Option E)
  | rev (a : E)
  | call (f : Nat) (es : List E)
  | blt (f : Bf) (es : List E)
  | isi (a : E) (k : Kd)
  | cmpr (own : List Nat) (t : Tg) (it : It) (ifs : List E) (e : E)
  | pop (a : E) (i : Option E)
  | index (a b : E)
  | fld (a : E) (f : Nat)
inductive It where
  | seq (e : E)
  | rng1 (a : E)
  | rng2 (a b : E)
  | rng3 (a b c : E)
  | zip (a b : E)
  | enum (a : E)
end

inductive S where
  | set (t : Tg) (e : E)
  | par (i j : Nat) (a b : E)
  | setIx (x k e : E)
  | setKy (x k e : E)
  | app (x e : E)
  | appK (x k e : E)
  | ext (x e : E)
  | clr (x : E)
  | drop (e : E)
  | ret (e : E)
  | ite (c : E) (a b : List S)
  | loop (t : Tg) (it : It) (body : List S)
  | whl (m : Nat) (c : E) (body : List S)
  | raise (c : Nat) (e : List E)
  | tryX (body : List S) (cs : List Nat) (n : Option Nat) (suite : List S)
  | pass

inductive Out where
  | nx (ρ : Ev)
  | rt (a : AV)

/-! ### data -/
mutual
def eqD : D → D → Bool
  | .non, .non => true
  | .bl a, .bl b => a == b
  | .bl a, .int j => (if a then 1 else 0) == j
  | .int i, .bl b => i == (if b then 1 else 0)
  | .int i, .int j => i == j
  | .str s, .str t => s == t
  | .tup ds, .tup es => eqDs ds es
  | .lst ds, .lst es => eqDs ds es
  | _, _ => false
def eqDs : List D → List D → Bool
  | [], [] => true
  | d :: ds, e :: es => eqD d e && eqDs ds es
  | _, _ => false
end
mutual
def depth : D → Nat
  | .tup ds => depthL ds + 1
  | .lst ds => depthL ds + 1
  | .dct _ => 100
  | .exc _ _ => 100
  | .scr _ => 100
  | _ => 0
def depthL : List D → Nat
  | [] => 0
  | d :: ds => max (depth d) (depthL ds)
end
/-- no dict, no error in it -/
def flat (d : D) : Bool := decide (depth d ≤ 64)

def line : Nat := 16777216

/-- a place, from either end -/
def atZ {α : Type} (xs : List α) (i : Int) : Option α :=
  if 0 ≤ i then xs[i.toNat]? else if -(xs.length : Int) ≤ i then xs[(i + xs.length).toNat]? else none
def placeZ (n : Nat) (i : Int) : Option Nat :=
  if 0 ≤ i then (if i < n then some i.toNat else none) else if -(n : Int) ≤ i then some (i + n).toNat else none
/-- a slice's end -/
def cutZ (n d : Nat) : Option Int → Nat
  | none => d
  | some v => if v < 0 then (max (v + n) 0).toNat else min v.toNat n
def slice {α : Type} (xs : List α) (lo hi : Option Int) : List α :=
  (xs.drop (cutZ xs.length 0 lo)).take (cutZ xs.length xs.length hi - cutZ xs.length 0 lo)

def mulOk (i j : Int) : Prop := i.natAbs.log2 + j.natAbs.log2 < 1000000
def divOk (j : Int) : Prop := j ≠ 0 ∧ j.natAbs.log2 < 9000
def powOk (i j : Int) : Prop := 0 ≤ j ∧ j ≤ 1000000 ∧ i.natAbs < 2 ^ 64
instance (i j : Int) : Decidable (mulOk i j) := by unfold mulOk; infer_instance
instance (j : Int) : Decidable (divOk j) := by unfold divOk; infer_instance
instance (i j : Int) : Decidable (powOk i j) := by unfold powOk; infer_instance

def binD : Bop → D → D → Option AV
  | .add, .int i, .int j => some (.fz (.int (i + j)))
  | .sub, .int i, .int j => some (.fz (.int (i - j)))
  | .mul, .int i, .int j => if mulOk i j then some (.fz (.int (i * j))) else none
  | .div, .int i, .int j => if divOk j then some (.fz (.int (i.fdiv j))) else none
  | .mod, .int i, .int j => if j ≠ 0 then some (.fz (.int (i.fmod j))) else none
  | .pow, .int i, .int j => if powOk i j then some (.fz (.int (i ^ j.toNat))) else none
  | .add, .str s, .str t => if s.length + t.length ≤ line then some (.fz (.str (s ++ t))) else none
  | .add, .lst a, .lst b => if a.length + b.length ≤ line then some (.ol (a ++ b)) else none
  | .add, .tup a, .tup b => if a.length + b.length ≤ line then some (.fz (.tup (a ++ b))) else none
  | .mul, .str s, .int n => if 0 ≤ n ∧ n ≤ 1000 ∧ s.length ≤ 1000 then some (.fz (.str (List.replicate n.toNat s).flatten)) else none
  | _, _, _ => none

def cmpD : Cop → D → D → Option Bool
  | .eq, a, b => if depth a ≤ 64 ∧ depth b ≤ 64 then some (eqD a b) else none
  | .ne, a, b => if depth a ≤ 64 ∧ depth b ≤ 64 then some (!eqD a b) else none
  | .lt, .int i, .int j => some (decide (i < j))
  | .le, .int i, .int j => some (decide (i ≤ j))
  | .gt, .int i, .int j => some (decide (j < i))
  | .ge, .int i, .int j => some (decide (j ≤ i))
  | .isIn, a, .lst ds => if depth a ≤ 63 ∧ depthL ds ≤ 63 then some (ds.any fun d => eqD d a) else none
  | .notIn, a, .lst ds => if depth a ≤ 63 ∧ depthL ds ≤ 63 then some (!ds.any fun d => eqD d a) else none
  | .isIn, a, .tup ds => if depth a = 0 ∧ depthL ds = 0 then some (ds.any fun d => eqD d a) else none
  | .notIn, a, .tup ds => if depth a = 0 ∧ depthL ds = 0 then some (!ds.any fun d => eqD d a) else none
  | .isIn, .str [c], .str t => some (decide (c ∈ t))
  | .notIn, .str [c], .str t => some (!decide (c ∈ t))
  | .isN, a, .non => some (match a with | .non => true | _ => false)
  | .notN, a, .non => some (match a with | .non => false | _ => true)
  | .isN, .bl a, .bl b => some (decide (a = b))
  | .notN, .bl a, .bl b => some (!decide (a = b))
  | _, _, _ => none

/-- texts in order -/
def leS : List Nat → List Nat → Bool
  | [], _ => true
  | _ :: _, [] => false
  | a :: s, b :: t => if a < b then true else if b < a then false else leS s t
def insS (x : List Nat) : List (List Nat) → List (List Nat)
  | [] => [x]
  | y :: ys => if leS x y then x :: y :: ys else y :: insS x ys
def sortS : List (List Nat) → List (List Nat)
  | [] => []
  | x :: xs => insS x (sortS xs)
def strsOf : List D → Option (List (List Nat))
  | [] => some []
  | .str s :: ds => (strsOf ds).map (s :: ·)
  | _ => none
def intsOf : List D → Option (List Int)
  | [] => some []
  | .int i :: ds => (intsOf ds).map (i :: ·)
  | _ => none
def blsOf : List D → Option (List Bool)
  | [] => some []
  | .bl i :: ds => (blsOf ds).map (i :: ·)
  | _ => none
def leI : List Int → List Int → Bool
  | [], _ => true
  | _ :: _, [] => false
  | a :: s, b :: t => if a < b then true else if b < a then false else leI s t
def insI (x : List Int) : List (List Int) → List (List Int)
  | [] => [x]
  | y :: ys => if leI x y then x :: y :: ys else y :: insI x ys
def sortI : List (List Int) → List (List Int)
  | [] => []
  | x :: xs => insI x (sortI xs)
def intssOf : List D → Option (List (List Int))
  | [] => some []
  | .lst is :: ds => match intsOf is, intssOf ds with
    | some i, some r => some (i :: r)
    | _, _ => none
  | _ => none
def maxL : List Int → Option Int
  | [] => none
  | x :: xs => some (xs.foldl (fun a b => if a < b then b else a) x)
def minL : List Int → Option Int
  | [] => none
  | x :: xs => some (xs.foldl (fun a b => if b < a then b else a) x)

def bltD : Bf → List D → Option AV
  | .len, [.lst ds] => some (.fz (.int ds.length))
  | .len, [.scr ns] => some (.fz (.int ns.length))
  | .len, [.tup ds] => some (.fz (.int ds.length))
  | .len, [.str s] => if s.length ≤ line then some (.fz (.int s.length)) else none
  | .abs, [.int i] => some (.fz (.int (if i < 0 then -i else i)))
  | .max, [.int i, .int j] => some (.fz (.int (if j > i then j else i)))
  | .min, [.int i, .int j] => some (.fz (.int (if j < i then j else i)))
  | .max, [.lst ds] => (intsOf ds).bind fun is => (maxL is).map fun m => .fz (.int m)
  | .min, [.lst ds] => (intsOf ds).bind fun is => (minL is).map fun m => .fz (.int m)
  | .list, [.lst ds] => some (.ol ds)
  | .list, [.tup ds] => some (.ol ds)
  | .tuple, [.lst ds] => some (.fz (.tup ds))
  | .tuple, [.tup ds] => some (.fz (.tup ds))
  | .sorted, [.lst ds] => match strsOf ds with
    | some ss => if ss.length < 64 then some (.ol ((sortS ss).map .str)) else none
    | none => none
  | .int, [.bl b] => some (.fz (.int (if b then 1 else 0)))
  | .int, [.int i] => some (.fz (.int i))
  | .all, [.lst ds] => (blsOf ds).map fun bs => .fz (.bl (bs.all id))
  | .lrange, [.int n] => if 0 ≤ n ∧ n ≤ 1000 then some (.ol ((List.range n.toNat).map fun (k : Nat) => D.int (k : Int))) else none
  | _, _ => none

/-- the classes that stand above a class -/
abbrev Hier := Nat → Nat → Bool

def isiD (above : Hier) : Kd → D → Option Bool
  | .exc cs, .exc c _ => some (cs.any (above c))
  | .exc _, _ => some false
  | .int, .int _ => some true
  | .int, .bl _ => some true
  | .int, .exc _ _ => none
  | .int, _ => some false
  | .bool, .bl _ => some true
  | .bool, .exc _ _ => none
  | .bool, _ => some false
  | .tuple, .tup _ => some true
  | .tuple, .exc _ _ => none
  | .tuple, _ => some false
  | .list, .lst _ => some true
  | .list, .scr _ => some true
  | .list, .exc _ _ => none
  | .list, _ => some false
  | .str, .str _ => some true
  | .str, .exc _ _ => none
  | .str, _ => some false

/-! ### slots and places -/
def get (ρ : Ev) (i : Nat) : Option AV := match ρ[i]? with
  | some o => o
  | none => none
def nav : List Nat → AV → Option AV
  | [], a => some a
  | k :: p, .ot xs => (xs[k]?).bind (nav p)
  | _ :: _, _ => none
def put : List Nat → AV → AV → Option AV
  | [], _, b => some b
  | k :: p, .ot xs, b => (xs[k]?).bind fun a => (put p a b).map fun c => .ot (xs.set k c)
  | _ :: _, _, _ => none

def look (ρ : Ev) : PV → Option AV
  | .av a => some a
  | .pl i p => (get ρ i).bind (nav p)
def peek (ρ : Ev) (v : PV) : Option D := (look ρ v).map AV.erase
/-- it may be shared from now on -/
def frz (ρ : Ev) : PV → Option (D × Ev)
  | .av a => some (a.erase, ρ)
  | .pl i p => (get ρ i).bind fun a => (nav p a).map fun b => (b.erase, ρ.set i (some (.fz a.erase)))
/-- to be read whole: what lies in it is shared -/
def shl (ρ : Ev) (v : PV) : Option (D × Ev) := match look ρ v with
  | some (.fz d) => some (d, ρ)
  | some (.ol ds) => some (.lst ds, ρ)
  | some _ => frz ρ v
  | none => none
def frzL (ρ : Ev) : List PV → Option (List D × Ev)
  | [] => some ([], ρ)
  | v :: vs => (frzL ρ vs).bind fun (ds, ρ1) => (frz ρ1 v).map fun (d, ρ2) => (d :: ds, ρ2)
def peekL (ρ : Ev) : List PV → Option (List D)
  | [] => some []
  | v :: vs => (peek ρ v).bind fun d => (peekL ρ vs).map (d :: ·)
/-- writes a place -/
def wrt (ρ : Ev) : PV → AV → Option Ev
  | .av _, _ => none
  | .pl i p, b => (get ρ i).bind fun a => (put p a b).map fun c => ρ.set i (some c)

mutual
/-- no list, no dict, no error in it -/
def thinD : D → Bool
  | .tup ds => thinL ds
  | .lst _ => false
  | .dct _ => false
  | .exc _ _ => false
  | .scr _ => false
  | _ => true
def thinL : List D → Bool
  | [] => true
  | d :: ds => thinD d && thinL ds
end
def thin : AV → Bool
  | .fz d => thinD d
  | _ => false

mutual
def asg : Tg → D → Ev → Option Ev
  | .nm i, d, ρ => some (ρ.set i (some (.fz d)))
  | .tp ts, .tup ds, ρ => asgL ts ds ρ
  | .tp ts, .lst ds, ρ => asgL ts ds ρ
  | .tp _, _, _ => none
def asgL : List Tg → List D → Ev → Option Ev
  | [], [], ρ => some ρ
  | t :: ts, d :: ds, ρ => (asg t d ρ).bind (asgL ts ds)
  | _, _, _ => none
end

def wipe (ρ : Ev) : List Nat → Ev
  | [] => ρ
  | i :: is => (wipe ρ is).set i none
/-- the slots that are not shared are put aside -/
def aside (ρ : Ev) : Ev := ρ.map fun o => match o with
  | some (.fz d) => some (.fz d)
  | _ => none

/-! ### loops -/
def loopL (f : D → Ev → R Out) : List D → Ev → R Out
  | [], ρ => .ok (.nx ρ)
  | d :: ds, ρ => match f d ρ with
    | .ok (.nx ρ') => loopL f ds ρ'
    | .ok (.rt a) => .ok (.rt a)
    | .er x ρ' => .er x ρ'
    | .no => .no
def whileL (c : Ev → R (Bool × Ev)) (f : Ev → R Out) : Nat → Ev → R Out
  | 0, _ => .no
  | n + 1, ρ => match c ρ with
    | .ok (true, ρ1) => match f ρ1 with
      | .ok (.nx ρ2) => whileL c f n ρ2
      | .ok (.rt a) => .ok (.rt a)
      | .er x ρ' => .er x ρ'
      | .no => .no
    | .ok (false, ρ1) => .ok (.nx ρ1)
    | .er x ρ' => .er x ρ'
    | .no => .no
/-- an element of a comprehension: left out, or there -/
def compL (f : D → Option (Option D)) : List D → Option (List D)
  | [] => some []
  | d :: ds => match f d with
    | some (some y) => (compL f ds).map (y :: ·)
    | some none => compL f ds
    | none => none

def rangeD (lo : Int) (n : Nat) : List D := (List.range n).map fun (k : Nat) => D.int (lo + k)
def rangeC (lo c : Int) (n : Nat) : List D := (List.range n).map fun (k : Nat) => D.int (lo + k * c)
def small62 (i : Int) : Prop := -(2 ^ 62) ≤ i ∧ i < 2 ^ 62
instance (i : Int) : Decidable (small62 i) := by unfold small62; infer_instance
def zipD : List D → List D → Option (List D)
  | [], [] => some []
  | a :: as, b :: bs => (zipD as bs).map (.tup [a, b] :: ·)
  | _, _ => none
def enumD : Nat → List D → List D
  | _, [] => []
  | k, d :: ds => .tup [.int k, d] :: enumD (k + 1) ds

/-! ### captured names -/
mutual
def E.vars : E → List Nat
  | .var i => [i]
  | .tup es => varsL es
  | .lst es => varsL es
  | .bin _ a b => a.vars ++ b.vars
  | .neg a => a.vars
  | .not a => a.vars
  | .and a b => a.vars ++ b.vars
  | .or a b => a.vars ++ b.vars
  | .cmp _ a b => a.vars ++ b.vars
  | .chn _ _ a b c => a.vars ++ (b.vars ++ c.vars)
  | .ix a b => a.vars ++ b.vars
  | .sl a lo hi => a.vars ++ (varsO lo ++ varsO hi)
  | .rev a => a.vars
  | .call _ es => varsL es
  | .blt _ es => varsL es
  | .isi a _ => a.vars
  | .cmpr _ _ it ifs e => it.vars ++ (varsL ifs ++ e.vars)
  | .pop a i => a.vars ++ varsO i
  | .index a b => a.vars ++ b.vars
  | .fld a _ => a.vars
  | _ => []
def varsL : List E → List Nat
  | [] => []
  | e :: es => e.vars ++ varsL es
def varsO : Option E → List Nat
  | none => []
  | some e => e.vars
def It.vars : It → List Nat
  | .seq e => e.vars
  | .rng1 a => a.vars
  | .rng2 a b => a.vars ++ b.vars
  | .rng3 a b c => a.vars ++ (b.vars ++ c.vars)
  | .zip a b => a.vars ++ b.vars
  | .enum a => a.vars
end
def frzS (ρ : Ev) : List Nat → Ev
  | [] => ρ
  | i :: is => match get ρ i with
    | some a => frzS (ρ.set i (some (.fz a.erase))) is
    | none => frzS ρ is

/-! ### what is computed -/
section
variable (C : Nat → List D → R AV) (G : Nat → Option D) (above : Hier)

def bndP (r : R (PV × Ev)) (f : PV → Ev → R (PV × Ev)) : R (PV × Ev) := match r with
  | .ok (v, ρ) => f v ρ
  | .er x ρ => .er x ρ
  | .no => .no
/-- a value of its own -/
def own (o : Option AV) (ρ : Ev) : R (PV × Ev) := match o with
  | some a => .ok (.av a, ρ)
  | none => .no
def lift {α : Type} (o : Option α) (f : α → R (PV × Ev)) : R (PV × Ev) := match o with
  | some a => f a
  | none => .no
def blOf (o : Option D) : Option Bool := match o with
  | some (.bl b) => some b
  | _ => none
def lstOf (o : Option D) : Option (List D) := match o with
  | some (.lst ds) => some ds
  | _ => none
def intOf (o : Option D) : Option Int := match o with
  | some (.int b) => some b
  | _ => none

/-- x[i] -/
def ixP (ρ : Ev) (v : PV) (i : Int) : Option PV := match look ρ v with
  | some (.fz (.tup ds)) => (atZ ds i).map fun d => .av (.fz d)
  | some (.fz (.lst ds)) => (atZ ds i).map fun d => .av (.fz d)
  | some (.fz (.scr ns)) => (atZ ns i).map fun n => .av (.fz (.int n))
  | some (.fz (.dct kvs)) => (kvs.find? fun kv => decide (kv.1 = i)).map fun kv => .av (.fz kv.2)
  | some (.fz (.str s)) => if s.length ≤ line then (atZ s i).map fun c => .av (.fz (.str [c])) else none
  | some (.ol ds) => (atZ ds i).map fun d => .av (.fz d)
  | some (.ot xs) => (placeZ xs.length i).bind fun k => (xs[k]?).bind fun a => match a, v with
    | .fz d, _ => some (.av (.fz d))
    | a, .av _ => some (.av a)
    | _, .pl j p => some (.pl j (p ++ [k]))
  | some (.od kvs) => (kvs.find? fun kv => decide (kv.1 = i)).bind fun kv => match kv.2 with
    | .fz d => some (.av (.fz d))
    | _ => none
  | _ => none

/-- a call: what it gets stays the caller's where nothing of it can be handed back -/
def callP (ρ : Ev) (f : Nat) (vs : List PV) : R (PV × Ev) := match peekL ρ vs with
  | none => .no
  | some ds => match C f ds with
    | .ok a => if thin a then .ok (.av a, ρ) else match frzL ρ vs with
      | some (_, ρ') => .ok (.av a, ρ')
      | none => .no
    | .er x _ => .er x ρ
    | .no => .no

mutual
def ev : E → Ev → R (PV × Ev)
  | .var i, ρ => match get ρ i with
    | some (.fz d) => .ok (.av (.fz d), ρ)
    | some _ => .ok (.pl i [], ρ)
    | none => .no
  | .glb i, ρ => own ((G i).map .fz) ρ
  | .non, ρ => .ok (.av (.fz .non), ρ)
  | .bl b, ρ => .ok (.av (.fz (.bl b)), ρ)
  | .int i, ρ => .ok (.av (.fz (.int i)), ρ)
  | .str s, ρ => .ok (.av (.fz (.str s)), ρ)
  | .dct0, ρ => .ok (.av (.od []), ρ)
  | .tup es, ρ => match evF es ρ with
    | .ok (ds, ρ1) => if ds.length ≤ line then .ok (.av (.fz (.tup ds)), ρ1) else .no
    | .er x ρ' => .er x ρ'
    | .no => .no
  | .lst es, ρ => match evF es ρ with
    | .ok (ds, ρ1) => if ds.length ≤ line then .ok (.av (.ol ds), ρ1) else .no
    | .er x ρ' => .er x ρ'
    | .no => .no
  | .bin o a b, ρ => bndP (ev a ρ) fun v ρ1 => bndP (ev b ρ1) fun w ρ2 =>
      lift (shl ρ2 w) fun (e, ρ3) => lift (shl ρ3 v) fun (d, ρ4) => own (binD o d e) ρ4
  | .neg a, ρ => bndP (ev a ρ) fun v ρ1 => lift (intOf (peek ρ1 v)) fun i => own (some (.fz (.int (-i)))) ρ1
  | .not a, ρ => bndP (ev a ρ) fun v ρ1 => lift (blOf (peek ρ1 v)) fun b => own (some (.fz (.bl (!b)))) ρ1
  | .and a b, ρ => bndP (ev a ρ) fun v ρ1 => lift (blOf (peek ρ1 v)) fun k =>
      if k then bndP (ev b ρ1) fun w ρ2 => lift (blOf (peek ρ2 w)) fun k => own (some (.fz (.bl k))) ρ2 else own (some (.fz (.bl false))) ρ1
  | .or a b, ρ => bndP (ev a ρ) fun v ρ1 => lift (blOf (peek ρ1 v)) fun k =>
      if k then own (some (.fz (.bl true))) ρ1 else bndP (ev b ρ1) fun w ρ2 => lift (blOf (peek ρ2 w)) fun k => own (some (.fz (.bl k))) ρ2
  | .cmp o a b, ρ => bndP (ev a ρ) fun v ρ1 => bndP (ev b ρ1) fun w ρ2 =>
      lift (peek ρ2 v) fun d => lift (peek ρ2 w) fun e => own ((cmpD o d e).map fun b => .fz (.bl b)) ρ2
  | .chn o p a b c, ρ => bndP (ev a ρ) fun v ρ1 => bndP (ev b ρ1) fun w ρ2 =>
      lift (peek ρ2 v) fun d => lift (intOf (peek ρ2 w)) fun e => lift (cmpD o d (.int e)) fun k =>
        if k then bndP (ev c ρ2) fun u ρ3 => lift (peek ρ3 u) fun g => own ((cmpD p (.int e) g).map fun b => .fz (.bl b)) ρ3
        else own (some (.fz (.bl false))) ρ2
  | .ix a b, ρ => bndP (ev a ρ) fun v ρ1 => bndP (ev b ρ1) fun w ρ2 =>
      lift (intOf (peek ρ2 w)) fun i => match ixP ρ2 v i with
        | some u => .ok (u, ρ2)
        | none => .no
  | .sl a lo hi, ρ => bndP (ev a ρ) fun v ρ1 => match evO lo ρ1 with
    | .ok (l, ρ2) => match evO hi ρ2 with
      | .ok (h, ρ3) => lift (shl ρ3 v) fun (d, ρ4) => match d with
        | .lst ds => own (some (.ol (slice ds l h))) ρ4
        | .tup ds => own (some (.fz (.tup (slice ds l h)))) ρ4
        | _ => .no
      | .er x ρ' => .er x ρ'
      | .no => .no
    | .er x ρ' => .er x ρ'
    | .no => .no
  | .rev a, ρ => bndP (ev a ρ) fun v ρ1 => lift (shl ρ1 v) fun (d, ρ2) => match d with
    | .lst ds => own (some (.ol ds.reverse)) ρ2
    | _ => .no
  | .call f es, ρ => match evA es ρ with
    | .ok (vs, ρ1) => callP C ρ1 f vs
    | .er x ρ' => .er x ρ'
    | .no => .no
  | .blt f es, ρ => match evA es ρ with
    | .ok (vs, ρ1) => match vs with
      | [v] => lift (match f with | .len => (peek ρ1 v).map fun d => (d, ρ1) | _ => shl ρ1 v) fun (d, ρ2) => own (bltD f [d]) ρ2
      | [v, w] => lift (peek ρ1 v) fun d => lift (peek ρ1 w) fun e => own (bltD f [d, e]) ρ1
      | _ => .no
    | .er x ρ' => .er x ρ'
    | .no => .no
  | .isi a k, ρ => bndP (ev a ρ) fun v ρ1 => lift (peek ρ1 v) fun d => own ((isiD above k d).map fun b => .fz (.bl b)) ρ1
  | .cmpr ow t it ifs e, ρ => match evI it ρ with
    | .ok (ds, ρ1) =>
      let ρ2 := frzS ρ1 ((varsL ifs ++ e.vars).filter fun i => !ow.contains i)
      let ρ3 := wipe (aside ρ2) ow
      match compL (fun d => (asg t d ρ3).bind fun ρ4 => match evT ifs ρ4 with
        | .ok (true, ρ5) => match ev e ρ5 with
          | .ok (v, ρ6) => (frz ρ6 v).map fun r => some r.1
          | _ => none
        | .ok (false, _) => some none
        | _ => none) ds with
      | some ys => if ys.length ≤ line then .ok (.av (.ol ys), ρ2) else .no
      | none => .no
    | .er x ρ' => .er x ρ'
    | .no => .no
  | .pop a none, ρ => bndP (ev a ρ) fun v ρ1 => match look ρ1 v with
    | some (.ol ds) => match ds[ds.length - 1]? with
      | some y => match wrt ρ1 v (.ol ds.dropLast) with
        | some ρ2 => .ok (.av (.fz y), ρ2)
        | none => .no
      | none => .no
    | _ => .no
  | .pop a (some i), ρ => bndP (ev a ρ) fun v ρ1 => lift (lstOf (peek ρ1 v)) fun _ => bndP (ev i ρ1) fun w ρ2 => lift (intOf (peek ρ2 w)) fun i => match look ρ2 v with
    | some (.ol ds) => if small62 i then lift (placeZ ds.length i) fun k => lift (ds[k]?) fun y => lift (wrt ρ2 v (.ol (ds.eraseIdx k))) fun ρ3 => .ok (.av (.fz y), ρ3) else .no
    | _ => .no
  | .index a b, ρ => bndP (ev a ρ) fun v ρ1 => lift (lstOf (peek ρ1 v)) fun _ => bndP (ev b ρ1) fun w ρ2 =>
      lift (peek ρ2 v) fun d => lift (peek ρ2 w) fun e => match d with
        | .lst ds => if depth e ≤ 60 ∧ depthL ds ≤ 60 then (match ds.findIdx? fun z => eqD z e with
          | some k => own (some (.fz (.int k))) ρ2
          | none => .no) else .no
        | _ => .no
  | .fld a f, ρ => bndP (ev a ρ) fun v ρ1 => lift (peek ρ1 v) fun d => match d with
    | .exc _ fs => own ((fs[0]?).map .fz) ρ1
    | _ => .no
/-- shared data of all -/
def evF : List E → Ev → R (List D × Ev)
  | [], ρ => .ok ([], ρ)
  | e :: es, ρ => match ev e ρ with
    | .ok (v, ρ1) => match frz ρ1 v with
      | some (d, ρ2) => match evF es ρ2 with
        | .ok (ds, ρ3) => .ok (d :: ds, ρ3)
        | .er x ρ' => .er x ρ'
        | .no => .no
      | none => .no
    | .er x ρ' => .er x ρ'
    | .no => .no
def evA : List E → Ev → R (List PV × Ev)
  | [], ρ => .ok ([], ρ)
  | e :: es, ρ => match ev e ρ with
    | .ok (v, ρ1) => match evA es ρ1 with
      | .ok (vs, ρ2) => .ok (v :: vs, ρ2)
      | .er x ρ' => .er x ρ'
      | .no => .no
    | .er x ρ' => .er x ρ'
    | .no => .no
def evO : Option E → Ev → R (Option Int × Ev)
  | none, ρ => .ok (none, ρ)
  | some e, ρ => match ev e ρ with
    | .ok (v, ρ1) => match intOf (peek ρ1 v) with
      | some i => .ok (some i, ρ1)
      | none => .no
    | .er x ρ' => .er x ρ'
    | .no => .no
/-- a clause's tests: none or one -/
def evT : List E → Ev → R (Bool × Ev)
  | [], ρ => .ok (true, ρ)
  | e :: _, ρ => match ev e ρ with
    | .ok (v, ρ1) => match blOf (peek ρ1 v) with
      | some b => .ok (b, ρ1)
      | none => .no
    | .er x ρ' => .er x ρ'
    | .no => .no
def evI : It → Ev → R (List D × Ev)
  | .seq e, ρ => match ev e ρ with
    | .ok (v, ρ1) => match frz ρ1 v with
      | some (.lst ds, ρ2) => .ok (ds, ρ2)
      | some (.tup ds, ρ2) => .ok (ds, ρ2)
      | some (.str s, ρ2) => .ok (s.map fun c => .str [c], ρ2)
      | _ => .no
    | .er x ρ' => .er x ρ'
    | .no => .no
  | .rng1 a, ρ => match ev a ρ with
    | .ok (v, ρ1) => match intOf (peek ρ1 v) with
      | some i => if small62 i then .ok (rangeD 0 i.toNat, ρ1) else .no
      | none => .no
    | .er x ρ' => .er x ρ'
    | .no => .no
  | .rng2 a b, ρ => match ev a ρ with
    | .ok (v, ρ1) => match ev b ρ1 with
      | .ok (w, ρ2) => match intOf (peek ρ2 v), intOf (peek ρ2 w) with
        | some i, some j => if small62 i ∧ small62 j then .ok (rangeD i (j - i).toNat, ρ2) else .no
        | _, _ => .no
      | .er x ρ' => .er x ρ'
      | .no => .no
    | .er x ρ' => .er x ρ'
    | .no => .no
  | .rng3 a b c, ρ => match ev a ρ with
    | .ok (v, ρ1) => match ev b ρ1 with
      | .ok (w, ρ2) => match ev c ρ2 with
        | .ok (u, ρ3) => match intOf (peek ρ3 v), intOf (peek ρ3 w), intOf (peek ρ3 u) with
          | some i, some j, some (-1) => if small62 i ∧ small62 j then .ok (rangeC i (-1) (i - j).toNat, ρ3) else .no
          | _, _, _ => .no
        | .er x ρ' => .er x ρ'
        | .no => .no
      | .er x ρ' => .er x ρ'
      | .no => .no
    | .er x ρ' => .er x ρ'
    | .no => .no
  | .zip a b, ρ => match ev a ρ with
    | .ok (v, ρ1) => match ev b ρ1 with
      | .ok (w, ρ2) => match frz ρ2 w with
        | some (e, ρ3) => match frz ρ3 v with
          | some (d, ρ4) => match d, e with
            | .lst ds, .lst es => match zipD ds es with
              | some zs => .ok (zs, ρ4)
              | none => .no
            | .tup ds, .tup es => match zipD ds es with
              | some zs => .ok (zs, ρ4)
              | none => .no
            | _, _ => .no
          | none => .no
        | none => .no
      | .er x ρ' => .er x ρ'
      | .no => .no
    | .er x ρ' => .er x ρ'
    | .no => .no
  | .enum a, ρ => match ev a ρ with
    | .ok (v, ρ1) => match frz ρ1 v with
      | some (.lst ds, ρ2) => .ok (enumD 0 ds, ρ2)
      | _ => .no
    | .er x ρ' => .er x ρ'
    | .no => .no
end

mutual
/-- what is handed back keeps what was its own -/
def evM : E → Ev → R (AV × Ev)
  | .var i, ρ => match get ρ i with
    | some (.fz d) => .ok (.fz d, ρ)
    | some a => .ok (a, ρ.set i none)
    | none => .no
  | .tup es, ρ => match evML es ρ with
    | .ok (xs, ρ1) => if xs.length ≤ line then .ok (if xs.all (fun x => match x with | .fz _ => true | _ => false) then .fz (.tup (eraseL xs)) else .ot xs, ρ1) else .no
    | .er x ρ' => .er x ρ'
    | .no => match ev C G above (.tup es) ρ with
      | .ok (.av a, ρ1) => .ok (a, ρ1)
      | _ => .no
  | e, ρ => match ev C G above e ρ with
    | .ok (.av a, ρ1) => .ok (a, ρ1)
    | .ok (v, ρ1) => match frz ρ1 v with
      | some (d, ρ2) => .ok (.fz d, ρ2)
      | none => .no
    | .er x ρ' => .er x ρ'
    | .no => .no
def evML : List E → Ev → R (List AV × Ev)
  | [], ρ => .ok ([], ρ)
  | e :: es, ρ => match evM e ρ with
    | .ok (a, ρ1) => match evML es ρ1 with
      | .ok (as, ρ2) => .ok (a :: as, ρ2)
      | .er x ρ' => .er x ρ'
      | .no => .no
    | .er x ρ' => .er x ρ'
    | .no => .no
end
def evB (c : E) (ρ : Ev) : R (Bool × Ev) := match ev C G above c ρ with
  | .ok (v, ρ1) => match blOf (peek ρ1 v) with
    | some b => .ok (b, ρ1)
    | none => .no
  | .er x ρ' => .er x ρ'
  | .no => .no
def bndS (r : R (PV × Ev)) (f : PV → Ev → R Out) : R Out := match r with
  | .ok (v, ρ) => f v ρ
  | .er x ρ => .er x ρ
  | .no => .no
def liftS {α : Type} (o : Option α) (f : α → R Out) : R Out := match o with
  | some a => f a
  | none => .no

def putKV (k : Int) (a : AV) : List (Int × AV) → List (Int × AV)
  | [] => [(k, a)]
  | (j, b) :: r => if j = k then (j, a) :: r else (j, b) :: putKV k a r

mutual
def ex : S → Ev → R Out
  | .set (.nm i) e, ρ => bndS (ev C G above e ρ) fun v ρ1 => match v with
      | .av a => .ok (.nx (ρ1.set i (some a)))
      | v => liftS (frz ρ1 v) fun (d, ρ2) => .ok (.nx (ρ2.set i (some (.fz d))))
  | .set t e, ρ => bndS (ev C G above e ρ) fun v ρ1 => liftS (frz ρ1 v) fun (d, ρ2) => liftS (asg t d ρ2) fun ρ3 => .ok (.nx ρ3)
  | .par i j a b, ρ => match evF C G above [a, b] ρ with
    | .ok ([d, e], ρ1) => .ok (.nx ((ρ1.set i (some (.fz d))).set j (some (.fz e))))
    | .ok _ => .no
    | .er x ρ' => .er x ρ'
    | .no => .no
  | .setIx x k e, ρ => bndS (ev C G above e ρ) fun v ρ1 => bndS (ev C G above x ρ1) fun u ρ2 => bndS (ev C G above k ρ2) fun w ρ3 =>
      liftS (intOf (peek ρ3 w)) fun i => liftS (frz ρ3 v) fun (d, ρ4) => match look ρ4 u with
        | some (.ol ds) => liftS (placeZ ds.length i) fun n => liftS (wrt ρ4 u (.ol (ds.set n d))) fun ρ5 => .ok (.nx ρ5)
        | _ => .no
  | .setKy x k e, ρ => bndS (ev C G above e ρ) fun v ρ1 => bndS (ev C G above x ρ1) fun u ρ2 => bndS (ev C G above k ρ2) fun w ρ3 =>
      liftS (intOf (peek ρ3 w)) fun i => match look ρ3 u with
      | some (.od kvs) => match v with
        | .av a => if kvs.length < 1000 then liftS (wrt ρ3 u (.od (putKV i a kvs))) fun ρ4 => .ok (.nx ρ4) else .no
        | _ => .no
      | _ => .no
  | .app x e, ρ => bndS (ev C G above x ρ) fun u ρ1 => liftS (lstOf (peek ρ1 u)) fun _ => bndS (ev C G above e ρ1) fun v ρ2 => liftS (frz ρ2 v) fun (d, ρ3) => match look ρ3 u with
      | some (.ol ds) => if ds.length < line then liftS (wrt ρ3 u (.ol (ds ++ [d]))) fun ρ4 => .ok (.nx ρ4) else .no
      | _ => .no
  | .appK x k (.var j), ρ => bndS (ev C G above x ρ) fun u ρ1 => bndS (ev C G above k ρ1) fun w ρ2 => match intOf (peek ρ2 w), get ρ2 j, look ρ2 u with
        | some i, some (.fz d), some (.od kvs) => match kvs.find? fun kv => decide (kv.1 = i) with
          | some (_, .ol ds) => if ds.length < line then liftS (wrt ρ2 u (.od (putKV i (.ol (ds ++ [d])) kvs))) fun ρ4 => .ok (.nx ρ4) else .no
          | _ => .no
        | _, _, _ => .no
  | .appK _ _ _, _ => .no
  | .ext x e, ρ => bndS (ev C G above x ρ) fun u ρ1 => liftS (lstOf (peek ρ1 u)) fun _ => bndS (ev C G above e ρ1) fun v ρ2 => liftS (shl ρ2 v) fun (d, ρ3) => liftS (lstOf (some d)) fun es => match look ρ3 u with
      | some (.ol ds) => if ds.length + es.length ≤ line then liftS (wrt ρ3 u (.ol (ds ++ es))) fun ρ4 => .ok (.nx ρ4) else .no
      | _ => .no
  | .clr x, ρ => bndS (ev C G above x ρ) fun u ρ1 => match look ρ1 u with
      | some (.ol _) => liftS (wrt ρ1 u (.ol [])) fun ρ2 => .ok (.nx ρ2)
      | _ => .no
  | .drop e, ρ => bndS (ev C G above e ρ) fun _ ρ1 => .ok (.nx ρ1)
  | .ret e, ρ => match evM C G above e ρ with
    | .ok (a, _) => .ok (.rt a)
    | .er x ρ' => .er x ρ'
    | .no => .no
  | .ite c a b, ρ => match evB C G above c ρ with
    | .ok (true, ρ1) => exs a ρ1
    | .ok (false, ρ1) => exs b ρ1
    | .er x ρ' => .er x ρ'
    | .no => .no
  | .loop t it body, ρ => match evI C G above it ρ with
    | .ok (ds, ρ1) => loopL (fun d ρ => match asg t d ρ with
      | some ρ' => exs body ρ'
      | none => .no) ds ρ1
    | .er x ρ' => .er x ρ'
    | .no => .no
  | .whl m c body, ρ => match get ρ m with
    | some (.fz (.int k)) => whileL (evB C G above c) (exs body) (k.natAbs + 1) ρ
    | _ => .no
  | .raise c es, ρ => match evF C G above es ρ with
    | .ok (ds, ρ1) => .er ⟨c, ds⟩ ρ1
    | .er x ρ' => .er x ρ'
    | .no => .no
  | .tryX body cs n suite, ρ => match exs body ρ with
    | .er x ρ' => if cs.any (above x.cls) then (match n with
      | none => exs suite ρ'
      | some i => match exs suite (ρ'.set i (some (.fz (.exc x.cls x.arg)))) with
        | .ok (.nx ρ2) => .ok (.nx (ρ2.set i none))
        | r => r) else .er x ρ'
    | r => r
  | .pass, ρ => .ok (.nx ρ)
def exs : List S → Ev → R Out
  | [], ρ => .ok (.nx ρ)
  | s :: ss, ρ => match ex s ρ with
    | .ok (.nx ρ1) => exs ss ρ1
    | r => r
end

/-- a def: its slots, its body -/
def run (n : Nat) (body : List S) (ds : List D) : R AV :=
  match exs C G above body (ds.map (fun d => some (.fz d)) ++ List.replicate (n - ds.length) none) with
  | .ok (.nx _) => .ok (.fz .non)
  | .ok (.rt a) => .ok a
  | .er x _ => .er x []
  | .no => .no
end
theorem insS_perm (x : List Nat) : ∀ ys, (insS x ys).Perm (x :: ys)
  | [] => .refl _
  | y :: ys => by
    unfold insS
    split
    · exact .refl _
    · exact ((insS_perm x ys).cons y).trans (.swap x y ys)
theorem sortS_perm : ∀ xs, (sortS xs).Perm xs
  | [] => .refl _
  | x :: xs => (insS_perm x _).trans ((sortS_perm xs).cons x)
theorem leS_refl : ∀ s, leS s s = true
  | [] => rfl
  | a :: s => by unfold leS; simp [leS_refl s]
theorem leS_total : ∀ s t, leS s t = true ∨ leS t s = true
  | [], _ => .inl rfl
  | _ :: _, [] => .inr rfl
  | a :: s, b :: t => by
    unfold leS
    rcases leS_total s t with h | h <;> by_cases h1 : a < b <;> by_cases h2 : b < a <;> simp [h, h1, h2]
theorem leS_trans : ∀ s t u, leS s t = true → leS t u = true → leS s u = true
  | [], _, _, _, _ => rfl
  | _ :: _, [], _, h, _ => by cases h
  | _ :: _, _ :: _, [], _, h => by cases h
  | a :: s, b :: t, c :: u, h, g => by
    unfold leS at h g ⊢
    have ih := leS_trans s t u
    by_cases h1 : a < b <;> by_cases h2 : b < a <;> by_cases h3 : b < c <;> by_cases h4 : c < b <;> by_cases h5 : a < c <;> by_cases h6 : c < a <;> simp_all <;> first | omega | skip
theorem leS_anti : ∀ s t, leS s t = true → leS t s = true → s = t
  | [], [], _, _ => rfl
  | [], _ :: _, _, h => by cases h
  | _ :: _, [], h, _ => by cases h
  | a :: s, b :: t, h, g => by
    unfold leS at h g
    have ih := leS_anti s t
    by_cases h1 : a < b <;> by_cases h2 : b < a <;> simp_all <;> omega
theorem insS_sorted (x : List Nat) : ∀ ys, ys.Pairwise (fun a b => leS a b = true) → (insS x ys).Pairwise (fun a b => leS a b = true)
  | [], _ => by simp [insS]
  | y :: ys, h => by
    unfold insS
    obtain ⟨h1, h2⟩ := List.pairwise_cons.mp h
    split
    · rename_i hc
      refine List.pairwise_cons.mpr ⟨fun z hz => ?_, h⟩
      rcases List.mem_cons.mp hz with rfl | hz
      · exact hc
      · exact leS_trans _ _ _ hc (h1 z hz)
    · rename_i hc
      refine List.pairwise_cons.mpr ⟨fun z hz => ?_, insS_sorted x ys h2⟩
      rcases List.mem_cons.mp ((insS_perm x ys).mem_iff.mp hz) with rfl | hz
      · rcases leS_total z y with q | q
        · exact absurd q hc
        · exact q
      · exact h1 z hz
theorem sortS_sorted : ∀ xs, (sortS xs).Pairwise (fun a b => leS a b = true)
  | [] => .nil
  | x :: xs => insS_sorted x _ (sortS_sorted xs)
end DY
set_option Elab.async false
set_option linter.all false
set_option maxRecDepth 100000
/-! All defs of a text together: what they compute. -/
namespace DY
open PySem
structure Df where
  ps : List Str
  N : List Str
  body : List S
/-- what the first n defs compute -/
def Cs (G : Nat → Option D) (above : Hier) (Ds : List Df) : Nat → Nat → List D → R AV
  | 0 => fun _ _ => .no
  | n + 1 => fun i ds => if i = n then (match Ds[n]? with
    | some d => run (Cs G above Ds n) G above d.N.length d.body ds
    | none => .no) else Cs G above Ds n i ds
section
variable {G : Nat → Option D} {above : Hier} {Ds : List Df}
theorem Cs_lt : ∀ {n i : Nat}, i < n → Cs G above Ds n i = Cs G above Ds (i + 1) i
  | 0, _, h => by omega
  | n + 1, i, h => by
    by_cases e : i = n
    · subst e; rfl
    · rw [← Cs_lt (n := n) (i := i) (by omega)]
      funext ds
      show (if i = n then _ else _) = _
      rw [if_neg e]
theorem Cs_at {n : Nat} {d : Df} (h : Ds[n]? = some d) : Cs G above Ds (n + 1) n = run (Cs G above Ds n) G above d.N.length d.body := by
  funext ds
  show (if n = n then _ else _) = _
  rw [if_pos rfl, h]
def Fn (G : Nat → Option D) (above : Hier) (Ds : List Df) (i : Nat) : List D → R AV := Cs G above Ds (i + 1) i
theorem Fn_at {n : Nat} {d : Df} (h : Ds[n]? = some d) : Fn G above Ds n = run (Cs G above Ds n) G above d.N.length d.body := Cs_at h
theorem Cs_Fn {i j : Nat} (h : j < i) : Cs G above Ds i j = Fn G above Ds j := Cs_lt h
end
end DY
set_option Elab.async false
set_option linter.all false
set_option maxRecDepth 100000
/-! What stands for data in the abstract heap. -/
namespace DY
open PySem L2

abbrev Fg := PySem.W.Frag
def keysOf {α : Type} (kvs : List (Int × α)) (xs : List V) : List (Key × V) := (kvs.map fun kv => (Sum.inl kv.1 : Key)).zip xs
def txt (s : List Nat) : Str := ⟨s.toArray⟩
def okTxt (s : List Nat) : Bool := s.all (fun c => decide (c < 0x110000))

mutual
def Rep (K : Fg) (H : Hp) : D → V → Prop
  | .non, v => v = .non
  | .bl b, v => v = .bl b
  | .int i, v => v = .int i
  | .str s, v => v = .str (txt s) ∧ okTxt s = true
  | .tup ds, v => ∃ a xs, v = .ref a ∧ SqT K H a xs ∧ RepL K H ds xs
  | .lst ds, v => ∃ a xs, v = .ref a ∧ Rd H a (.lst xs) ∧ RepL K H ds xs
  | .dct kvs, v => ∃ a xs, v = .ref a ∧ H a = some (.dK (keysOf kvs xs)) ∧ RepK K H kvs xs
  | .exc _ _, _ => False
  | .scr ns, v => ∃ a, v = .ref a ∧ SqL K H a (ns.map V.int)
def RepL (K : Fg) (H : Hp) : List D → List V → Prop
  | [], xs => xs = []
  | d :: ds, xs => ∃ x r, xs = x :: r ∧ Rep K H d x ∧ RepL K H ds r
def RepK (K : Fg) (H : Hp) : List (Int × D) → List V → Prop
  | [], xs => xs = []
  | (_, d) :: ds, xs => ∃ x r, xs = x :: r ∧ Rep K H d x ∧ RepK K H ds r
end

section
variable {K : Fg} {H H' : Hp}
theorem rd_mono (s : Same H H') {a : Addr} {u : HO} (h : Rd H a u) : Rd H' a u := by
  rcases h with h | ⟨o, h⟩
  · exact .inl (s _ _ h)
  · exact .inr ⟨o, s _ _ h⟩
theorem sqT_mono (s : Same H H') {a : Addr} {xs : List V} (h : SqT K H a xs) : SqT K H' a xs := by
  rcases h with h | h
  · exact .inl (rd_mono s h)
  · exact .inr h
mutual
theorem Rep.mono (s : Same H H') : ∀ (d : D) (v : V), Rep K H d v → Rep K H' d v
  | .non, _, h => h
  | .bl _, _, h => h
  | .int _, _, h => h
  | .str _, _, h => h
  | .tup ds, v, ⟨a, xs, e, q, r⟩ => ⟨a, xs, e, sqT_mono s q, RepL.mono s ds xs r⟩
  | .lst ds, v, ⟨a, xs, e, q, r⟩ => ⟨a, xs, e, rd_mono s q, RepL.mono s ds xs r⟩
  | .dct kvs, v, ⟨a, xs, e, q, r⟩ => ⟨a, xs, e, s _ _ q, RepK.mono s kvs xs r⟩
  | .exc _ _, _, h => h
  | .scr ns, v, ⟨a, e, q⟩ => ⟨a, e, q.elim (fun h => .inl (rd_mono s h)) .inr⟩
theorem RepL.mono (s : Same H H') : ∀ (ds : List D) (xs : List V), RepL K H ds xs → RepL K H' ds xs
  | [], _, h => h
  | d :: ds, xs, ⟨x, r, e, h, t⟩ => ⟨x, r, e, Rep.mono s d x h, RepL.mono s ds r t⟩
theorem RepK.mono (s : Same H H') : ∀ (ds : List (Int × D)) (xs : List V), RepK K H ds xs → RepK K H' ds xs
  | [], _, h => h
  | (_, d) :: ds, xs, ⟨x, r, e, h, t⟩ => ⟨x, r, e, Rep.mono s d x h, RepK.mono s ds r t⟩
end
theorem RepL.len : ∀ {ds : List D} {xs : List V}, RepL K H ds xs → xs.length = ds.length
  | [], _, h => by cases (show _ = _ from h); rfl
  | d :: ds, xs, ⟨x, r, e, _, t⟩ => by subst e; show r.length + 1 = ds.length + 1; rw [RepL.len t]
theorem RepL.get : ∀ {ds : List D} {xs : List V} {i : Nat} {d : D}, RepL K H ds xs → ds[i]? = some d → ∃ x, xs[i]? = some x ∧ Rep K H d x
  | [], _, _, _, _, h => by simp at h
  | d :: ds, xs, 0, d', ⟨x, r, e, h, _⟩, g => by
    subst e
    have : d = d' := by simpa using g
    subst this
    exact ⟨x, rfl, h⟩
  | d :: ds, xs, i + 1, d', ⟨x, r, e, _, t⟩, g => by
    subst e
    obtain ⟨y, h1, h2⟩ := RepL.get (i := i) t (by simpa using g)
    exact ⟨y, by simpa using h1, h2⟩
theorem RepL.get' : ∀ {ds : List D} {xs : List V} {i : Nat} {x : V}, RepL K H ds xs → xs[i]? = some x → ∃ d, ds[i]? = some d ∧ Rep K H d x := by
  intro ds xs i x h g
  have hl := h.len
  have hi : i < ds.length := by
    have := (List.getElem?_eq_some_iff.mp g).1
    omega
  obtain ⟨y, h1, h2⟩ := h.get (List.getElem?_eq_getElem hi)
  rw [g] at h1
  cases h1
  exact ⟨_, List.getElem?_eq_getElem hi, h2⟩
theorem RepL.app : ∀ {ds es : List D} {xs ys : List V}, RepL K H ds xs → RepL K H es ys → RepL K H (ds ++ es) (xs ++ ys)
  | [], _, _, _, h, g => by cases (show _ = _ from h); exact g
  | d :: ds, es, xs, ys, ⟨x, r, e, h, t⟩, g => by subst e; exact ⟨x, r ++ ys, rfl, h, RepL.app t g⟩
theorem RepL.one {d : D} {v : V} (h : Rep K H d v) : RepL K H [d] [v] := ⟨v, [], rfl, h, rfl⟩
theorem RepL.drop : ∀ {ds : List D} {xs : List V} (n : Nat), RepL K H ds xs → RepL K H (ds.drop n) (xs.drop n)
  | ds, xs, 0, h => by simpa using h
  | [], xs, n + 1, h => by cases (show _ = _ from h); exact rfl
  | d :: ds, xs, n + 1, ⟨x, r, e, _, t⟩ => by subst e; simpa using RepL.drop n t
theorem RepL.take : ∀ {ds : List D} {xs : List V} (n : Nat), RepL K H ds xs → RepL K H (ds.take n) (xs.take n)
  | ds, xs, 0, h => by simp; exact rfl
  | [], xs, n + 1, h => by cases (show _ = _ from h); simp; exact rfl
  | d :: ds, xs, n + 1, ⟨x, r, e, h, t⟩ => by subst e; exact ⟨x, r.take n, by simp, h, RepL.take n t⟩
theorem RepL.set : ∀ {ds : List D} {xs : List V} (n : Nat) {d : D} {v : V}, RepL K H ds xs → Rep K H d v → RepL K H (ds.set n d) (xs.set n v)
  | [], xs, n, _, _, h, _ => by cases (show _ = _ from h); exact rfl
  | d :: ds, xs, 0, _, _, ⟨x, r, e, _, t⟩, g => by subst e; exact ⟨_, r, rfl, g, t⟩
  | d :: ds, xs, n + 1, _, _, ⟨x, r, e, h, t⟩, g => by subst e; exact ⟨x, _, rfl, h, RepL.set n t g⟩
theorem RepL.rev : ∀ {ds : List D} {xs : List V}, RepL K H ds xs → RepL K H ds.reverse xs.reverse
  | [], _, h => by cases (show _ = _ from h); exact rfl
  | d :: ds, xs, ⟨x, r, e, h, t⟩ => by subst e; rw [List.reverse_cons, List.reverse_cons]; exact RepL.app (RepL.rev t) (.one h)
theorem RepL.erase : ∀ {ds : List D} {xs : List V} (n : Nat), RepL K H ds xs → RepL K H (ds.eraseIdx n) (xs.eraseIdx n)
  | [], xs, n, h => by cases (show _ = _ from h); simp; exact rfl
  | d :: ds, xs, 0, ⟨x, r, e, _, t⟩ => by subst e; simpa using t
  | d :: ds, xs, n + 1, ⟨x, r, e, h, t⟩ => by subst e; exact ⟨x, r.eraseIdx n, by simp, h, RepL.erase n t⟩
theorem RepL.rep {ds : List D} {xs : List V} (h : RepL K H ds xs) : ∀ n : Nat, RepL K H (List.replicate n ds).flatten (List.replicate n xs).flatten
  | 0 => rfl
  | n + 1 => by rw [List.replicate_succ, List.replicate_succ, List.flatten_cons, List.flatten_cons]; exact RepL.app h (RepL.rep h n)
theorem RepK.len : ∀ {ds : List (Int × D)} {xs : List V}, RepK K H ds xs → xs.length = ds.length
  | [], _, h => by cases (show _ = _ from h); rfl
  | (_, d) :: ds, xs, ⟨x, r, e, _, t⟩ => by subst e; show r.length + 1 = ds.length + 1; rw [RepK.len t]
end

/-! ### held data -/
inductive Lb where
  | sl (i : Nat)
  | tm (j : Nat)
  deriving DecidableEq
abbrev Own := Addr → Option (Lb × List Nat)

mutual
def RepA (K : Fg) (FH H : Hp) (ow : Own) (l : Lb) : AV → List Nat → V → Prop
  | .fz d, _, v => Rep K FH d v
  | .ol ds, p, v => ∃ a xs, v = .ref a ∧ ow a = some (l, p) ∧ H a = some (.lst xs) ∧ RepL K FH ds xs
  | .ot as, p, v => ∃ a xs, v = .ref a ∧ FH a = some (.tup xs) ∧ RepAL K FH H ow l as p 0 xs
  | .od kvs, p, v => ∃ a xs, v = .ref a ∧ ow a = some (l, p) ∧ H a = some (.dK (keysOf kvs xs)) ∧ RepAK K FH H ow l kvs p 0 xs
def RepAL (K : Fg) (FH H : Hp) (ow : Own) (l : Lb) : List AV → List Nat → Nat → List V → Prop
  | [], _, _, xs => xs = []
  | a :: as, p, k, xs => ∃ x r, xs = x :: r ∧ RepA K FH H ow l a (k :: p) x ∧ RepAL K FH H ow l as p (k + 1) r
def RepAK (K : Fg) (FH H : Hp) (ow : Own) (l : Lb) : List (Int × AV) → List Nat → Nat → List V → Prop
  | [], _, _, xs => xs = []
  | (_, a) :: as, p, k, xs => ∃ x r, xs = x :: r ∧ RepA K FH H ow l a (k :: p) x ∧ RepAK K FH H ow l as p (k + 1) r
end

section
variable {K : Fg} {FH FH' H H' : Hp} {ow ow' : Own} {l l' : Lb} {p p' : List Nat}
/-- to another heap, another holder -/
def Trv (H H' : Hp) (ow ow' : Own) (l l' : Lb) (p p' : List Nat) : Prop := ∀ a q, ow a = some (l, q ++ p) → ow' a = some (l', q ++ p') ∧ H' a = H a
theorem Trv.sub (h : Trv H H' ow ow' l l' p p') (k : Nat) : Trv H H' ow ow' l l' (k :: p) (k :: p') := fun a q e => by
  have := h a (q ++ [k]) (by rw [List.append_assoc]; exact e)
  rw [List.append_assoc] at this
  exact this
mutual
theorem RepA.tr (s : Same FH FH') : ∀ (a : AV) (p p' : List Nat) (v : V), Trv H H' ow ow' l l' p p' → RepA K FH H ow l a p v → RepA K FH' H' ow' l' a p' v
  | .fz d, _, _, v, _, h => Rep.mono s d v h
  | .ol ds, p, p', v, t, ⟨a, xs, e, o, q, r⟩ => by
    obtain ⟨t1, t2⟩ := t a [] o
    exact ⟨a, xs, e, t1, t2.trans q, RepL.mono s ds xs r⟩
  | .ot as, p, p', v, t, ⟨a, xs, e, q, r⟩ => ⟨a, xs, e, s _ _ q, RepAL.tr s as p p' 0 xs t r⟩
  | .od kvs, p, p', v, t, ⟨a, xs, e, o, q, r⟩ => by
    obtain ⟨t1, t2⟩ := t a [] o
    exact ⟨a, xs, e, t1, t2.trans q, RepAK.tr s kvs p p' 0 xs t r⟩
theorem RepAL.tr (s : Same FH FH') : ∀ (as : List AV) (p p' : List Nat) (k : Nat) (xs : List V), Trv H H' ow ow' l l' p p' → RepAL K FH H ow l as p k xs → RepAL K FH' H' ow' l' as p' k xs
  | [], _, _, _, _, _, h => h
  | a :: as, p, p', k, xs, t, ⟨x, r, e, h, hr⟩ => ⟨x, r, e, RepA.tr s a (k :: p) (k :: p') x (t.sub k) h, RepAL.tr s as p p' (k + 1) r t hr⟩
theorem RepAK.tr (s : Same FH FH') : ∀ (as : List (Int × AV)) (p p' : List Nat) (k : Nat) (xs : List V), Trv H H' ow ow' l l' p p' → RepAK K FH H ow l as p k xs → RepAK K FH' H' ow' l' as p' k xs
  | [], _, _, _, _, _, h => h
  | (_, a) :: as, p, p', k, xs, t, ⟨x, r, e, h, hr⟩ => ⟨x, r, e, RepA.tr s a (k :: p) (k :: p') x (t.sub k) h, RepAK.tr s as p p' (k + 1) r t hr⟩
end
theorem keysOf_erase : ∀ (kvs : List (Int × AV)) (xs : List V), keysOf (eraseK kvs) xs = keysOf kvs xs
  | [], _ => rfl
  | (k, a) :: r, [] => by simp [keysOf, eraseK]
  | (k, a) :: r, x :: xs => by
    have ih := keysOf_erase r xs
    unfold keysOf at ih ⊢
    simp only [eraseK, List.map_cons, List.zip_cons_cons, ih]
mutual
/-- all of it shared: G holds what the holder held -/
theorem RepA.froze {G : Hp} (s : Same FH G) : ∀ (a : AV) (p : List Nat) (v : V), (∀ b q o, ow b = some (l, q ++ p) → H b = some o → G b = some o) → RepA K FH H ow l a p v → Rep K G a.erase v
  | .fz d, _, v, _, h => Rep.mono s d v h
  | .ol ds, p, v, t, ⟨a, xs, e, o, q, r⟩ => ⟨a, xs, e, .inl (t a [] _ o q), RepL.mono s ds xs r⟩
  | .ot as, p, v, t, ⟨a, xs, e, q, r⟩ => ⟨a, xs, e, .inl (.inl (s _ _ q)), RepAL.froze s as p 0 xs t r⟩
  | .od kvs, p, v, t, ⟨a, xs, e, o, q, r⟩ => ⟨a, xs, e, by rw [keysOf_erase]; exact t a [] _ o q, RepAK.froze s kvs p 0 xs t r⟩
theorem RepAL.froze {G : Hp} (s : Same FH G) : ∀ (as : List AV) (p : List Nat) (k : Nat) (xs : List V), (∀ b q o, ow b = some (l, q ++ p) → H b = some o → G b = some o) → RepAL K FH H ow l as p k xs → RepL K G (eraseL as) xs
  | [], _, _, _, _, h => h
  | a :: as, p, k, xs, t, ⟨x, r, e, h, hr⟩ => ⟨x, r, e, RepA.froze s a (k :: p) x (fun b q o e => t b (q ++ [k]) o (by rw [List.append_assoc]; exact e)) h, RepAL.froze s as p (k + 1) r t hr⟩
theorem RepAK.froze {G : Hp} (s : Same FH G) : ∀ (as : List (Int × AV)) (p : List Nat) (k : Nat) (xs : List V), (∀ b q o, ow b = some (l, q ++ p) → H b = some o → G b = some o) → RepAK K FH H ow l as p k xs → RepK K G (eraseK as) xs
  | [], _, _, _, _, h => h
  | (_, a) :: as, p, k, xs, t, ⟨x, r, e, h, hr⟩ => ⟨x, r, e, RepA.froze s a (k :: p) x (fun b q o e => t b (q ++ [k]) o (by rw [List.append_assoc]; exact e)) h, RepAK.froze s as p (k + 1) r t hr⟩
end
end

/-! ### the invariant -/
/-- it never changes -/
def still : HO → Prop
  | .tup _ => True
  | .frz _ _ => True
  | _ => False
/-- it may be changed by its holder -/
def mutO : HO → Prop
  | .lst _ => True
  | .dK _ => True
  | _ => False
instance (o : HO) : Decidable (still o) := by cases o <;> (unfold still; infer_instance)
theorem not_still {o : HO} (h : mutO o) : ¬ still o := fun g => by cases o <;> first | exact h | exact g
def RepT (K : Fg) (FH H : Hp) (ow : Own) : List (V × AV) → Prop
  | [] => True
  | (v, a) :: T => RepA K FH H ow (.tm T.length) a [] v ∧ RepT K FH H ow T

structure Hold (K : Fg) (H0 : Hp) (ρ : Ev) (FH : Hp) (T : List (V × AV)) (σ : St) (H : Hp) (ow : Own) : Prop where
  out : ∀ a x, ow a = some x → FH a = none ∧ H0 a = none ∧ ∃ o, H a = some o ∧ mutO o
  slots : ∀ i a, ρ[i]? = some (some a) → ∃ v, σ[i]? = some (some v) ∧ RepA K FH H ow (.sl i) a [] v
  tmps : RepT K FH H ow T

structure InvA (K : Fg) (H0 F0 : Hp) (ρ : Ev) (FH : Hp) (T : List (V × AV)) (σ : St) (H : Hp) : Prop where
  sub : Same FH H
  tup : ∀ b o, H b = some o → still o → FH b = some o
  ext : Same H0 H
  fsub : Same F0 FH
  fnew : ∀ b o, FH b = some o → still o ∨ F0 b = some o ∨ H0 b = none
  len : ρ.length = σ.length
  own : ∃ ow, Hold K H0 ρ FH T σ H ow

section
variable {K : Fg} {H0 F0 FH FH' H H' : Hp} {ρ : Ev} {T : List (V × AV)} {σ : St} {ow ow' : Own}
theorem RepT.tr (s : Same FH FH') : ∀ (T : List (V × AV)), (∀ j, j < T.length → Trv H H' ow ow' (.tm j) (.tm j) [] []) → RepT K FH H ow T → RepT K FH' H' ow' T
  | [], _, _ => trivial
  | (v, a) :: T, t, ⟨h, r⟩ => ⟨RepA.tr s a [] [] v (t T.length (by simp)) h, RepT.tr s T (fun j hj => t j (by simp; omega)) r⟩
theorem same_upd {H : Hp} {p : Addr} {o : HO} (h : H p = none) : Same H (upd H p o) := fun b x e => by
  have : b ≠ p := fun q => by rw [q, h] at e; cases e
  rw [upd_ne this]
  exact e
theorem none_of_sub (s : Same FH H) {p : Addr} (h : H p = none) : FH p = none := by
  cases e : FH p with
  | none => rfl
  | some o => rw [s _ _ e] at h; cases h

/-- a frozen value is held -/
theorem InvA.push (I : InvA K H0 F0 ρ FH T σ H) {d : D} {v : V} (h : Rep K FH d v) : InvA K H0 F0 ρ FH ((v, .fz d) :: T) σ H := by
  obtain ⟨ow, O⟩ := I.own
  exact ⟨I.sub, I.tup, I.ext, I.fsub, I.fnew, I.len, ow, ⟨O.out, O.slots, h, O.tmps⟩⟩
theorem InvA.drop {t : V × AV} (I : InvA K H0 F0 ρ FH (t :: T) σ H) : InvA K H0 F0 ρ FH T σ H := by
  obtain ⟨ow, O⟩ := I.own
  exact ⟨I.sub, I.tup, I.ext, I.fsub, I.fnew, I.len, ow, ⟨O.out, O.slots, O.tmps.2⟩⟩
/-- a new tuple of shared items -/
theorem InvA.newTup (I : InvA K H0 F0 ρ FH T σ H) {p : Addr} (hp : H p = none) {ds : List D} {xs : List V} (h : RepL K FH ds xs) :
    InvA K H0 F0 ρ (upd FH p (.tup xs)) ((.ref p, .fz (.tup ds)) :: T) σ (upd H p (.tup xs)) := by
  obtain ⟨ow, O⟩ := I.own
  have fp := none_of_sub I.sub hp
  have sF : Same FH (upd FH p (.tup xs)) := same_upd fp
  have sH : Same H (upd H p (.tup xs)) := same_upd hp
  have op : ∀ a x, ow a = some x → a ≠ p := fun a x e q => by
    obtain ⟨_, _, o, ho, _⟩ := O.out a x e
    rw [q, hp] at ho; cases ho
  have tv : ∀ l, Trv H (upd H p (.tup xs)) ow ow l l [] [] := fun l a q e => ⟨e, upd_ne (op a _ e)⟩
  refine ⟨fun b o e => ?_, fun b ys e st => ?_, I.ext.trans sH, I.fsub.trans sF, fun b o e => ?_, I.len, ow, ⟨fun a x e => ?_, fun i a e => ?_, ?_, RepT.tr sF T (fun j _ => tv _) O.tmps⟩⟩
  · by_cases hb : b = p
    · subst hb; rw [upd_same] at e ⊢; exact e
    · rw [upd_ne hb] at e ⊢; exact I.sub _ _ e
  · by_cases hb : b = p
    · subst hb; rw [upd_same] at e ⊢; exact e
    · rw [upd_ne hb] at e ⊢; exact I.tup _ _ e st
  · by_cases hb : b = p
    · subst hb; rw [upd_same] at e; cases e; exact .inl trivial
    · rw [upd_ne hb] at e; exact I.fnew _ _ e
  · obtain ⟨h1, h2, o, ho, hm⟩ := O.out a x e
    have := op a x e
    exact ⟨by rw [upd_ne this]; exact h1, h2, o, by rw [upd_ne this]; exact ho, hm⟩
  · obtain ⟨v, h1, h2⟩ := O.slots i a e
    exact ⟨v, h1, RepA.tr sF a [] [] v (tv _) h2⟩
  · exact ⟨p, xs, rfl, .inl (.inl upd_same), RepL.mono sF ds xs h⟩
/-- a new list of shared items, nobody else's -/
theorem InvA.newLst (I : InvA K H0 F0 ρ FH T σ H) {p : Addr} (hp : H p = none) {ds : List D} {xs : List V} (h : RepL K FH ds xs) :
    InvA K H0 F0 ρ FH ((.ref p, .ol ds) :: T) σ (upd H p (.lst xs)) := by
  obtain ⟨ow, O⟩ := I.own
  have fp := none_of_sub I.sub hp
  have sH : Same H (upd H p (.lst xs)) := same_upd hp
  have op : ∀ a x, ow a = some x → a ≠ p := fun a x e q => by
    obtain ⟨_, _, o, ho, _⟩ := O.out a x e
    rw [q, hp] at ho; cases ho
  have h0 : H0 p = none := by
    cases e : H0 p with
    | none => rfl
    | some o => rw [I.ext _ _ e] at hp; cases hp
  refine ⟨fun b o e => sH _ _ (I.sub _ _ e), fun b ys e st => ?_, I.ext.trans sH, I.fsub, I.fnew, I.len, fun a => if a = p then some (.tm T.length, []) else ow a, ?_, ?_, ?_, ?_⟩
  · by_cases hb : b = p
    · subst hb; rw [upd_same] at e; cases e; exact st.elim
    · rw [upd_ne hb] at e; exact I.tup _ _ e st
  · intro a x e
    by_cases ha : a = p
    · subst ha; exact ⟨fp, h0, _, upd_same, trivial⟩
    · rw [if_neg ha] at e
      obtain ⟨h1, h2, o, ho, hm⟩ := O.out a x e
      exact ⟨h1, h2, o, by rw [upd_ne ha]; exact ho, hm⟩
  · intro i a e
    obtain ⟨v, h1, h2⟩ := O.slots i a e
    refine ⟨v, h1, RepA.tr (Same.refl _) a [] [] v (fun b q e => ?_) h2⟩
    have hb := op b _ e
    exact ⟨by rw [if_neg hb]; exact e, upd_ne hb⟩
  · exact ⟨p, xs, rfl, if_pos rfl, upd_same, h⟩
  · refine RepT.tr (Same.refl _) T (fun j hj b q e => ?_) O.tmps
    have hb := op b _ e
    exact ⟨by rw [if_neg hb]; exact e, upd_ne hb⟩

/-! ### places -/
def PathT (FH : Hp) : V → List Nat → V → Prop
  | u, [], v => u = v
  | u, k :: p, v => ∃ a xs w, u = .ref a ∧ FH a = some (.tup xs) ∧ xs[k]? = some w ∧ PathT FH w p v
theorem PathT.mono (s : Same FH FH') : ∀ {p : List Nat} {u v : V}, PathT FH u p v → PathT FH' u p v
  | [], _, _, h => h
  | k :: p, _, _, ⟨a, xs, w, e, q, g, t⟩ => ⟨a, xs, w, e, s _ _ q, g, PathT.mono s t⟩
theorem PathT.uniq : ∀ {p : List Nat} {u v w : V}, PathT FH u p v → PathT FH u p w → v = w
  | [], _, _, _, h, g => by cases (show _ = _ from h); exact g
  | k :: p, _, _, _, ⟨a, xs, w, e, q, g, t⟩, ⟨a', xs', w', e', q', g', t'⟩ => by
    subst e; cases e'
    rw [q] at q'; cases q'
    rw [g] at g'; cases g'
    exact PathT.uniq t t'
theorem PathT.snoc : ∀ {p : List Nat} {u v w : V} {k : Nat} {a : Addr} {xs : List V}, PathT FH u p v → v = .ref a → FH a = some (.tup xs) → xs[k]? = some w → PathT FH u (p ++ [k]) w
  | [], _, _, _, _, _, _, h, e, q, g => by cases (show _ = _ from h); exact ⟨_, _, _, e, q, g, rfl⟩
  | j :: p, _, _, _, _, _, _, ⟨a, xs, w, e, q, g, t⟩, e', q', g' => ⟨a, xs, w, e, q, g, PathT.snoc t e' q' g'⟩
variable {l : Lb}
theorem RepAL.at : ∀ {as : List AV} {p : List Nat} {k j : Nat} {xs : List V} {a : AV}, RepAL K FH H ow l as p k xs → as[j]? = some a → ∃ x, xs[j]? = some x ∧ RepA K FH H ow l a ((k + j) :: p) x
  | [], _, _, _, _, _, _, h => by simp at h
  | b :: as, p, k, 0, xs, a, ⟨x, r, e, h, _⟩, g => by
    subst e
    have : b = a := by simpa using g
    subst this
    exact ⟨x, rfl, h⟩
  | b :: as, p, k, j + 1, xs, a, ⟨x, r, e, _, t⟩, g => by
    subst e
    obtain ⟨y, h1, h2⟩ := RepAL.at (j := j) t (by simpa using g)
    refine ⟨y, by simpa using h1, ?_⟩
    have e2 : k + 1 + j = k + (j + 1) := by omega
    rw [← e2]
    exact h2
theorem RepAL.len : ∀ {as : List AV} {p : List Nat} {k : Nat} {xs : List V}, RepAL K FH H ow l as p k xs → xs.length = as.length
  | [], _, _, _, h => by cases (show _ = _ from h); rfl
  | _ :: as, _, _, _, ⟨x, r, e, _, t⟩ => by subst e; show r.length + 1 = as.length + 1; rw [RepAL.len t]
theorem RepA.nav : ∀ {p : List Nat} {a b : AV} {p0 : List Nat} {v : V}, RepA K FH H ow l a p0 v → DY.nav p a = some b → ∃ w, PathT FH v p w ∧ RepA K FH H ow l b (p.reverse ++ p0) w
  | [], a, b, p0, v, h, g => by
    cases (show some a = some b from g)
    exact ⟨v, rfl, h⟩
  | k :: p, .ot as, b, p0, v, ⟨a, xs, e, q, r⟩, g => by
    have g : (as[k]?).bind (DY.nav p) = some b := g
    cases hk : as[k]? with
    | none => rw [hk] at g; cases g
    | some c =>
      rw [hk] at g
      obtain ⟨x, hx, hr⟩ := RepAL.at r hk
      rw [Nat.zero_add] at hr
      obtain ⟨w, h1, h2⟩ := RepA.nav hr g
      refine ⟨w, ⟨a, xs, x, e, q, hx, h1⟩, ?_⟩
      rw [List.reverse_cons, List.append_assoc]
      exact h2
  | k :: p, .fz _, _, _, _, _, g => by cases g
  | k :: p, .ol _, _, _, _, _, g => by cases g
  | k :: p, .od _, _, _, _, _, g => by cases g
theorem sfx_ne {q r p : List Nat} {j k : Nat} (h : q ++ (j :: p) = r ++ (k :: p)) : j = k := by
  have h2 : (q ++ [j]) ++ p = (r ++ [k]) ++ p := by rw [List.append_assoc, List.append_assoc]; exact h
  have h3 := List.append_cancel_right h2
  have h4 := congrArg List.getLast? h3
  simpa using h4
theorem RepAL.tl {a : Addr} {P : List Nat} (ha : ow a = some (l, P)) (hH : ∀ c, c ≠ a → H' c = H c) : ∀ {as : List AV} {p : List Nat} {k : Nat} {xs : List V}, RepAL K FH H ow l as p k xs → (∀ q j, k ≤ j → P ≠ q ++ (j :: p)) → RepAL K FH H' ow l as p k xs
  | [], _, _, _, h, _ => h
  | c :: as, p, k, xs, ⟨y, r, e, h, t⟩, hn => by
    refine ⟨y, r, e, RepA.tr (Same.refl _) c (k :: p) (k :: p) y (fun d q e => ⟨e, hH d fun z => ?_⟩) h, RepAL.tl ha hH t fun q j hj => hn q j (by omega)⟩
    subst z
    rw [ha] at e
    exact hn q k (Nat.le_refl _) (Prod.mk.inj (Option.some.inj e)).2
theorem RepAL.wr {a : Addr} {P : List Nat} (ha : ow a = some (l, P)) (hH : ∀ c, c ≠ a → H' c = H c) :
    ∀ {as : List AV} {p : List Nat} {k j : Nat} {xs : List V} {x : V} {b : AV} {r0 : List Nat}, RepAL K FH H ow l as p k xs → xs[j]? = some x → P = r0 ++ ((k + j) :: p) → RepA K FH H' ow l b ((k + j) :: p) x → RepAL K FH H' ow l (as.set j b) p k xs
  | [], _, _, _, _, _, _, _, h, g, _, _ => by cases (show _ = _ from h); simp at g
  | c :: as, p, k, 0, xs, x, b, r0, ⟨y, r, e, h, t⟩, g, eP, hb => by
    subst e
    have e1 : y = x := by simpa using g
    subst e1
    refine ⟨y, r, rfl, hb, ?_⟩
    refine RepAL.tl ha hH t fun q j' hj hq => ?_
    rw [eP] at hq
    have := sfx_ne hq
    omega
  | c :: as, p, k, j + 1, xs, x, b, r0, ⟨y, r, e, h, t⟩, g, eP, hb => by
    subst e
    have e2 : k + 1 + j = k + (j + 1) := by omega
    refine ⟨y, r, rfl, RepA.tr (Same.refl _) c (k :: p) (k :: p) y (fun d q e => ⟨e, hH d fun z => ?_⟩) h, RepAL.wr ha hH (j := j) t (by simpa using g) (by rw [e2]; exact eP) (by rw [e2]; exact hb)⟩
    subst z
    rw [ha] at e
    have e3 : P = q ++ (k :: p) := (Prod.mk.inj (Option.some.inj e)).2
    rw [eP] at e3
    have := sfx_ne e3
    omega
theorem RepA.wr {a : Addr} {P : List Nat} (ha : ow a = some (l, P)) (hH : ∀ c, c ≠ a → H' c = H c) :
    ∀ {p : List Nat} {t b t' : AV} {p0 : List Nat} {v w : V}, RepA K FH H ow l t p0 v → DY.put p t b = some t' → PathT FH v p w → P = p.reverse ++ p0 → RepA K FH H' ow l b (p.reverse ++ p0) w → RepA K FH H' ow l t' p0 v
  | [], t, b, t', p0, v, w, h, g, hp, eP, hb => by
    cases (show some b = some t' from g)
    cases (show _ = _ from hp)
    exact hb
  | k :: p, .ot as, b, t', p0, v, w, ⟨a', xs, e, q, r⟩, g, hp, eP, hb => by
    have g : ((as[k]?).bind fun c => (DY.put p c b).map fun d => AV.ot (as.set k d)) = some t' := g
    cases hk : as[k]? with
    | none => rw [hk] at g; cases g
    | some c =>
      rw [hk] at g
      have g : (DY.put p c b).map (fun d => AV.ot (as.set k d)) = some t' := g
      cases hc : DY.put p c b with
      | none => rw [hc] at g; cases g
      | some d =>
        rw [hc] at g
        cases g
        obtain ⟨x, hx, hr⟩ := RepAL.at r hk
        rw [Nat.zero_add] at hr
        obtain ⟨a2, xs2, w2, e2, q2, g2, t2⟩ := hp
        subst e
        cases e2
        rw [q] at q2; cases q2
        rw [hx] at g2; cases g2
        have eP2 : P = p.reverse ++ (k :: p0) := by rw [eP, List.reverse_cons, List.append_assoc]; rfl
        have hb2 : RepA K FH H' ow l b (p.reverse ++ (k :: p0)) w := by
          rw [List.reverse_cons, List.append_assoc] at hb
          exact hb
        have z := RepA.wr ha hH hr hc t2 eP2 hb2
        exact ⟨a', xs, rfl, q, RepAL.wr ha hH (r0 := p.reverse) r hx (by rw [Nat.zero_add]; exact eP2) (by rw [Nat.zero_add]; exact z)⟩
  | k :: p, .fz _, _, _, _, _, _, _, g, _, _, _ => by cases g
  | k :: p, .ol _, _, _, _, _, _, _, g, _, _, _ => by cases g
  | k :: p, .od _, _, _, _, _, _, _, g, _, _, _ => by cases g

/-! ### to share, to move, to write -/
open Classical in
/-- what the holder l holds becomes shared -/
noncomputable def giveH (FH H : Hp) (ow : Own) (l : Lb) : Hp := fun b => if ∃ q, ow b = some (l, q) then H b else FH b
open Classical in
noncomputable def giveO (ow : Own) (l : Lb) : Own := fun b => if ∃ q, ow b = some (l, q) then none else ow b
theorem giveO_at {a : Addr} {l' : Lb} {q : List Nat} (h : l' ≠ l) (e : ow a = some (l', q)) : giveO ow l a = some (l', q) := by
  unfold giveO
  rw [if_neg]
  · exact e
  · rintro ⟨r, z⟩
    rw [e] at z
    exact h (Prod.mk.inj (Option.some.inj z)).1
theorem of_giveO {a : Addr} {x : Lb × List Nat} (e : giveO ow l a = some x) : ow a = some x ∧ ¬ ∃ q, ow a = some (l, q) := by
  unfold giveO at e
  split at e
  · cases e
  · exact ⟨e, by assumption⟩
structure Gave (K : Fg) (H0 F0 : Hp) (FH H : Hp) (ow : Own) (l : Lb) : Prop where
  s : Same FH (giveH FH H ow l)
  sub : Same (giveH FH H ow l) H
  tup : ∀ b o, H b = some o → still o → giveH FH H ow l b = some o
  fnew : ∀ b o, giveH FH H ow l b = some o → still o ∨ F0 b = some o ∨ H0 b = none
  out : ∀ a x, giveO ow l a = some x → giveH FH H ow l a = none ∧ H0 a = none ∧ ∃ o, H a = some o ∧ mutO o
  tr : ∀ l', l' ≠ l → Trv H H ow (giveO ow l) l' l' [] []
  rep : ∀ a p v, RepA K FH H ow l a p v → Rep K (giveH FH H ow l) a.erase v
theorem InvA.gave (I : InvA K H0 F0 ρ FH T σ H) (O : Hold K H0 ρ FH T σ H ow) (l : Lb) : Gave K H0 F0 FH H ow l := by
  have s : Same FH (giveH FH H ow l) := fun b o e => by
    unfold giveH
    rw [if_neg]
    · exact e
    · rintro ⟨q, z⟩
      rw [(O.out b _ z).1] at e; cases e
  refine ⟨s, fun b o e => ?_, fun b xs e st => s _ _ (I.tup _ _ e st), fun b o e => ?_, fun a x e => ?_, fun l' h a q e => ⟨giveO_at h e, rfl⟩, fun a p v h => RepA.froze s a p v (fun b q o e1 e2 => ?_) h⟩
  · unfold giveH at e
    split at e
    · exact e
    · exact I.sub _ _ e
  · unfold giveH at e
    split at e
    · rename_i h
      obtain ⟨q, z⟩ := h
      exact .inr (.inr (O.out b _ z).2.1)
    · exact I.fnew _ _ e
  · obtain ⟨e1, e2⟩ := of_giveO e
    obtain ⟨h1, h2, h3⟩ := O.out a x e1
    refine ⟨?_, h2, h3⟩
    unfold giveH
    rw [if_neg e2]
    exact h1
  · unfold giveH
    rw [if_pos ⟨_, e1⟩]
    exact e2
theorem sl_tm {i j : Nat} : Lb.sl i ≠ Lb.tm j := fun z => by cases z
theorem tm_ne {i j : Nat} (h : i ≠ j) : Lb.tm i ≠ Lb.tm j := fun z => by cases z; exact h rfl
theorem sl_ne {i j : Nat} (h : i ≠ j) : Lb.sl i ≠ Lb.sl j := fun z => by cases z; exact h rfl
/-- the last held value is shared -/
theorem InvA.frzT {v : V} {a : AV} (I : InvA K H0 F0 ρ FH ((v, a) :: T) σ H) : ∃ FH', Same FH FH' ∧ InvA K H0 F0 ρ FH' T σ H ∧ Rep K FH' a.erase v := by
  obtain ⟨ow, O⟩ := I.own
  have G := I.gave O (.tm T.length)
  refine ⟨_, G.s, ⟨G.sub, G.tup, I.ext, I.fsub.trans G.s, G.fnew, I.len, _, ⟨G.out, fun i b e => ?_, RepT.tr G.s T (fun j hj => G.tr _ (tm_ne (by omega))) O.tmps.2⟩⟩, G.rep _ _ _ O.tmps.1⟩
  obtain ⟨u, h1, h2⟩ := O.slots i b e
  exact ⟨u, h1, RepA.tr G.s b [] [] u (G.tr _ sl_tm) h2⟩
theorem get_some {ρ : Ev} {i : Nat} {a : AV} (h : DY.get ρ i = some a) : ρ[i]? = some (some a) := by
  unfold DY.get at h
  split at h
  · rename_i o e; rw [e, h]
  · cases h
/-- a slot's value is shared -/
theorem InvA.frzS {i : Nat} {a : AV} (I : InvA K H0 F0 ρ FH T σ H) (e : ρ[i]? = some (some a)) : ∃ FH' v, Same FH FH' ∧ InvA K H0 F0 (ρ.set i (some (.fz a.erase))) FH' T σ H ∧ σ[i]? = some (some v) ∧ Rep K FH' a.erase v := by
  obtain ⟨ow, O⟩ := I.own
  have G := I.gave O (.sl i)
  obtain ⟨v, h1, h2⟩ := O.slots i a e
  have hr := G.rep _ _ _ h2
  refine ⟨_, v, G.s, ⟨G.sub, G.tup, I.ext, I.fsub.trans G.s, G.fnew, by rw [List.length_set]; exact I.len, _, ⟨G.out, fun j b e' => ?_, RepT.tr G.s T (fun j hj => G.tr _ (fun z => sl_tm z.symm)) O.tmps⟩⟩, h1, hr⟩
  by_cases hj : i = j
  · subst hj
    have hi : i < ρ.length := (List.getElem?_eq_some_iff.mp e).1
    rw [List.getElem?_set_self hi] at e'
    cases e'
    exact ⟨v, h1, hr⟩
  · rw [List.getElem?_set_ne hj] at e'
    obtain ⟨u, g1, g2⟩ := O.slots j b e'
    exact ⟨u, g1, RepA.tr G.s b [] [] u (G.tr _ (sl_ne (Ne.symm hj))) g2⟩
/-- a slot is forgotten -/
theorem InvA.kill (I : InvA K H0 F0 ρ FH T σ H) (i : Nat) (x : Option V) : InvA K H0 F0 (ρ.set i none) FH T (σ.set i x) H := by
  obtain ⟨ow, O⟩ := I.own
  refine ⟨I.sub, I.tup, I.ext, I.fsub, I.fnew, by rw [List.length_set, List.length_set]; exact I.len, ow, ⟨O.out, fun j b e => ?_, O.tmps⟩⟩
  by_cases hj : i = j
  · subst hj
    by_cases hi : i < ρ.length
    · rw [List.getElem?_set_self hi] at e; cases e
    · rw [List.getElem?_eq_none (by simpa using hi)] at e; cases e
  · rw [List.getElem?_set_ne hj] at e ⊢
    exact O.slots j b e
theorem InvA.kill' (I : InvA K H0 F0 ρ FH T σ H) (i : Nat) : InvA K H0 F0 (ρ.set i none) FH T σ H := by
  obtain ⟨ow, O⟩ := I.own
  refine ⟨I.sub, I.tup, I.ext, I.fsub, I.fnew, by rw [List.length_set]; exact I.len, ow, ⟨O.out, fun j b e => ?_, O.tmps⟩⟩
  by_cases hj : i = j
  · subst hj
    by_cases hi : i < ρ.length
    · rw [List.getElem?_set_self hi] at e; cases e
    · rw [List.getElem?_eq_none (by simpa using hi)] at e; cases e
  · rw [List.getElem?_set_ne hj] at e
    exact O.slots j b e
/-- what l holds, l' holds -/
def moveO (ow : Own) (l l' : Lb) : Own := fun b => match ow b with
  | some (m, q) => if m = l then some (l', q) else if m = l' then none else some (m, q)
  | none => none
theorem moveO_at {l l' m : Lb} {a : Addr} {q : List Nat} (h1 : m ≠ l) (h2 : m ≠ l') (e : ow a = some (m, q)) : moveO ow l l' a = some (m, q) := by
  unfold moveO
  rw [e]
  show (if m = l then _ else if m = l' then _ else _) = _
  rw [if_neg h1, if_neg h2]
theorem moveO_to {l l' : Lb} {a : Addr} {q : List Nat} (e : ow a = some (l, q)) : moveO ow l l' a = some (l', q) := by
  unfold moveO
  rw [e]
  show (if l = l then _ else _) = _
  rw [if_pos rfl]
theorem of_moveO {l l' : Lb} {a : Addr} {x : Lb × List Nat} (e : moveO ow l l' a = some x) : ∃ y, ow a = some y := by
  unfold moveO at e
  split at e
  · rename_i y h; exact ⟨_, h⟩
  · cases e
/-- the last held value goes to a slot -/
theorem InvA.set {v : V} {a : AV} {i : Nat} (I : InvA K H0 F0 ρ FH ((v, a) :: T) σ H) : InvA K H0 F0 (ρ.set i (some a)) FH T (σ.set i (some v)) H := by
  obtain ⟨ow, O⟩ := I.own
  refine ⟨I.sub, I.tup, I.ext, I.fsub, I.fnew, by rw [List.length_set, List.length_set]; exact I.len, moveO ow (.tm T.length) (.sl i), ⟨fun b x e => ?_, fun j b e => ?_, ?_⟩⟩
  · obtain ⟨y, hy⟩ := of_moveO e
    exact O.out b y hy
  · by_cases hj : i = j
    · subst hj
      have hi : i < ρ.length := by
        have := (List.getElem?_eq_some_iff.mp e).1
        rw [List.length_set] at this
        exact this
      rw [List.getElem?_set_self hi] at e
      cases e
      exact ⟨v, List.getElem?_set_self (by rw [← I.len]; exact hi), RepA.tr (Same.refl _) _ [] [] v (fun c q z => ⟨moveO_to z, rfl⟩) O.tmps.1⟩
    · rw [List.getElem?_set_ne hj] at e ⊢
      obtain ⟨u, g1, g2⟩ := O.slots j b e
      exact ⟨u, g1, RepA.tr (Same.refl _) _ [] [] u (fun c q z => ⟨moveO_at sl_tm (sl_ne (Ne.symm hj)) z, rfl⟩) g2⟩
  · exact RepT.tr (Same.refl _) T (fun j hj c q z => ⟨moveO_at (tm_ne (by omega)) (fun y => sl_tm y.symm) z, rfl⟩) O.tmps.2
/-- a slot's value is taken out -/
theorem InvA.take {i : Nat} {a : AV} (I : InvA K H0 F0 ρ FH T σ H) (e : ρ[i]? = some (some a)) : ∃ v, σ[i]? = some (some v) ∧ InvA K H0 F0 (ρ.set i none) FH ((v, a) :: T) σ H := by
  obtain ⟨ow, O⟩ := I.own
  obtain ⟨v, h1, h2⟩ := O.slots i a e
  refine ⟨v, h1, ⟨I.sub, I.tup, I.ext, I.fsub, I.fnew, by rw [List.length_set]; exact I.len, moveO ow (.sl i) (.tm T.length), ⟨fun b x e => ?_, fun j b e' => ?_, ?_, ?_⟩⟩⟩
  · obtain ⟨y, hy⟩ := of_moveO e
    exact O.out b y hy
  · by_cases hj : i = j
    · subst hj
      by_cases hi : i < ρ.length
      · rw [List.getElem?_set_self hi] at e'; cases e'
      · rw [List.getElem?_eq_none (by simpa using hi)] at e'; cases e'
    · rw [List.getElem?_set_ne hj] at e'
      obtain ⟨u, g1, g2⟩ := O.slots j b e'
      exact ⟨u, g1, RepA.tr (Same.refl _) _ [] [] u (fun c q z => ⟨moveO_at (sl_ne (Ne.symm hj)) sl_tm z, rfl⟩) g2⟩
  · exact RepA.tr (Same.refl _) _ [] [] v (fun c q z => ⟨moveO_to z, rfl⟩) h2
  · exact RepT.tr (Same.refl _) T (fun j hj c q z => ⟨moveO_at (fun y => sl_tm y.symm) (tm_ne (by omega)) z, rfl⟩) O.tmps
/-- an own object in a slot is changed -/
theorem InvA.wr {i : Nat} {p : List Nat} {t b b' t' : AV} {w : V} {a : Addr} {o' : HO} (I : InvA K H0 F0 ρ FH T σ H) (O : Hold K H0 ρ FH T σ H ow) (e : ρ[i]? = some (some t)) (hn : DY.nav p t = some b) (hp : DY.put p t b' = some t')
    {u : V} (hu : σ[i]? = some (some u)) (hw : PathT FH u p w) (ha : ow a = some (.sl i, p.reverse)) (ho : mutO o')
    (hb : RepA K FH (upd H a o') ow (.sl i) b' p.reverse w) : InvA K H0 F0 (ρ.set i (some t')) FH T σ (upd H a o') := by
  have hH : ∀ c, c ≠ a → (upd H a o') c = H c := fun c h => upd_ne h
  obtain ⟨fa, ha0, x, hx, _⟩ := O.out a _ ha
  have tv : ∀ l', l' ≠ .sl i → Trv H (upd H a o') ow ow l' l' [] [] := fun l' h c q z => ⟨z, hH c fun y => by subst y; rw [ha] at z; exact h (Prod.mk.inj (Option.some.inj z)).1.symm⟩
  refine ⟨fun c o z => ?_, fun c xs z st => ?_, fun c o z => ?_, I.fsub, I.fnew, by rw [List.length_set]; exact I.len, ow, ⟨fun c y z => ?_, fun j d z => ?_, RepT.tr (Same.refl _) T (fun j hj => tv _ (fun y => sl_tm y.symm)) O.tmps⟩⟩
  · have : c ≠ a := fun y => by subst y; rw [fa] at z; cases z
    rw [hH c this]; exact I.sub _ _ z
  · by_cases hc : c = a
    · subst hc; rw [upd_same] at z; cases z; exact absurd st (not_still ho)
    · rw [hH c hc] at z; exact I.tup _ _ z st
  · have : c ≠ a := fun y => by subst y; rw [ha0] at z; cases z
    rw [hH c this]; exact I.ext _ _ z
  · obtain ⟨g1, g2, o, g3, g4⟩ := O.out c y z
    refine ⟨g1, g2, ?_⟩
    by_cases hc : c = a
    · subst hc; exact ⟨_, upd_same, ho⟩
    · exact ⟨o, by rw [hH c hc]; exact g3, g4⟩
  · by_cases hj : i = j
    · subst hj
      have hi : i < ρ.length := by
        have := (List.getElem?_eq_some_iff.mp z).1
        rw [List.length_set] at this
        exact this
      rw [List.getElem?_set_self hi] at z
      cases z
      obtain ⟨v, h1, h2⟩ := O.slots i t e
      rw [hu] at h1; cases h1
      refine ⟨u, hu, RepA.wr ha hH h2 hp hw (by simp) ?_⟩
      simpa using hb
    · rw [List.getElem?_set_ne hj] at z
      obtain ⟨v, h1, h2⟩ := O.slots j d z
      exact ⟨v, h1, RepA.tr (Same.refl _) d [] [] v (tv _ (sl_ne (Ne.symm hj))) h2⟩
end
end DY
set_option Elab.async false
set_option linter.all false
set_option maxRecDepth 100000
/-! What evaluation does to what is held. -/
namespace DY
open PySem L2

def tmp (u : PV) (v : V) (T : List (V × AV)) : List (V × AV) := match u with
  | .av a => (v, a) :: T
  | .pl _ _ => T
def Plc (FH : Hp) (σ : St) (u : PV) (v : V) : Prop := match u with
  | .av _ => True
  | .pl i p => ∃ w, σ[i]? = some (some w) ∧ PathT FH w p v
/-- shared, or a list whose items are -/
def RepS (K : Fg) (FH H : Hp) (d : D) (v : V) : Prop := match d with
  | .lst ds => ∃ a xs, v = .ref a ∧ Rd H a (.lst xs) ∧ RepL K FH ds xs
  | d => Rep K FH d v
section
variable {K : Fg} {H0 F0 FH FH' H H' : Hp} {ρ ρ' : Ev} {T : List (V × AV)} {σ : St} {ow ow' : Own} {u : PV} {v : V} {d : D}
theorem Plc.mono (s : Same FH FH') (h : Plc FH σ u v) : Plc FH' σ u v := by
  cases u with
  | av a => trivial
  | pl i p =>
    obtain ⟨w, h1, h2⟩ := h
    exact ⟨w, h1, h2.mono s⟩
theorem RepS.of (s : Same FH H) (h : Rep K FH d v) : RepS K FH H d v := by
  cases d with
  | lst ds =>
    obtain ⟨a, xs, e, q, r⟩ := h
    exact ⟨a, xs, e, rd_mono s q, r⟩
  | _ => exact h
theorem RepS.mono (s : Same FH FH') (t : Same H H') (h : RepS K FH H d v) : RepS K FH' H' d v := by
  cases d with
  | lst ds =>
    obtain ⟨a, xs, e, q, r⟩ := h
    exact ⟨a, xs, e, rd_mono t q, RepL.mono s _ _ r⟩
  | _ => exact Rep.mono s _ _ h
theorem InvA.dropV (I : InvA K H0 F0 ρ FH (tmp u v T) σ H) : InvA K H0 F0 ρ FH T σ H := by
  cases u with
  | av a => exact I.drop
  | pl i p => exact I
theorem get_at {i : Nat} {a : AV} (h : DY.get ρ i = some a) : ρ[i]? = some (some a) := get_some h
/-- what a place, a value holds -/
theorem InvA.looks (I : InvA K H0 F0 ρ FH (tmp u v T) σ H) (O : Hold K H0 ρ FH (tmp u v T) σ H ow) (p : Plc FH σ u v) {a : AV} (h : look ρ u = some a) : ∃ l q, RepA K FH H ow l a q v ∧ (∀ i r, u = .pl i r → l = .sl i ∧ q = r.reverse) := by
  cases u with
  | av b =>
    cases (show some b = some a from h)
    exact ⟨_, _, O.tmps.1, fun i r e => by cases e⟩
  | pl i r =>
    have h : (DY.get ρ i).bind (nav r) = some a := h
    cases e : DY.get ρ i with
    | none => rw [e] at h; cases h
    | some t =>
      rw [e] at h
      have h : nav r t = some a := h
      obtain ⟨w, h1, h2⟩ := p
      obtain ⟨w', g1, g2⟩ := O.slots i t (get_at e)
      rw [h1] at g1; cases g1
      obtain ⟨z, k1, k2⟩ := RepA.nav g2 h
      cases k1.uniq h2
      rw [List.append_nil] at k2
      exact ⟨_, _, k2, fun j s e => by cases e; exact ⟨rfl, rfl⟩⟩
theorem InvA.repH (I : InvA K H0 F0 ρ FH T σ H) {l : Lb} {a : AV} {q : List Nat} (h : RepA K FH H ow l a q v) : Rep K H a.erase v :=
  RepA.froze I.sub a q v (fun _ _ _ _ z => z) h
theorem InvA.peek (I : InvA K H0 F0 ρ FH (tmp u v T) σ H) (p : Plc FH σ u v) (h : peek ρ u = some d) : Rep K H d v := by
  unfold DY.peek at h
  cases e : look ρ u with
  | none => rw [e] at h; cases h
  | some a =>
    rw [e] at h
    have h : some a.erase = some d := h
    cases h
    obtain ⟨ow, O⟩ := I.own
    obtain ⟨l, q, r, _⟩ := I.looks O p e
    exact I.repH r
theorem set_get {α : Type} {l : List α} {i : Nat} {x : α} (h : l[i]? = some x) : l.set i x = l := by
  obtain ⟨hi, e⟩ := List.getElem?_eq_some_iff.mp h
  rw [← e]
  exact List.set_getElem_self hi
theorem InvA.frz (I : InvA K H0 F0 ρ FH (tmp u v T) σ H) (p : Plc FH σ u v) (h : frz ρ u = some (d, ρ')) : ∃ FH', Same FH FH' ∧ InvA K H0 F0 ρ' FH' T σ H ∧ Rep K FH' d v := by
  cases u with
  | av a =>
    cases (show some (a.erase, ρ) = some (d, ρ') from h)
    obtain ⟨F, s, J, r⟩ := I.frzT
    exact ⟨F, s, J, r⟩
  | pl i r =>
    have h : (DY.get ρ i).bind (fun a => (nav r a).map fun b => (b.erase, ρ.set i (some (.fz a.erase)))) = some (d, ρ') := h
    cases e : DY.get ρ i with
    | none => rw [e] at h; cases h
    | some t =>
      rw [e] at h
      have h : (nav r t).map (fun b => (b.erase, ρ.set i (some (.fz t.erase)))) = some (d, ρ') := h
      cases e2 : nav r t with
      | none => rw [e2] at h; cases h
      | some b =>
        rw [e2] at h
        cases h
        have I' : InvA K H0 F0 ρ FH T σ H := I
        obtain ⟨ow, O⟩ := I'.own
        have G := I'.gave O (.sl i)
        obtain ⟨w, h1, h2⟩ := p
        obtain ⟨w', g1, g2⟩ := O.slots i t (get_at e)
        rw [h1] at g1; cases g1
        obtain ⟨z, k1, k2⟩ := RepA.nav g2 e2
        cases k1.uniq h2
        obtain ⟨F, w2, s, J, q1, q2⟩ := I'.frzS (get_at e)
        refine ⟨_, G.s, ⟨G.sub, G.tup, I'.ext, I'.fsub.trans G.s, G.fnew, by rw [List.length_set]; exact I'.len, _, ⟨G.out, fun j c e' => ?_, RepT.tr G.s T (fun j hj => G.tr _ (fun z => sl_tm z.symm)) O.tmps⟩⟩, G.rep _ _ _ k2⟩
        by_cases hj : i = j
        · subst hj
          have hi : i < ρ.length := (List.getElem?_eq_some_iff.mp (get_at e)).1
          rw [List.getElem?_set_self hi] at e'
          cases e'
          exact ⟨w, h1, G.rep _ _ _ g2⟩
        · rw [List.getElem?_set_ne hj] at e'
          obtain ⟨y, y1, y2⟩ := O.slots j c e'
          exact ⟨y, y1, RepA.tr G.s c [] [] y (G.tr _ (sl_ne (Ne.symm hj))) y2⟩
theorem InvA.shl (I : InvA K H0 F0 ρ FH (tmp u v T) σ H) (p : Plc FH σ u v) (h : shl ρ u = some (d, ρ')) : ∃ FH', Same FH FH' ∧ InvA K H0 F0 ρ' FH' T σ H ∧ RepS K FH' H d v := by
  unfold DY.shl at h
  cases e : look ρ u with
  | none => rw [e] at h; cases h
  | some a =>
    rw [e] at h
    obtain ⟨ow, O⟩ := I.own
    obtain ⟨l, q, r, _⟩ := I.looks O p e
    cases a with
    | fz c =>
      cases (show some (c, ρ) = some (d, ρ') from h)
      exact ⟨FH, Same.refl _, I.dropV, RepS.of I.sub r⟩
    | ol ds =>
      cases (show some (D.lst ds, ρ) = some (d, ρ') from h)
      obtain ⟨b, xs, e1, _, e3, e4⟩ := r
      exact ⟨FH, Same.refl _, I.dropV, ⟨b, xs, e1, .inl e3, e4⟩⟩
    | ot xs =>
      obtain ⟨F, s, J, z⟩ := I.frz p (show DY.frz ρ u = some (d, ρ') from h)
      exact ⟨F, s, J, RepS.of J.sub z⟩
    | od xs =>
      obtain ⟨F, s, J, z⟩ := I.frz p (show DY.frz ρ u = some (d, ρ') from h)
      exact ⟨F, s, J, RepS.of J.sub z⟩
/-- an own list in a slot -/
theorem InvA.ownL {i : Nat} {p : List Nat} {ds : List D} (I : InvA K H0 F0 ρ FH T σ H) (pl : Plc FH σ (.pl i p) v) (h : look ρ (.pl i p) = some (.ol ds)) : ∃ a xs, v = .ref a ∧ H a = some (.lst xs) ∧ RepL K FH ds xs ∧
    ∀ es ys ρ', RepL K FH es ys → wrt ρ (.pl i p) (.ol es) = some ρ' → InvA K H0 F0 ρ' FH T σ (upd H a (.lst ys)) := by
  have h : (DY.get ρ i).bind (nav p) = some (.ol ds) := h
  cases e : DY.get ρ i with
  | none => rw [e] at h; cases h
  | some t =>
    rw [e] at h
    have h : nav p t = some (.ol ds) := h
    obtain ⟨w, h1, h2⟩ := pl
    obtain ⟨ow, O⟩ := I.own
    obtain ⟨w', g1, g2⟩ := O.slots i t (get_at e)
    rw [h1] at g1; cases g1
    obtain ⟨z, k1, k2⟩ := RepA.nav g2 h
    cases k1.uniq h2
    rw [List.append_nil] at k2
    obtain ⟨a, xs, ea, oa, ha, ra⟩ := k2
    refine ⟨a, xs, ea, ha, ra, fun es ys ρ' hr hw => ?_⟩
    have hw : (DY.get ρ i).bind (fun b => (put p b (.ol es)).map fun c => ρ.set i (some c)) = some ρ' := hw
    rw [e] at hw
    have hw : (put p t (.ol es)).map (fun c => ρ.set i (some c)) = some ρ' := hw
    cases e3 : put p t (.ol es) with
    | none => rw [e3] at hw; cases hw
    | some t' =>
      rw [e3] at hw
      cases hw
      exact I.wr O (get_at e) h e3 h1 h2 oa trivial ⟨a, ys, ea, oa, upd_same, hr⟩
theorem InvA.ownD {i : Nat} {p : List Nat} {kvs : List (Int × AV)} (I : InvA K H0 F0 ρ FH T σ H) (pl : Plc FH σ (.pl i p) v) (h : look ρ (.pl i p) = some (.od kvs)) : ∃ ow a xs, Hold K H0 ρ FH T σ H ow ∧ v = .ref a ∧ ow a = some (.sl i, p.reverse) ∧ H a = some (.dK (keysOf kvs xs)) ∧ RepAK K FH H ow (.sl i) kvs p.reverse 0 xs := by
  obtain ⟨ow, O⟩ := I.own
  obtain ⟨l, q, r, e⟩ := InvA.looks (u := .pl i p) (T := T) I O pl h
  obtain ⟨e1, e2⟩ := e i p rfl
  subst e1 e2
  obtain ⟨a, xs, h1, h2, h3, h4⟩ := r
  exact ⟨ow, a, xs, O, h1, h2, h3, h4⟩

/-! ### forgetting -/
theorem InvA.weak {ρ' : Ev} (I : InvA K H0 F0 ρ FH T σ H) (hl : ρ'.length = ρ.length) (h : ∀ (i : Nat) (a : AV), ρ'[i]? = some (some a) → ρ[i]? = some (some a)) : InvA K H0 F0 ρ' FH T σ H := by
  obtain ⟨ow, O⟩ := I.own
  exact ⟨I.sub, I.tup, I.ext, I.fsub, I.fnew, hl.trans I.len, ow, ⟨O.out, fun i a e => O.slots i a (h i a e), O.tmps⟩⟩
theorem wipe_len : ∀ (is : List Nat) (ρ : Ev), (DY.wipe ρ is).length = ρ.length
  | [], _ => rfl
  | i :: is, ρ => by unfold DY.wipe; rw [List.length_set]; exact wipe_len is ρ
theorem InvA.wipe (I : InvA K H0 F0 ρ FH T σ H) : ∀ is : List Nat, InvA K H0 F0 (DY.wipe ρ is) FH T (L2.wipe σ is) H
  | [] => I
  | i :: is => (InvA.wipe I is).kill i none
def owned : Option AV → Bool
  | some (.fz _) => false
  | some _ => true
  | none => false
/-- own slots are put aside, and come back -/
theorem InvA.asideL : ∀ (is : List Nat) {ρ : Ev} {T : List (V × AV)}, InvA K H0 F0 ρ FH T σ H → ∃ A : List (V × AV), InvA K H0 F0 (DY.wipe ρ is) FH (A ++ T) σ H ∧
    ∀ T2 ρ2 F2 σ2 H2, Same FH F2 → InvA K H0 F0 ρ2 F2 (A ++ T2) σ2 H2 → (∀ i a, ρ[i]? = some (some a) → i ∉ is → ∃ d, a = .fz d) → InvA K H0 F0 ρ F2 T2 σ H2
  | [], ρ, T, I => by
    refine ⟨[], I, fun T2 ρ2 F2 σ2 H2 s J hf => ?_⟩
    obtain ⟨ow, O⟩ := J.own
    obtain ⟨ow1, O1⟩ := I.own
    refine ⟨J.sub, J.tup, J.ext, J.fsub, J.fnew, I.len, ow, ⟨O.out, fun i a e => ?_, O.tmps⟩⟩
    obtain ⟨d, rfl⟩ := hf i a e (by simp)
    obtain ⟨v, h1, h2⟩ := O1.slots i _ e
    exact ⟨v, h1, Rep.mono s d v h2⟩
  | i :: is, ρ, T, I => by
    cases e : DY.get ρ i with
    | none =>
      obtain ⟨A, J, back⟩ := InvA.asideL is I
      refine ⟨A, J.kill' i, fun T2 ρ2 F2 σ2 H2 s J2 hf => back T2 ρ2 F2 σ2 H2 s J2 fun j a e' hj => hf j a e' ?_⟩
      intro hm
      rcases List.mem_cons.mp hm with z | z
      · subst z
        unfold DY.get at e
        rw [e'] at e
        cases e
      · exact hj z
    | some a =>
      obtain ⟨v, h1, J⟩ := I.take (get_at e)
      obtain ⟨A, J1, back⟩ := InvA.asideL is J
      refine ⟨A ++ [(v, a)], ?_, fun T2 ρ2 F2 σ2 H2 s J2 hf => ?_⟩
      · rw [List.append_assoc]
        refine J1.weak ?_ fun j b e' => ?_
        · rw [wipe_len, wipe_len, List.length_set]
        · unfold DY.wipe at e'
          by_cases hj : i = j
          · subst hj
            by_cases hi : i < (DY.wipe ρ is).length
            · rw [List.getElem?_set_self hi] at e'; cases e'
            · rw [List.getElem?_eq_none (by simpa using hi)] at e'; cases e'
          · rw [List.getElem?_set_ne hj] at e'
            exact wipe_set hj is ρ e'
      · rw [List.append_assoc] at J2
        have K1 := back _ ρ2 F2 σ2 H2 s J2 fun j b e' hj => by
          by_cases hji : i = j
          · subst hji
            have hi : i < ρ.length := (List.getElem?_eq_some_iff.mp (get_at e)).1
            rw [List.getElem?_set_self hi] at e'; cases e'
          · rw [List.getElem?_set_ne hji] at e'
            exact hf j b e' (by simp only [List.mem_cons, not_or]; exact ⟨fun z => hji z.symm, hj⟩)
        have K2 := K1.set (i := i)
        have hi : i < ρ.length := (List.getElem?_eq_some_iff.mp (get_at e)).1
        rw [List.set_set, set_get (get_at e), set_get h1] at K2
        exact K2
where
  wipe_set {i j : Nat} {b : AV} (hj : i ≠ j) : ∀ (is : List Nat) (ρ : Ev), (DY.wipe ρ is)[j]? = some (some b) → (DY.wipe (ρ.set i none) is)[j]? = some (some b)
    | [], ρ, h => by
      show (ρ.set i none)[j]? = _
      rw [List.getElem?_set_ne hj]
      exact h
    | k :: is, ρ, h => by
      unfold DY.wipe at h ⊢
      by_cases hk : k = j
      · subst hk
        by_cases hi : k < (DY.wipe ρ is).length
        · rw [List.getElem?_set_self hi] at h; cases h
        · rw [List.getElem?_eq_none (by simpa using hi)] at h; cases h
      · rw [List.getElem?_set_ne hk] at h ⊢
        exact wipe_set hj is ρ h
theorem aside_at {ρ : Ev} {i : Nat} {a : AV} (h : (DY.aside ρ)[i]? = some (some a)) : ∃ d, a = .fz d ∧ ρ[i]? = some (some (.fz d)) := by
  unfold DY.aside at h
  rw [List.getElem?_map] at h
  cases e : ρ[i]? with
  | none => rw [e] at h; cases h
  | some o =>
    rw [e] at h
    have h := Option.some.inj h
    cases o with
    | none => cases h
    | some b =>
      cases b with
      | fz d => cases h; exact ⟨d, rfl, rfl⟩
      | ol _ => cases h
      | ot _ => cases h
      | od _ => cases h
theorem wipe_keep {i : Nat} {a : AV} : ∀ (is : List Nat) (ρ : Ev), ρ[i]? = some (some a) → i ∉ is → (DY.wipe ρ is)[i]? = some (some a)
  | [], _, h, _ => h
  | j :: is, ρ, h, hn => by
    unfold DY.wipe
    rw [List.getElem?_set_ne (fun z => hn (by simp [z]))]
    exact wipe_keep is ρ h fun z => hn (List.mem_cons_of_mem _ z)
theorem InvA.aside (I : InvA K H0 F0 ρ FH T σ H) : ∃ A : List (V × AV), InvA K H0 F0 (DY.aside ρ) FH (A ++ T) σ H ∧
    ∀ T2 ρ2 F2 σ2 H2, Same FH F2 → InvA K H0 F0 ρ2 F2 (A ++ T2) σ2 H2 → InvA K H0 F0 ρ F2 T2 σ H2 := by
  obtain ⟨A, J, back⟩ := InvA.asideL ((List.range ρ.length).filter fun i => owned ((ρ[i]?).join)) I
  refine ⟨A, J.weak (by rw [wipe_len]; unfold DY.aside; rw [List.length_map]) fun i a e => ?_, fun T2 ρ2 F2 σ2 H2 s J2 => back T2 ρ2 F2 σ2 H2 s J2 fun i a e hn => ?_⟩
  · obtain ⟨d, rfl, h⟩ := aside_at e
    refine wipe_keep _ _ h fun hm => ?_
    have := (List.mem_filter.mp hm).2
    rw [h] at this
    cases this
  · cases a with
    | fz d => exact ⟨d, rfl⟩
    | _ =>
      exfalso
      refine hn (List.mem_filter.mpr ⟨List.mem_range.mpr (List.getElem?_eq_some_iff.mp e).1, ?_⟩)
      rw [e]
      rfl
theorem InvA.frzSl {i : Nat} : ∀ (is : List Nat) {ρ : Ev} {FH : Hp}, InvA K H0 F0 ρ FH T σ H → ∃ F, Same FH F ∧ InvA K H0 F0 (DY.frzS ρ is) F T σ H
  | [], ρ, FH, I => ⟨FH, Same.refl _, I⟩
  | i :: is, ρ, FH, I => by
    unfold DY.frzS
    cases e : DY.get ρ i with
    | none => exact InvA.frzSl (i := i) is I
    | some a =>
      obtain ⟨F, v, s, J, _, _⟩ := I.frzS (get_at e)
      obtain ⟨F2, s2, J2⟩ := InvA.frzSl (i := i) is J
      exact ⟨F2, s.trans s2, J2⟩

/-! ### calls -/
/-- behind a call whose arguments are shared -/
theorem InvA.call {a : AV} (I : InvA K H0 F0 ρ FH T σ H) (J : InvA K H FH [] FH' [(v, a)] [] H') : InvA K H0 F0 ρ FH' ((v, a) :: T) σ H' := by
  obtain ⟨ow1, O1⟩ := I.own
  obtain ⟨ow2, O2⟩ := J.own
  have no2 : ∀ b x, ow1 b = some x → ow2 b = none := fun b x e => by
    obtain ⟨_, _, o, ho, _⟩ := O1.out b x e
    cases q : ow2 b with
    | none => rfl
    | some y =>
      obtain ⟨_, h, _⟩ := O2.out b y q
      rw [ho] at h; cases h
  refine ⟨J.sub, J.tup, I.ext.trans J.ext, I.fsub.trans J.fsub, fun b o e => ?_, I.len, fun b => match ow1 b with
    | some x => some x
    | none => match ow2 b with
      | some (_, q) => some (.tm T.length, q)
      | none => none, ?_, ?_, ?_, ?_⟩
  · rcases J.fnew b o e with h | h | h
    · exact .inl h
    · exact I.fnew b o h
    · refine .inr (.inr ?_)
      cases q : H0 b with
      | none => rfl
      | some x => rw [I.ext _ _ q] at h; cases h
  · intro b x e
    cases q : ow1 b with
    | some y =>
      obtain ⟨h1, h2, o, h3, h4⟩ := O1.out b y q
      refine ⟨?_, h2, o, J.ext _ _ h3, h4⟩
      cases z : FH' b with
      | none => rfl
      | some o' =>
        have e1 : H' b = some o' := J.sub _ _ z
        rw [J.ext _ _ h3] at e1
        cases e1
        rcases J.fnew b o z with g | g | g
        · exact absurd g (not_still h4)
        · rw [h1] at g; cases g
        · rw [h3] at g; cases g
    | none =>
      rw [q] at e
      cases q2 : ow2 b with
      | none => rw [q2] at e; cases e
      | some y =>
        obtain ⟨h1, h2, o, h3, h4⟩ := O2.out b y q2
        refine ⟨h1, ?_, o, h3, h4⟩
        cases z : H0 b with
        | none => rfl
        | some w => rw [I.ext _ _ z] at h2; cases h2
  · intro i b e
    obtain ⟨w, h1, h2⟩ := O1.slots i b e
    refine ⟨w, h1, RepA.tr J.fsub b [] [] w (fun c q z => ⟨by rw [z], ?_⟩) h2⟩
    obtain ⟨_, _, o, ho, _⟩ := O1.out c _ z
    rw [ho]
    exact J.ext _ _ ho
  · refine RepA.tr (Same.refl _) a [] [] v (fun c q z => ⟨?_, rfl⟩) O2.tmps.1
    have n1 : ow1 c = none := by
      cases y : ow1 c with
      | none => rfl
      | some y' => rw [no2 c y' y] at z; cases z
    show (match ow1 c with
      | some x => some x
      | none => match ow2 c with
        | some (_, q) => some (Lb.tm T.length, q)
        | none => none) = _
    rw [n1, z]
  · refine RepT.tr J.fsub T (fun j hj c q z => ⟨by rw [z], ?_⟩) O1.tmps
    obtain ⟨_, _, o, ho, _⟩ := O1.out c _ z
    rw [ho]
    exact J.ext _ _ ho
def stillH (FH H : Hp) : Hp := fun b => match H b with
  | some o => if still o then some o else FH b
  | none => FH b
mutual
theorem Rep.thin {F G : Hp} (hs : ∀ b o, F b = some o → still o → G b = some o) : ∀ (d : D) (v : V), thinD d = true → Rep K F d v → Rep K G d v
  | .non, _, _, h => h
  | .bl _, _, _, h => h
  | .int _, _, _, h => h
  | .str _, _, _, h => h
  | .tup ds, v, t, ⟨a, xs, e, q, r⟩ => by
    refine ⟨a, xs, e, ?_, RepL.thin hs ds xs (by simpa only [thinD] using t) r⟩
    rcases q with (q | ⟨o, q⟩) | q
    · exact .inl (.inl (hs _ _ q trivial))
    · exact .inl (.inr ⟨o, hs _ _ q trivial⟩)
    · exact .inr q
  | .lst _, _, t, _ => by simp [thinD] at t
  | .dct _, _, t, _ => by simp [thinD] at t
  | .exc _ _, _, t, _ => by simp [thinD] at t
  | .scr _, _, t, _ => by simp [thinD] at t
theorem RepL.thin {F G : Hp} (hs : ∀ b o, F b = some o → still o → G b = some o) : ∀ (ds : List D) (xs : List V), thinL ds = true → RepL K F ds xs → RepL K G ds xs
  | [], _, _, h => h
  | d :: ds, xs, t, ⟨x, r, e, h, g⟩ => by
    simp only [thinL, Bool.and_eq_true] at t
    exact ⟨x, r, e, Rep.thin hs d x t.1 h, RepL.thin hs ds r t.2 g⟩
end
/-- behind a call whose end can hand nothing back -/
theorem InvA.callThin {d : D} (I : InvA K H0 F0 ρ FH T σ H) (J : InvA K H H [] FH' [(v, .fz d)] [] H') (t : thinD d = true) : ∃ G, Same FH G ∧ InvA K H0 F0 ρ G ((v, .fz d) :: T) σ H' := by
  obtain ⟨ow1, O1⟩ := I.own
  obtain ⟨ow2, O2⟩ := J.own
  have s : Same FH (stillH FH H') := fun b o e => by
    unfold stillH
    have e1 : H' b = some o := J.ext _ _ (I.sub _ _ e)
    rw [e1]
    show (if still o then _ else _) = _
    split
    · rfl
    · exact e
  have hst : ∀ b o, H' b = some o → still o → stillH FH H' b = some o := fun b o e g => by
    unfold stillH
    rw [e]
    show (if still o then _ else _) = _
    rw [if_pos g]
  have cas : ∀ b o, stillH FH H' b = some o → (H' b = some o ∧ still o) ∨ FH b = some o := fun b o e => by
    unfold stillH at e
    cases q : H' b with
    | none => rw [q] at e; exact .inr e
    | some x =>
      rw [q] at e
      by_cases g : still x
      · have e : (if still x then some x else FH b) = some o := e
        rw [if_pos g] at e
        cases e
        exact .inl ⟨rfl, g⟩
      · have e : (if still x then some x else FH b) = some o := e
        rw [if_neg g] at e
        exact .inr e
  refine ⟨_, s, ⟨fun b o e => ?_, hst, I.ext.trans J.ext, I.fsub.trans s, fun b o e => ?_, I.len, ow1, ⟨fun b x e => ?_, fun i b e => ?_, ?_, ?_⟩⟩⟩
  · rcases cas b o e with ⟨h, _⟩ | h
    · exact h
    · exact J.ext _ _ (I.sub _ _ h)
  · rcases cas b o e with ⟨_, h⟩ | h
    · exact .inl h
    · exact I.fnew _ _ h
  · obtain ⟨h1, h2, o, h3, h4⟩ := O1.out b x e
    refine ⟨?_, h2, o, J.ext _ _ h3, h4⟩
    cases z : stillH FH H' b with
    | none => rfl
    | some o' =>
      rcases cas b o' z with ⟨g1, g2⟩ | g
      · rw [J.ext _ _ h3] at g1
        cases g1
        exact absurd g2 (not_still h4)
      · rw [h1] at g; cases g
  · obtain ⟨w, h1, h2⟩ := O1.slots i b e
    refine ⟨w, h1, RepA.tr s b [] [] w (fun c q z => ⟨z, ?_⟩) h2⟩
    obtain ⟨_, _, o, ho, _⟩ := O1.out c _ z
    rw [ho]
    exact J.ext _ _ ho
  · exact Rep.thin (fun b o e g => hst b o (J.sub _ _ e) g) d v t O2.tmps.1
  · refine RepT.tr s T (fun j hj c q z => ⟨z, ?_⟩) O1.tmps
    obtain ⟨_, _, o, ho, _⟩ := O1.out c _ z
    rw [ho]
    exact J.ext _ _ ho
end
end DY
set_option Elab.async false
set_option linter.all false
set_option maxRecDepth 100000
/-! The operators over data. -/
namespace DY
open PySem L2

mutual
def toPy : D → PyData
  | .non => .none
  | .bl b => .bool b
  | .int i => .int i
  | .str s => .str (txt s)
  | .tup ds => .tuple (toPyL ds)
  | .lst ds => .list (toPyL ds)
  | .dct _ => .none
  | .exc _ _ => .none
  | .scr _ => .none
def toPyL : List D → List PyData
  | [] => []
  | d :: ds => toPy d :: toPyL ds
end
theorem txt_inj {s t : List Nat} : txt s = txt t ↔ s = t := by
  constructor
  · intro h
    have h1 : s.toArray = t.toArray := congrArg Str.cps h
    simpa using h1
  · rintro rfl; rfl
theorem txt_ok {s : List Nat} (h : okTxt s = true) : PySem.PyData.strOk (txt s) = true := by
  unfold PySem.PyData.strOk txt
  unfold okTxt at h
  simpa using h
section
variable {K : Fg} {H : Hp}
mutual
theorem dp_of : ∀ (d : D) (v : V), Rep K H d v → depth d ≤ 64 → Dp K H v (toPy d) ∧ (toPy d).canLay0 = true ∧ (toPy d).depth = depth d
  | .non, v, h, _ => by cases (show _ = _ from h); exact ⟨.non, rfl, rfl⟩
  | .bl b, v, h, _ => by cases (show _ = _ from h); exact ⟨.bl b, rfl, rfl⟩
  | .int i, v, h, _ => by cases (show _ = _ from h); exact ⟨.int i, rfl, rfl⟩
  | .str s, v, ⟨h, o⟩, _ => by subst h; exact ⟨.str _, by simp only [toPy, PyData.canLay0]; exact txt_ok o, by simp only [toPy, PyData.depth, depth]⟩
  | .tup ds, v, ⟨a, xs, e, q, r⟩, hd => by
    subst e
    have hd' : depthL ds ≤ 63 := by unfold depth at hd; omega
    obtain ⟨h1, h2, h3⟩ := dp_ofL ds xs r hd'
    exact ⟨.tup q h1, by simp only [toPy, PyData.canLay0]; exact h2, by simp only [toPy, PyData.depth, depth, h3]⟩
  | .lst ds, v, ⟨a, xs, e, q, r⟩, hd => by
    subst e
    have hd' : depthL ds ≤ 63 := by unfold depth at hd; omega
    obtain ⟨h1, h2, h3⟩ := dp_ofL ds xs r hd'
    exact ⟨.lst (.inl q) h1, by simp only [toPy, PyData.canLay0]; exact h2, by simp only [toPy, PyData.depth, depth, h3]⟩
  | .dct kvs, v, _, hd => by unfold depth at hd; omega
  | .exc _ _, v, h, _ => by exact h.elim
  | .scr _, v, _, hd => by unfold depth at hd; omega
theorem dp_ofL : ∀ (ds : List D) (vs : List V), RepL K H ds vs → depthL ds ≤ 63 → DpAll K H vs (toPyL ds) ∧ PyData.canLayAll0 (toPyL ds) = true ∧ PyData.depthAll (toPyL ds) = depthL ds
  | [], vs, h, _ => by cases (show _ = _ from h); exact ⟨.nil, rfl, rfl⟩
  | d :: ds, vs, ⟨x, r, e, h, t⟩, hd => by
    subst e
    unfold depthL at hd
    obtain ⟨a1, a2, a3⟩ := dp_of d x h (by omega)
    obtain ⟨b1, b2, b3⟩ := dp_ofL ds r t (by omega)
    exact ⟨.cons a1 b1, by simp only [toPyL, PyData.canLayAll0, a2, b2, Bool.and_self], by simp only [toPyL, PyData.depthAll, depthL, a3, b3]⟩
end
mutual
theorem eqv_of : ∀ (d e : D), depth d ≤ 64 → depth e ≤ 64 → PyData.eqv (toPy d) (toPy e) = eqD d e
  | .dct _, _, h, _ => by simp only [depth] at h; omega
  | .exc _ _, _, h, _ => by simp only [depth] at h; omega
  | .scr _, _, h, _ => by simp only [depth] at h; omega
  | _, .dct _, _, h => by simp only [depth] at h; omega
  | _, .exc _ _, _, h => by simp only [depth] at h; omega
  | _, .scr _, _, h => by simp only [depth] at h; omega
  | .tup ds, .tup es, h, g => by
    simp only [depth] at h g
    simp only [toPy, PyData.eqv, eqD]
    exact eqv_ofL ds es (by omega) (by omega)
  | .lst ds, .lst es, h, g => by
    simp only [depth] at h g
    simp only [toPy, PyData.eqv, eqD]
    exact eqv_ofL ds es (by omega) (by omega)
  | .str s, .str t, _, _ => by
    simp only [toPy, PyData.eqv, eqD]
    rw [Bool.eq_iff_iff, beq_iff_eq, beq_iff_eq]
    exact txt_inj
  | .non, .non, _, _ | .non, .bl _, _, _ | .non, .int _, _, _ | .non, .str _, _, _ | .non, .tup _, _, _ | .non, .lst _, _, _ => by simp only [toPy, PyData.eqv, eqD]
  | .bl _, .non, _, _ | .bl _, .bl _, _, _ | .bl _, .int _, _, _ | .bl _, .str _, _, _ | .bl _, .tup _, _, _ | .bl _, .lst _, _, _ => by simp only [toPy, PyData.eqv, eqD]
  | .int _, .non, _, _ | .int _, .bl _, _, _ | .int _, .int _, _, _ | .int _, .str _, _, _ | .int _, .tup _, _, _ | .int _, .lst _, _, _ => by simp only [toPy, PyData.eqv, eqD]
  | .str _, .non, _, _ | .str _, .bl _, _, _ | .str _, .int _, _, _ | .str _, .tup _, _, _ | .str _, .lst _, _, _ => by simp only [toPy, PyData.eqv, eqD]
  | .tup _, .non, _, _ | .tup _, .bl _, _, _ | .tup _, .int _, _, _ | .tup _, .str _, _, _ | .tup _, .lst _, _, _ => by simp only [toPy, PyData.eqv, eqD]
  | .lst _, .non, _, _ | .lst _, .bl _, _, _ | .lst _, .int _, _, _ | .lst _, .str _, _, _ | .lst _, .tup _, _, _ => by simp only [toPy, PyData.eqv, eqD]
theorem eqv_ofL : ∀ (ds es : List D), depthL ds ≤ 63 → depthL es ≤ 63 → PyData.eqvAll (toPyL ds) (toPyL es) = eqDs ds es
  | [], [], _, _ => by simp only [toPyL, PyData.eqvAll, eqDs]
  | [], _ :: _, _, _ => by simp only [toPyL, PyData.eqvAll, eqDs]
  | _ :: _, [], _, _ => by simp only [toPyL, PyData.eqvAll, eqDs]
  | d :: ds, e :: es, h, g => by
    simp only [depthL] at h g
    simp only [toPyL, PyData.eqvAll, eqDs]
    rw [eqv_of d e (by omega) (by omega), eqv_ofL ds es (by omega) (by omega)]
end
theorem any_of (d : D) (hd : depth d ≤ 63) : ∀ ds : List D, depthL ds ≤ 63 → (toPyL ds).any (fun z => PyData.eqv z (toPy d)) = ds.any fun z => eqD z d
  | [], _ => rfl
  | e :: es, h => by
    simp only [depthL] at h
    simp only [toPyL, List.any_cons]
    rw [eqv_of e d (by omega) (by omega), any_of d hd es (by omega)]
theorem shaped_of {d : D} {v : V} (r : Rep K H d v) (h : depth d ≤ 64) : SeqAt.shaped (toPy d) = true := by
  obtain ⟨_, h1, h2⟩ := dp_of d v r h
  unfold SeqAt.shaped
  rw [h1, h2]
  simpa using h

/-! ### what is new -/
def NewQ (K : Fg) (FH H : Hp) (a : AV) (Q : VK) : Prop := match a with
  | .fz (.tup ds) => (∀ v, Rep K FH (.tup ds) v → Q v H) ∧ ∀ xs p, RepL K FH ds xs → H p = none → Q (.ref p) (upd H p (.tup xs))
  | .fz d => ∀ v, Rep K FH d v → Q v H
  | .ol ds => ∀ xs p, RepL K FH ds xs → H p = none → Q (.ref p) (upd H p (.lst xs))
  | _ => False
theorem InvA.newQ {H0 F0 FH : Hp} {ρ : Ev} {T : List (V × AV)} {σ : St} {a : AV} {Q : VK} (I : InvA K H0 F0 ρ FH T σ H) (ha : (∃ d, a = .fz d) ∨ ∃ ds, a = .ol ds)
    (h : ∀ v H' FH', Same FH FH' → InvA K H0 F0 ρ FH' ((v, a) :: T) σ H' → Q v H') : NewQ K FH H a Q := by
  rcases ha with ⟨d, rfl⟩ | ⟨ds, rfl⟩
  · have hv : ∀ v, Rep K FH d v → Q v H := fun v r => h v H FH (Same.refl _) (I.push r)
    cases d with
    | tup ds => exact ⟨hv, fun xs p r hp => h _ _ _ (same_upd (none_of_sub I.sub hp)) (I.newTup hp r)⟩
    | _ => exact hv
  · exact fun xs p r hp => h _ _ _ (Same.refl _) (I.newLst hp r)
theorem NewQ.fz {FH : Hp} {d : D} {v : V} {Q : VK} (h : NewQ K FH H (.fz d) Q) (r : Rep K FH d v) : Q v H := by
  cases d with
  | tup ds => exact h.1 v r
  | _ => exact h v r
end

def opB : Bop → Operator
  | .add => .Add | .sub => .Sub | .mul => .Mult | .div => .FloorDiv | .mod => .Mod | .pow => .Pow
theorem rd_lst {X : Cx} {pins : List (Addr × Obj)} {σ : St} {H : Hp} {s : Shared} {l : Addr} {xs : List V} (I : Inv X pins σ H s) (h : Rd H l (.lst xs)) :
    xs.length ≤ sizeLine ∧ ∃ (its : List Value) (n : Nat), Vals xs its ∧ s.heap.get? l = some { cls := .type "list", data := .seq its.toArray n } := h.ok I.hok
theorem op_catR {X : Cx} : OpR X (binaryOp .Add) (fun x y H Q => ∃ l b xs zs, x = .ref l ∧ y = .ref b ∧ Rd H l (.lst xs) ∧ Rd H b (.lst zs) ∧ xs.length + zs.length ≤ sizeLine ∧ ∀ p, H p = none → Q (.ref p) (upd H p (.lst (xs ++ zs)))) := by
  intro pins s σ H x y v u Q I rx ry ⟨l, b, xs, zs, ex, ey, hl, hb, hz, q⟩
  subst ex ey
  have ev : v = .ref l := rx
  have eu : u = .ref b := ry
  subst ev eu
  obtain ⟨_, is, n, r, e⟩ := rd_lst I hl
  obtain ⟨_, js, m, r', e'⟩ := rd_lst I hb
  have n1 := r.length
  have n2 := r'.length
  refine PySem.P.add_list e e' ?_ (by simp only [List.size_toArray]; omega)
  rw [show is.toArray ++ js.toArray = (is ++ js).toArray from by simp]
  exact ⟨V.ref _, upd H _ _, I.lnew (t' := s.toks) (r.append r') (by simp only [List.length_append]; exact hz), rfl, q _ I.fresh⟩
theorem op_fdivD {X : Cx} : OpR X (binaryOp .FloorDiv) (rI (fun _ j => divOk j) fun i j => .int (i.fdiv j)) :=
  opI fun _ _ _ _ _ _ _ c q => PyProof.Rows.floordiv_int c.1 q (.inl (PyProof.noPylong_of_log2 c.2))
theorem rep_str {s : List Nat} : ∀ n : Nat, (List.replicate n s.toArray).foldl (· ++ ·) #[] = (List.replicate n s).flatten.toArray := by
  have h : ∀ (n : Nat) (acc : List Nat), (List.replicate n s.toArray).foldl (· ++ ·) acc.toArray = (acc ++ (List.replicate n s).flatten).toArray := by
    intro n
    induction n with
    | zero => intro acc; simp
    | succ n ih =>
      intro acc
      rw [List.replicate_succ, List.replicate_succ, List.foldl_cons, List.flatten_cons]
      rw [show acc.toArray ++ s.toArray = (acc ++ s).toArray from by simp, ih, List.append_assoc]
  intro n
  have := h n []
  simpa using this
theorem len_flat {α : Type} (s : List α) : ∀ n : Nat, (List.replicate n s).flatten.length = n * s.length
  | 0 => by simp
  | n + 1 => by rw [List.replicate_succ, List.flatten_cons, List.length_append, len_flat s n, Nat.succ_mul]; omega
theorem op_mulS {X : Cx} : OpR X (binaryOp .Mult) (fun x y H Q => ∃ (z : List Nat) (n : Int), x = .str (txt z) ∧ y = .int n ∧ 0 ≤ n ∧ n ≤ 1000 ∧ z.length ≤ 1000 ∧ Q (.str (txt (List.replicate n.toNat z).flatten)) H) := by
  intro pins s σ H x y v u Q I rx ry ⟨z, n, ex, ey, h0, h1, h2, q⟩
  subst ex ey
  obtain ⟨t, rfl⟩ := rx
  obtain ⟨t', rfl⟩ := ry
  have hlen : (txt z).length = z.length := by unfold txt; simp [Str.length]
  have hm : z.length * n.toNat ≤ 1000000 := Nat.le_trans (Nat.mul_le_mul h2 (show n.toNat ≤ 1000 by omega)) (by decide)
  refine PySem.P.mul_str ?_ ?_ ?_ ?_
  · rw [decide_eq_false (by omega), decide_eq_false (by omega)]; rfl
  · intro hn _ hg
    rw [hlen] at hg
    have : (1000000000000 : Int) ≤ (2 ^ 63 - 1) / n := by
      have a1 : (0 : Int) < n := by omega
      rw [Int.le_ediv_iff_mul_le a1]
      have : (1000000000000 : Int) * n ≤ 1000000000000 * 1000 := Int.mul_le_mul_of_nonneg_left h1 (by omega)
      omega
    omega
  · intro _ _
    rw [hlen]
    unfold Builtin.Str.tooLong
    have : ¬ z.length * n.toNat > sizeLine := by unfold sizeLine; omega
    simpa using this
  · split
    · rename_i hn
      have e0 : n.toNat = 0 := by omega
      rw [e0] at q
      exact ⟨by decide, .str (txt []), H, I.tok _, ⟨_, rfl⟩, q⟩
    · split
      · rename_i hn hc
        refine ⟨.str (txt (List.replicate n.toNat z).flatten), H, I, ⟨t, ?_⟩, q⟩
        rw [Bool.or_eq_true, beq_iff_eq, beq_iff_eq, hlen] at hc
        rcases hc with hc | hc
        · subst hc; simp
        · have : z = [] := List.length_eq_zero_iff.mp hc
          subst this
          have : ∀ k : Nat, (List.replicate k ([] : List Nat)).flatten = [] := fun k => by
            induction k with
            | zero => rfl
            | succ k ih => rw [List.replicate_succ, List.flatten_cons, ih]; rfl
          rw [this]
      · have e1 : (txt z).cps = z.toArray := rfl
        rw [e1, rep_str]
        refine ⟨?_, .str (txt (List.replicate n.toNat z).flatten), H, I.tok _, ⟨_, rfl⟩, q⟩
        show (List.replicate n.toNat z).flatten.toArray.size ≤ sizeLine
        rw [List.size_toArray, len_flat, Nat.mul_comm]
        unfold sizeLine
        omega
theorem okTxt_app {s t : List Nat} (h : okTxt s = true) (g : okTxt t = true) : okTxt (s ++ t) = true := by
  unfold okTxt at *
  rw [List.all_append, h, g]; rfl
theorem okTxt_rep {s : List Nat} (h : okTxt s = true) : ∀ n : Nat, okTxt (List.replicate n s).flatten = true
  | 0 => rfl
  | n + 1 => by rw [List.replicate_succ, List.flatten_cons]; exact okTxt_app h (okTxt_rep h n)
theorem line_eq : line = sizeLine := by decide
theorem op_bin {X : Cx} (o : Bop) : OpR X (binaryOp (opB o)) (fun x y H Q => ∃ FH d e a, Same FH H ∧ RepS X.K FH H d x ∧ RepS X.K FH H e y ∧ binD o d e = some a ∧ NewQ X.K FH H a Q) := by
  intro pins s σ H x y v u Q I rx ry ⟨FH, d, e, a, sF, hx, hy, hb, hq⟩
  cases d <;> cases e <;> first | (exfalso; cases o <;> simp [binD] at hb; done) | skip
  case int.int i j =>
    have ex : x = .int i := hx
    have ey : y = .int j := hy
    cases o with
    | add => cases hb; exact op_add pins s σ H x y v u Q I rx ry ⟨i, j, ex, ey, hq.fz rfl⟩
    | sub => cases hb; exact op_sub pins s σ H x y v u Q I rx ry ⟨i, j, ex, ey, hq.fz rfl⟩
    | mul =>
      simp only [binD] at hb
      split at hb
      · rename_i hc; cases hb; exact op_mulW pins s σ H x y v u Q I rx ry ⟨i, j, ex, ey, hc, hq.fz rfl⟩
      · cases hb
    | div =>
      simp only [binD] at hb
      split at hb
      · rename_i hc; cases hb; exact op_fdivD pins s σ H x y v u Q I rx ry ⟨i, j, ex, ey, hc, hq.fz rfl⟩
      · cases hb
    | mod =>
      simp only [binD] at hb
      split at hb
      · rename_i hc; cases hb; exact op_modN pins s σ H x y v u Q I rx ry ⟨i, j, ex, ey, hc, hq.fz rfl⟩
      · cases hb
    | pow =>
      simp only [binD] at hb
      split at hb
      · rename_i hc; cases hb; exact op_pow pins s σ H x y v u Q I rx ry ⟨i, j, ex, ey, hc, hq.fz rfl⟩
      · cases hb
  case str.str z w =>
    cases o <;> first | (simp [binD] at hb; done) | skip
    simp only [binD] at hb
    split at hb
    · rename_i hc
      cases hb
      obtain ⟨ex, ox⟩ := hx
      obtain ⟨ey, oy⟩ := hy
      refine op_add_str pins s σ H x y v u Q I rx ry ⟨txt z, txt w, ex, ey, ?_, ?_⟩
      · rw [line_eq] at hc
        simpa [txt, Str.length] using hc
      · have e3 : txt z ++ txt w = txt (z ++ w) := by
          show Str.mk (z.toArray ++ w.toArray) = Str.mk (z ++ w).toArray
          simp
        rw [e3]
        exact hq.fz ⟨rfl, okTxt_app ox oy⟩
    · cases hb
  case str.int z n =>
    cases o <;> first | (simp [binD] at hb; done) | skip
    simp only [binD] at hb
    split at hb
    · rename_i hc
      cases hb
      obtain ⟨ex, ox⟩ := hx
      exact op_mulS pins s σ H x y v u Q I rx ry ⟨z, n, ex, hy, hc.1, hc.2.1, hc.2.2, hq.fz ⟨rfl, okTxt_rep ox _⟩⟩
    · cases hb
  case lst.lst ds es =>
    cases o <;> first | (simp [binD] at hb; done) | skip
    simp only [binD] at hb
    split at hb
    · rename_i hc
      cases hb
      obtain ⟨l, xs, ex, hl, r⟩ := hx
      obtain ⟨b, ys, ey, hb, r'⟩ := hy
      exact op_catR pins s σ H x y v u Q I rx ry ⟨l, b, xs, ys, ex, ey, hl, hb, by rw [r.len, r'.len]; rw [line_eq] at hc; exact hc, fun p hp => hq _ p (r.app r') hp⟩
    · cases hb
  case tup.tup ds es =>
    cases o <;> first | (simp [binD] at hb; done) | skip
    simp only [binD] at hb
    split at hb
    · rename_i hc
      cases hb
      have hx0 := hx
      have hy0 := hy
      obtain ⟨l, xs, ex, hl, r⟩ := hx
      obtain ⟨b, ys, ey, hb, r'⟩ := hy
      refine op_catA pins s σ H x y v u Q I rx ry ⟨l, b, xs, ys, ex, ey, sqT_mono sF hl, sqT_mono sF hb, by rw [r.len, r'.len]; rw [line_eq] at hc; exact hc, fun h => ?_, fun _ h => ?_, fun _ _ p hp => hq.2 _ p (r.app r') hp⟩
      · subst h
        have : ds = [] := by have := r.len; cases ds with | nil => rfl | cons _ _ => simp at this
        subst this
        rw [← ey]
        exact hq.1 _ hy0
      · subst h
        have : es = [] := by have := r'.len; cases es with | nil => rfl | cons _ _ => simp at this
        subst this
        rw [← ex, List.append_nil] at *
        exact hq.1 _ hx0
    · cases hb
end DY
set_option Elab.async false
set_option linter.all false
set_option maxRecDepth 100000
/-! Comparisons, builtins, isinstance. -/
namespace DY
open PySem L2
section
variable {X : Cx} {H FH : Hp}

def opC : Cop → CmpOp
  | .eq => .Eq | .ne => .NotEq | .lt => .Lt | .le => .LtE | .gt => .Gt | .ge => .GtE | .isIn => .In | .notIn => .NotIn | .isN => .Is | .notN => .IsNot

theorem flat_of : ∀ {d : D} {v : V}, Rep X.K H d v → depth d = 0 → flatV v = true
  | .non, v, h, _ => by cases (show _ = _ from h); rfl
  | .bl b, v, h, _ => by cases (show _ = _ from h); rfl
  | .int b, v, h, _ => by cases (show _ = _ from h); rfl
  | .str b, v, ⟨h, _⟩, _ => by subst h; rfl
  | .tup _, _, _, h => by simp [depth] at h
  | .lst _, _, _, h => by simp [depth] at h
  | .dct _, _, _, h => by simp [depth] at h
  | .exc _ _, _, _, h => by simp [depth] at h
  | .scr _, _, _, h => by simp [depth] at h
theorem flats_of : ∀ {ds : List D} {vs : List V}, RepL X.K H ds vs → depthL ds = 0 → vs.all flatV = true
  | [], _, h, _ => by cases (show _ = _ from h); rfl
  | d :: ds, _, ⟨x, r, e, h, t⟩, hd => by
    subst e
    simp only [depthL] at hd
    rw [List.all_cons, flat_of h (by omega), flats_of t (by omega)]; rfl
theorem eqV_of : ∀ {d e : D} {v u : V}, Rep X.K H d v → Rep X.K H e u → depth d = 0 → depth e = 0 → eqV v u = eqD d e := by
  intro d e v u h g hd he
  cases d <;> cases e <;> first
    | (simp [depth] at hd; done)
    | (simp [depth] at he; done)
    | (cases (show _ = _ from h); cases (show _ = _ from g); simp only [eqV, eqD]; done)
    | (obtain ⟨h, _⟩ := h; subst h; cases (show _ = _ from g); simp only [eqV, eqD]; done)
    | (obtain ⟨g, _⟩ := g; subst g; cases (show _ = _ from h); simp only [eqV, eqD]; done)
    | skip
  obtain ⟨h, _⟩ := h
  obtain ⟨g, _⟩ := g
  subst h g
  simp only [eqV, eqD]
  rw [Bool.eq_iff_iff, beq_iff_eq, beq_iff_eq]
  exact txt_inj
theorem inV_of {d : D} {v : V} (h : Rep X.K H d v) (hd : depth d = 0) : ∀ {ds : List D} {vs : List V}, RepL X.K H ds vs → depthL ds = 0 → inV v vs = ds.any fun e => eqD e d
  | [], _, r, _ => by cases (show _ = _ from r); rfl
  | e :: es, _, ⟨x, r, q, g, t⟩, hl => by
    subst q
    simp only [depthL] at hl
    have ih := inV_of h hd t (by omega)
    unfold inV at ih ⊢
    rw [List.any_cons, List.any_cons, eqV_of g h (by omega) hd, ih]
theorem isNon_of {d : D} {v : V} (h : Rep X.K H d v) : decide (v = .non) = (match d with | .non => true | _ => false) := by
  cases d with
  | non => cases (show _ = _ from h); rfl
  | bl b => cases (show _ = _ from h); rfl
  | int b => cases (show _ = _ from h); rfl
  | str s => obtain ⟨h, _⟩ := h; subst h; rfl
  | tup ds => obtain ⟨a, xs, h, _⟩ := h; subst h; rfl
  | lst ds => obtain ⟨a, xs, h, _⟩ := h; subst h; rfl
  | dct ds => obtain ⟨a, xs, h, _⟩ := h; subst h; rfl
  | exc _ _ => exact h.elim
  | scr _ => obtain ⟨a, h, _⟩ := h; subst h; rfl

theorem op_cmp (hu : X.A.units + 65 < cLine) (o : Cop) : OpR X (compareOp (opC o)) (fun x y H Q => ∃ d e b, Rep X.K H d x ∧ Rep X.K H e y ∧ cmpD o d e = some b ∧ Q (.bl b) H) := by
  intro pins s σ H x y v u Q I rx ry ⟨d, e, b, hx, hy, hb, hq⟩
  have hu4 : X.A.units + 64 < cLine := by omega
  cases o with
  | eq =>
    simp only [cmpD] at hb
    split at hb
    · rename_i hc
      cases hb
      refine op_eqD hu4 pins s σ H x y v u Q I rx ry ⟨toPy d, toPy e, (dp_of d x hx hc.1).1, (dp_of e y hy hc.2).1, shaped_of hx hc.1, shaped_of hy hc.2, ?_⟩
      rw [eqv_of d e hc.1 hc.2]; exact hq
    · cases hb
  | ne =>
    simp only [cmpD] at hb
    split at hb
    · rename_i hc
      cases hb
      refine op_neD hu4 pins s σ H x y v u Q I rx ry ⟨toPy d, toPy e, (dp_of d x hx hc.1).1, (dp_of e y hy hc.2).1, shaped_of hx hc.1, shaped_of hy hc.2, ?_⟩
      rw [eqv_of d e hc.1 hc.2]; exact hq
    · cases hb
  | lt =>
    cases d <;> cases e <;> first | (simp [cmpD] at hb; done) | skip
    cases hb; exact op_lt pins s σ H x y v u Q I rx ry ⟨_, _, hx, hy, hq⟩
  | le =>
    cases d <;> cases e <;> first | (simp [cmpD] at hb; done) | skip
    cases hb; exact op_le pins s σ H x y v u Q I rx ry ⟨_, _, hx, hy, hq⟩
  | gt =>
    cases d <;> cases e <;> first | (simp [cmpD] at hb; done) | skip
    cases hb; exact op_gt pins s σ H x y v u Q I rx ry ⟨_, _, hx, hy, hq⟩
  | ge =>
    cases d <;> cases e <;> first | (simp [cmpD] at hb; done) | skip
    cases hb; exact op_ge pins s σ H x y v u Q I rx ry ⟨_, _, hx, hy, hq⟩
  | isIn =>
    cases e <;> first | (simp [cmpD] at hb; done) | skip
    case str t =>
      cases d <;> first | (simp [cmpD] at hb; done) | skip
      rename_i w
      rcases w with _ | ⟨c, _ | ⟨c2, r⟩⟩ <;> first | (simp [cmpD] at hb; done) | skip
      cases hb
      obtain ⟨hx, _⟩ := hx
      obtain ⟨hy, _⟩ := hy
      exact op_in_sign pins s σ H x y v u Q I rx ry ⟨c, txt t, hx, hy, hq⟩
    case lst ds =>
      simp only [cmpD] at hb
      split at hb
      · rename_i hc
        cases hb
        have hd : depth (.lst ds) ≤ 64 := by simp only [depth]; omega
        have h1 := (dp_of (.lst ds) y hy hd).1
        have h2 := shaped_of hy hd
        simp only [toPy] at h1 h2
        refine op_inD hu pins s σ H x y v u Q I rx ry ⟨toPy d, toPyL ds, (dp_of d x hx (by omega)).1, h1, shaped_of hx (by omega), h2, ?_⟩
        rw [any_of d hc.1 ds hc.2]; exact hq
      · cases hb
    case tup ds =>
      simp only [cmpD] at hb
      split at hb
      · rename_i hc
        cases hb
        obtain ⟨a, xs, ey, q, r⟩ := hy
        refine op_in_seq pins s σ H x y v u Q I rx ry ⟨a, xs, ey, .inr q, flat_of hx hc.1, flats_of r hc.2, ?_⟩
        rw [inV_of hx hc.1 r hc.2]; exact hq
      · cases hb
  | notIn =>
    cases e <;> first | (simp [cmpD] at hb; done) | skip
    case str t =>
      cases d <;> first | (simp [cmpD] at hb; done) | skip
      rename_i w
      rcases w with _ | ⟨c, _ | ⟨c2, r⟩⟩ <;> first | (simp [cmpD] at hb; done) | skip
      cases hb
      obtain ⟨hx, _⟩ := hx
      obtain ⟨hy, _⟩ := hy
      exact op_notIn_sign pins s σ H x y v u Q I rx ry ⟨c, txt t, hx, hy, hq⟩
    case lst ds =>
      simp only [cmpD] at hb
      split at hb
      · rename_i hc
        cases hb
        have hd : depth (.lst ds) ≤ 64 := by simp only [depth]; omega
        have h1 := (dp_of (.lst ds) y hy hd).1
        have h2 := shaped_of hy hd
        simp only [toPy] at h1 h2
        refine op_notInD hu pins s σ H x y v u Q I rx ry ⟨toPy d, toPyL ds, (dp_of d x hx (by omega)).1, h1, shaped_of hx (by omega), h2, ?_⟩
        rw [any_of d hc.1 ds hc.2]; exact hq
      · cases hb
    case tup ds =>
      simp only [cmpD] at hb
      split at hb
      · rename_i hc
        cases hb
        obtain ⟨a, xs, ey, q, r⟩ := hy
        refine op_notIn_seq pins s σ H x y v u Q I rx ry ⟨a, xs, ey, .inr q, flat_of hx hc.1, flats_of r hc.2, ?_⟩
        rw [inV_of hx hc.1 r hc.2]; exact hq
      · cases hb
  | isN =>
    cases e <;> first | (simp [cmpD] at hb; done) | skip
    case non =>
      have ey : y = .non := hy
      refine op_isN pins s σ H x y v u Q I rx ry ⟨ey, ?_⟩
      rw [isNon_of hx]
      cases d <;> (simp only [cmpD] at hb; cases hb; exact hq)
    case bl c =>
      cases d <;> first | (simp [cmpD] at hb; done) | skip
      cases hb
      exact op_isBl pins s σ H x y v u Q I rx ry ⟨_, _, hx, hy, hq⟩
  | notN =>
    cases e <;> first | (simp [cmpD] at hb; done) | skip
    case non =>
      have ey : y = .non := hy
      refine op_notN pins s σ H x y v u Q I rx ry ⟨ey, ?_⟩
      rw [isNon_of hx]
      cases d <;> (simp only [cmpD] at hb; cases hb; exact hq)
    case bl c =>
      cases d <;> first | (simp [cmpD] at hb; done) | skip
      cases hb
      exact op_notBl pins s σ H x y v u Q I rx ry ⟨_, _, hx, hy, hq⟩

/-! ### texts in order -/
theorem leS_lt : ∀ s t : List Nat, leS s t = !PySem.Spec.ltCps t s
  | [], [] => rfl
  | [], _ :: _ => rfl
  | _ :: _, [] => rfl
  | a :: s, b :: t => by
    unfold leS PySem.Spec.ltCps
    rw [leS_lt s t]
    by_cases h : a < b
    · have h1 : ¬ b < a := by omega
      have h2 : ¬ b = a := by omega
      simp [h, h1, h2]
    · by_cases h1 : b < a
      · simp [h, h1]
      · have h2 : b = a := by omega
        subst h2; simp
theorem rising_pw : ∀ (ys : List Str) (p : Str), PyProof.Rows.risingS p ys = true → (p :: ys).Pairwise (fun a b => leS a.cps.toList b.cps.toList = true)
  | [], p, _ => by simp
  | y :: ys, p, h => by
    unfold PyProof.Rows.risingS at h
    rw [Bool.and_eq_true] at h
    have h1 : leS p.cps.toList y.cps.toList = true := by rw [leS_lt]; exact h.1
    have ih := rising_pw ys y h.2
    refine List.pairwise_cons.mpr ⟨fun z hz => ?_, ih⟩
    rcases List.mem_cons.mp hz with rfl | hz
    · exact h1
    · exact leS_trans _ _ _ h1 ((List.pairwise_cons.mp ih).1 z hz)
theorem sorted_pw : ∀ ys : List Str, PyProof.Rows.sortedS ys = true → ys.Pairwise (fun a b => leS a.cps.toList b.cps.toList = true)
  | [], _ => .nil
  | y :: ys, h => rising_pw ys y h
theorem sorted_is {ss : List (List Nat)} {ys : List Str} (p : ys.Perm (ss.map txt)) (h : PyProof.Rows.sortedS ys = true) : ys = (sortS ss).map txt := by
  have h1 := sorted_pw ys h
  have h2 : (ys.map fun y => y.cps.toList).Pairwise (fun a b => leS a b = true) := List.pairwise_map.mpr h1
  have h3 : (ys.map fun y => y.cps.toList).Perm (sortS ss) := by
    refine (p.map _).trans ?_
    rw [List.map_map]
    have : ((fun y : Str => y.cps.toList) ∘ txt) = id := by funext s; simp [txt]
    rw [this, List.map_id]
    exact (sortS_perm ss).symm
  have h4 : (ys.map fun y => y.cps.toList) = sortS ss := h3.eq_of_pairwise (fun a b _ _ x y => leS_anti a b x y) h2 (sortS_sorted ss)
  rw [← h4, List.map_map]
  have : (txt ∘ fun y : Str => y.cps.toList) = id := by funext y; simp [txt]
  rw [this, List.map_id]
theorem strs_of : ∀ {ds : List D} {ss : List (List Nat)} {vs : List V}, strsOf ds = some ss → RepL X.K H ds vs → vs = (ss.map txt).map V.str ∧ ∀ s ∈ ss, okTxt s = true
  | [], ss, vs, h, r => by cases h; cases (show _ = _ from r); exact ⟨rfl, by simp⟩
  | d :: ds, ss, vs, h, ⟨x, r, e, q, t⟩ => by
    cases d <;> simp only [strsOf] at h <;> first | (cases h; done) | skip
    rename_i s
    cases hs : strsOf ds with
    | none => rw [hs] at h; cases h
    | some ss' =>
      rw [hs] at h
      cases h
      obtain ⟨i1, i2⟩ := strs_of hs t
      obtain ⟨q, o⟩ := q
      subst e q i1
      exact ⟨rfl, fun z hz => by rcases List.mem_cons.mp hz with e | hz; (subst e; exact o); (exact i2 z hz)⟩
theorem of_strs : ∀ {ss : List (List Nat)}, (∀ s ∈ ss, okTxt s = true) → RepL X.K H (ss.map .str) ((ss.map txt).map V.str)
  | [], _ => rfl
  | s :: ss, h => ⟨_, _, rfl, ⟨rfl, h s (by simp)⟩, of_strs fun z hz => h z (by simp [hz])⟩
theorem strs_len : ∀ {ds : List D} {ss : List (List Nat)}, strsOf ds = some ss → ss.length = ds.length
  | [], ss, h => by cases h; rfl
  | d :: ds, ss, h => by
    cases d <;> simp only [strsOf] at h <;> first | (cases h; done) | skip
    cases hs : strsOf ds with
    | none => rw [hs] at h; cases h
    | some ss' => rw [hs] at h; cases h; simp [strs_len hs]
theorem ints_of : ∀ {ds : List D} {ss : List Int} {vs : List V}, intsOf ds = some ss → RepL X.K H ds vs → vs = ss.map V.int
  | [], ss, vs, h, r => by cases h; cases (show _ = _ from r); rfl
  | d :: ds, ss, vs, h, ⟨x, r, e, q, t⟩ => by
    cases d <;> simp only [intsOf] at h <;> first | (cases h; done) | skip
    rename_i s
    cases hs : intsOf ds with
    | none => rw [hs] at h; cases h
    | some ss' =>
      rw [hs] at h
      cases h
      have i1 := ints_of hs t
      cases (show _ = _ from q)
      subst e i1
      rfl
theorem bls_of : ∀ {ds : List D} {ss : List Bool} {vs : List V}, blsOf ds = some ss → RepL X.K H ds vs → vs = ss.map V.bl
  | [], ss, vs, h, r => by cases h; cases (show _ = _ from r); rfl
  | d :: ds, ss, vs, h, ⟨x, r, e, q, t⟩ => by
    cases d <;> simp only [blsOf] at h <;> first | (cases h; done) | skip
    rename_i s
    cases hs : blsOf ds with
    | none => rw [hs] at h; cases h
    | some ss' =>
      rw [hs] at h
      cases h
      have i1 := bls_of hs t
      cases (show _ = _ from q)
      subst e i1
      rfl
theorem maxF : ∀ (xs : List Int) (x m : Int), m ∈ x :: xs → (∀ y ∈ x :: xs, y ≤ m) → xs.foldl (fun a b => if a < b then b else a) x = m
  | [], x, m, h, _ => by simp at h; exact h.symm
  | y :: ys, x, m, h, g => by
    rw [List.foldl_cons]
    have hx := g x (by simp)
    have hy := g y (by simp)
    refine maxF ys _ m ?_ fun z hz => ?_
    · simp only [List.mem_cons] at h ⊢
      split <;> rcases h with h | h | h
      · left; omega
      · exact .inl h
      · exact .inr h
      · exact .inl h
      · left; omega
      · exact .inr h
    · rcases List.mem_cons.mp hz with rfl | hz
      · split <;> assumption
      · exact g z (by simp [hz])
theorem minF : ∀ (xs : List Int) (x m : Int), m ∈ x :: xs → (∀ y ∈ x :: xs, m ≤ y) → xs.foldl (fun a b => if b < a then b else a) x = m
  | [], x, m, h, _ => by simp at h; exact h.symm
  | y :: ys, x, m, h, g => by
    rw [List.foldl_cons]
    have hx := g x (by simp)
    have hy := g y (by simp)
    refine minF ys _ m ?_ fun z hz => ?_
    · simp only [List.mem_cons] at h ⊢
      split <;> rcases h with h | h | h
      · left; omega
      · exact .inl h
      · exact .inr h
      · exact .inl h
      · left; omega
      · exact .inr h
    · rcases List.mem_cons.mp hz with rfl | hz
      · split <;> assumption
      · exact g z (by simp [hz])

/-! ### builtins -/
def bfV : Bf → Value
  | .len => .builtin "len" | .abs => .builtin "abs" | .max => .builtin "max" | .min => .builtin "min"
  | .list => .type "list" | .tuple => .type "tuple" | .sorted => .builtin "sorted" | .int => .type "int" | .all => .builtin "all" | .lrange => .none
def isLrange : Bf → Bool
  | .lrange => true
  | _ => false
def isLen : Bf → Bool
  | .len => true
  | _ => false
theorem call_b1 (hc : X.calm = true) (f : Bf) (hf : isLrange f = false) : CallR X (bfV f) (fun vs H Q => ∃ FH F2 d a v, vs = [v] ∧ Same FH H ∧ Same F2 H ∧ (F2 = FH ∨ isLen f = true) ∧ RepS X.K F2 H d v ∧ bltD f [d] = some a ∧ NewQ X.K FH H a Q) := by
  intro pins s σ H xs us Q I r ⟨FH, F2, d, a, v, ex, sF, s2, hF, hv, hb, hq⟩
  subst ex
  cases f with
  | lrange => cases hf
  | len =>
    cases d <;> first | (simp [bltD] at hb; done) | skip
    case lst ds =>
      cases hb
      obtain ⟨b, ys, e, q, t⟩ := hv
      exact call_len_seq pins s σ H _ us Q I r ⟨b, ys, by rw [e], .inl (.inl q), by rw [t.len]; exact hq.fz rfl⟩
    case scr ns =>
      cases hb
      obtain ⟨b, e, q⟩ := hv
      exact call_len_seq pins s σ H _ us Q I r ⟨b, _, by rw [e], .inl (q.elim (fun h => .inl (rd_mono s2 h)) .inr), by rw [List.length_map]; exact hq.fz rfl⟩
    case tup ds =>
      cases hb
      obtain ⟨b, ys, e, q, t⟩ := hv
      exact call_len_seq pins s σ H _ us Q I r ⟨b, ys, by rw [e], .inr (sqT_mono s2 q), by rw [t.len]; exact hq.fz rfl⟩
    case str t =>
      obtain ⟨e, o⟩ := hv
      simp only [bltD] at hb
      split at hb
      · rename_i hl
        cases hb
        refine call_len_str pins s σ H _ us Q I r ⟨txt t, by rw [e], ?_, ?_⟩
        · show t.toArray.size ≤ sizeLine
          rw [List.size_toArray, ← line_eq]; exact hl
        · have : (txt t).length = t.length := by show t.toArray.size = _; rw [List.size_toArray]
          rw [this]
          exact hq.fz rfl
      · cases hb
  | abs =>
    cases d <;> first | (simp [bltD] at hb; done) | skip
    cases hb
    exact call_abs pins s σ H _ us Q I r ⟨_, by rw [show v = _ from hv], hq.fz rfl⟩
  | max =>
    cases d <;> first | (simp [bltD] at hb; done) | skip
    rename_i ds
    have e2 : F2 = FH := hF.resolve_right (by decide)
    subst e2
    obtain ⟨b, ys, e, q, t⟩ := hv
    simp only [bltD] at hb
    cases hi : intsOf ds with
    | none => rw [hi] at hb; cases hb
    | some ns =>
      rw [hi] at hb
      simp only [Option.bind_some] at hb
      cases ns with
      | nil => cases hb
      | cons n ns =>
        cases hb
        have ey := ints_of hi t
        subst ey
        refine cr_max hc pins s σ H _ us Q I r ⟨b, _, by rw [e], .inl q, by simp, fun m hm hg => ?_⟩
        rw [← maxF ns n m hm hg]
        exact hq.fz rfl
  | min =>
    cases d <;> first | (simp [bltD] at hb; done) | skip
    rename_i ds
    have e2 : F2 = FH := hF.resolve_right (by decide)
    subst e2
    obtain ⟨b, ys, e, q, t⟩ := hv
    simp only [bltD] at hb
    cases hi : intsOf ds with
    | none => rw [hi] at hb; cases hb
    | some ns =>
      rw [hi] at hb
      simp only [Option.bind_some] at hb
      cases ns with
      | nil => cases hb
      | cons n ns =>
        cases hb
        have ey := ints_of hi t
        subst ey
        refine cr_min hc pins s σ H _ us Q I r ⟨b, _, by rw [e], .inl q, by simp, fun m hm hg => ?_⟩
        rw [← minF ns n m hm hg]
        exact hq.fz rfl
  | list =>
    have e2 : F2 = FH := hF.resolve_right (by decide)
    subst e2
    cases d <;> first | (simp [bltD] at hb; done) | skip
    case lst ds =>
      cases hb
      obtain ⟨b, ys, e, q, t⟩ := hv
      exact call_list_of pins s σ H _ us Q I r ⟨b, ys, by rw [e], .inl (.inl q), fun l hl => hq ys l t hl⟩
    case tup ds =>
      cases hb
      obtain ⟨b, ys, e, q, t⟩ := hv
      exact call_list_of pins s σ H _ us Q I r ⟨b, ys, by rw [e], .inr (sqT_mono sF q), fun l hl => hq ys l t hl⟩
  | tuple =>
    have e2 : F2 = FH := hF.resolve_right (by decide)
    subst e2
    cases d <;> first | (simp [bltD] at hb; done) | skip
    case lst ds =>
      cases hb
      obtain ⟨b, ys, e, q, t⟩ := hv
      exact call_tuple_of pins s σ H _ us Q I r ⟨b, ys, by rw [e], .inl ⟨.inl q, fun l hl => hq.2 ys l t hl⟩⟩
    case tup ds =>
      cases hb
      have hv' := hv
      obtain ⟨b, ys, e, q, t⟩ := hv
      exact call_tuple_of pins s σ H _ us Q I r ⟨b, ys, by rw [e], .inr ⟨sqT_mono sF q, by rw [← e]; exact hq.1 v hv'⟩⟩
  | sorted =>
    have e2 : F2 = FH := hF.resolve_right (by decide)
    subst e2
    cases d <;> first | (simp [bltD] at hb; done) | skip
    rename_i ds
    obtain ⟨b, ys, e, q, t⟩ := hv
    simp only [bltD] at hb
    cases hi : strsOf ds with
    | none => rw [hi] at hb; cases hb
    | some ss =>
      rw [hi] at hb
      simp only at hb
      split at hb
      · rename_i hl
        cases hb
        obtain ⟨ey, ok⟩ := strs_of hi t
        subst ey
        refine cr_sortedS pins s σ H _ us Q I r ⟨b, ss.map txt, by rw [e], .inl q, by rw [List.length_map]; exact hl, fun zs p hp hs hn => ?_⟩
        rw [sorted_is hp hs]
        exact hq _ p (of_strs fun z hz => ok z ((sortS_perm ss).mem_iff.mp hz)) hn
      · cases hb
  | int =>
    cases d <;> first | (simp [bltD] at hb; done) | skip
    case bl b =>
      cases hb
      exact call_int1 pins s σ H _ us Q I r (.inr ⟨b, by rw [show v = _ from hv], hq.fz rfl⟩)
    case int i =>
      cases hb
      exact call_int1 pins s σ H _ us Q I r (.inl ⟨i, by rw [show v = _ from hv], hq.fz rfl⟩)
  | all =>
    cases d <;> first | (simp [bltD] at hb; done) | skip
    rename_i ds
    obtain ⟨b, ys, e, q, t⟩ := hv
    simp only [bltD] at hb
    cases hi : blsOf ds with
    | none => rw [hi] at hb; cases hb
    | some bs =>
      rw [hi] at hb
      cases hb
      have ey := bls_of hi t
      subst ey
      exact cr_all hc pins s σ H _ us Q I r ⟨b, bs, by rw [e], .inl q, hq.fz rfl⟩
theorem call_b2 (hc : X.calm = true) (f : Bf) (hf : isLrange f = false) : CallR X (bfV f) (fun vs H Q => ∃ FH d e a v w, vs = [v, w] ∧ Rep X.K H d v ∧ Rep X.K H e w ∧ bltD f [d, e] = some a ∧ NewQ X.K FH H a Q) := by
  intro pins s σ H xs us Q I r ⟨FH, d, e, a, v, w, ex, hv, hw, hb, hq⟩
  subst ex
  cases f <;> cases d <;> cases e <;> first | (simp [bltD] at hb; done) | skip
  case max.int.int i j =>
    cases hb
    exact call_max2 hc pins s σ H _ us Q I r ⟨i, j, by rw [show v = _ from hv, show w = _ from hw], hq.fz rfl⟩
  case min.int.int i j =>
    cases hb
    exact call_min2 hc pins s σ H _ us Q I r ⟨i, j, by rw [show v = _ from hv, show w = _ from hw], hq.fz rfl⟩

/-! ### isinstance -/
def kdS : Kd → String
  | .int => "int" | .bool => "bool" | .tuple => "tuple" | .list => "list" | .str => "str" | .exc _ => ""
def tyS : D → String
  | .non => "NoneType" | .bl _ => "bool" | .int _ => "int" | .str _ => "str" | .tup _ => "tuple" | .lst _ => "list" | .dct _ => "dict" | .exc _ _ => "" | .scr _ => "list"
theorem tyX_of {d : D} {v : V} (h : Rep X.K H d v) : TyX X.K H v (.type (tyS d)) := by
  cases d with
  | non => cases (show _ = _ from h); exact .base .non
  | bl b => cases (show _ = _ from h); exact .base (.bl _)
  | int b => cases (show _ = _ from h); exact .base (.int _)
  | str s => obtain ⟨h, _⟩ := h; subst h; exact .base (.str _)
  | tup ds =>
    obtain ⟨a, xs, h, q, _⟩ := h
    subst h
    rcases q with (q | ⟨o, q⟩) | ⟨o, its, n, h1, h2, _⟩
    · exact .base (.tup q)
    · exact .fTuple q
    · exact .kTuple h1 h2
  | lst ds =>
    obtain ⟨a, xs, h, q, _⟩ := h
    subst h
    rcases q with q | ⟨o, q⟩
    · exact .base (.lst q)
    · exact .base (.frz q)
  | dct ds => obtain ⟨a, xs, h, q, _⟩ := h; subst h; exact .base (.dK q)
  | scr ds =>
    obtain ⟨a, h, q⟩ := h
    subst h
    rcases q with (q | ⟨o, q⟩) | ⟨o, its, n, h1, h2, _⟩
    · exact .base (.lst q)
    · exact .base (.frz q)
    · exact .kList h1 h2
  | exc _ _ => exact h.elim
theorem call_isiD (k : Kd) (hk : kdS k ≠ "") : CallR X (.builtin "isinstance") (fun vs H Q => ∃ above d v b, vs = [v, .ty (kdS k)] ∧ Rep X.K H d v ∧ isiD above k d = some b ∧ Q (.bl b) H) := by
  intro pins s σ H xs us Q I r ⟨above, d, v, b, ex, hv, hb, hq⟩
  subst ex
  refine call_isi pins s σ H _ us Q I r ⟨v, .ty (kdS k), _, .type (kdS k), b, rfl, .ty _, tyX_of hv, kit_ty ?_, hq⟩
  cases k <;> cases d <;> first | (exact absurd rfl hk) | (simp only [isiD] at hb; done) | (simp only [isiD] at hb; cases hb; done) | (simp only [isiD] at hb; cases hb; simp only [tyS, kdS]; decide +kernel)
end
end DY
set_option Elab.async false
set_option linter.all false
set_option maxRecDepth 100000
/-! What the code reads: expressions. -/
namespace DY
open PySem L2

theorem PE.imp {X : Cx} {x : Expr} {t t' : TE} (h : PE X x t) (i : ∀ σ H Q, t' σ H Q → t σ H Q) : PE X x t' := ⟨fun pins s σ H Q I q => h.run pins s σ H Q I (i σ H Q q)⟩
theorem PT.imp {X : Cx} {x : Expr} {t t' : TT} (h : PT X x t) (i : ∀ σ H Q, t' σ H Q → t σ H Q) : PT X x t' := ⟨fun pins s σ H Q I q => h.run pins s σ H Q I (i σ H Q q)⟩
theorem PW.imp {X : Cx} {x : Expr} {t t' : TT} (h : PW X x t) (i : ∀ σ H Q, t' σ H Q → t σ H Q) : PW X x t' := ⟨fun wh pins s σ H Q I q => h.run wh pins s σ H Q I (i σ H Q q)⟩
theorem PA.imp {X : Cx} {x : List Expr} {t t' : TA} (h : PA X x t) (i : ∀ σ H Q, t' σ H Q → t σ H Q) : PA X x t' := ⟨fun wh pins s σ H Q I q => h.run wh pins s σ H Q I (i σ H Q q)⟩
theorem PO.imp {X : Cx} {x : Option Expr} {t t' : TO} (h : PO X x t) (i : ∀ σ H Q, t' σ H Q → t σ H Q) : PO X x t' := ⟨fun pins s σ H Q I q => h.run pins s σ H Q I (i σ H Q q)⟩
theorem PI.imp {X : Cx} {tg x : Expr} {t t' : TI} (h : PI X tg x t) (i : ∀ σ H R, t' σ H R → t σ H R) : PI X tg x t' := ⟨fun pins s σ H R I q => h.run pins s σ H R I (i σ H R q)⟩

structure Tb where
  C : Nat → List D → R AV
  G : Nat → Option D
  above : Hier
  fn : List (Str × Nat)
  cn : List Str

def Gd {α : Type} (r : R (α × Ev)) (P : α → Ev → Prop) : Prop := match r with
  | .ok (a, ρ) => P a ρ
  | _ => False
theorem Gd.mono {α : Type} {r : R (α × Ev)} {P P' : α → Ev → Prop} (h : Gd r P) (k : ∀ a ρ, P a ρ → P' a ρ) : Gd r P' := by
  unfold Gd at *
  split at h
  · exact k _ _ h
  · exact h.elim
theorem Gd.ok {α : Type} {r : R (α × Ev)} {P : α → Ev → Prop} (h : Gd r P) : ∃ a ρ, r = .ok (a, ρ) ∧ P a ρ := by
  unfold Gd at h
  split at h
  · exact ⟨_, _, rfl, h⟩
  · exact h.elim
theorem Gd_bnd {r : R (PV × Ev)} {f : PV → Ev → R (PV × Ev)} {P : PV → Ev → Prop} : Gd (bndP r f) P = Gd r (fun v ρ => Gd (f v ρ) P) := by
  cases r <;> rfl
theorem Gd_lift {α : Type} {o : Option α} {f : α → R (PV × Ev)} {P : PV → Ev → Prop} : Gd (lift o f) P ↔ ∃ a, o = some a ∧ Gd (f a) P := by
  cases o with
  | none => exact ⟨fun h => h.elim, fun ⟨_, h, _⟩ => by cases h⟩
  | some a => exact ⟨fun h => ⟨a, rfl, h⟩, fun ⟨_, h, g⟩ => by cases h; exact g⟩
theorem Gd_own {o : Option AV} {ρ : Ev} {P : PV → Ev → Prop} : Gd (own o ρ) P ↔ ∃ a, o = some a ∧ P (.av a) ρ := by
  cases o with
  | none => exact ⟨fun h => h.elim, fun ⟨_, h, _⟩ => by cases h⟩
  | some a => exact ⟨fun h => ⟨a, rfl, h⟩, fun ⟨_, h, g⟩ => by cases h; exact g⟩
theorem intOf_some {o : Option D} {i : Int} (h : intOf o = some i) : o = some (.int i) := by
  unfold intOf at h
  split at h
  · cases h; rfl
  · cases h
theorem blOf_some {o : Option D} {i : Bool} (h : blOf o = some i) : o = some (.bl i) := by
  unfold blOf at h
  split at h
  · cases h; rfl
  · cases h

section
variable {X : Cx} {B : Tb} {H0 F0 FH FH' H H' : Hp} {ρ ρ' : Ev} {T : List (V × AV)} {σ : L2.St} {u : PV} {v : V} {d : D} {Q : VK}

def tE (B : Tb) (K : Fg) (e : E) : TE := fun σ H Q => ∃ H0 F0 ρ FH T, InvA K H0 F0 ρ FH T σ H ∧
  Gd (ev B.C B.G B.above e ρ) fun u ρ' => ∀ v H' FH', Same FH FH' → InvA K H0 F0 ρ' FH' (tmp u v T) σ H' → Plc FH' σ u v → Q v H'
def tT (B : Tb) (K : Fg) (e : E) : TT := fun σ H Q => ∃ H0 F0 ρ FH T, InvA K H0 F0 ρ FH T σ H ∧
  Gd (ev B.C B.G B.above e ρ) fun u ρ' => ∃ b, blOf (peek ρ' u) = some b ∧ ∀ H' FH', Same FH FH' → InvA K H0 F0 ρ' FH' T σ H' → Q b H'
theorem go {a : E} {P : PV → Ev → Prop} (I : InvA X.K H0 F0 ρ FH T σ H) (h : Gd (ev B.C B.G B.above a ρ) P)
    (k : ∀ u ρ' v H' FH', P u ρ' → Same FH FH' → InvA X.K H0 F0 ρ' FH' (tmp u v T) σ H' → Plc FH' σ u v → Q v H') : tE B X.K a σ H Q :=
  ⟨H0, F0, ρ, FH, T, I, h.mono fun u ρ' p v H' FH' s J pl => k u ρ' v H' FH' p s J pl⟩
theorem InvA.int {i : Int} (I : InvA X.K H0 F0 ρ FH (tmp u v T) σ H) (p : Plc FH σ u v) (h : intOf (DY.peek ρ u) = some i) : v = .int i := I.peek p (intOf_some h)
theorem InvA.bl {i : Bool} (I : InvA X.K H0 F0 ρ FH (tmp u v T) σ H) (p : Plc FH σ u v) (h : blOf (DY.peek ρ u) = some i) : v = .bl i := I.peek p (blOf_some h)

/-! ### leaves -/
theorem s_var {i : Nat} {x : Str} {pos : Pos} (hN : X.N[i]? = some x) (hv : Vis X.env.scope x) (hd : (x == ("__debug__" : Str)) = false) (hc : (x == ("__classdict__" : Str)) = false) : PE X (.Name x pos) (tE B X.K (.var i)) := by
  refine PE.imp (pe_var hN hv hd hc) fun σ H Q ⟨H0, F0, ρ, FH, T, I, h⟩ => ?_
  simp only [ev] at h
  cases e : DY.get ρ i with
  | none => rw [e] at h; exact h.elim
  | some a =>
    obtain ⟨ow, O⟩ := I.own
    obtain ⟨v, h1, h2⟩ := O.slots i a (get_at e)
    rw [e] at h
    refine ⟨v, h1, ?_⟩
    cases a with
    | fz d => exact h v H FH (Same.refl _) (I.push h2) trivial
    | ol ds => exact h v H FH (Same.refl _) I ⟨v, h1, rfl⟩
    | ot ds => exact h v H FH (Same.refl _) I ⟨v, h1, rfl⟩
    | od ds => exact h v H FH (Same.refl _) I ⟨v, h1, rfl⟩
/-- a constant -/
theorem s_const {e : E} {x : Expr} {v : V} {d : D} (h : PE X x (tC v)) (he : ∀ ρ, ev B.C B.G B.above e ρ = .ok (.av (.fz d), ρ)) (hr : Rep X.K (fun _ => none) d v) : PE X x (tE B X.K e) := by
  refine PE.imp h fun σ H Q ⟨H0, F0, ρ, FH, T, I, h⟩ => ?_
  rw [he] at h
  exact h v H FH (Same.refl _) (I.push (Rep.mono (fun _ _ e => by cases e) d v hr)) trivial

/-! ### operators -/
theorem s_bin {o : Bop} {a b : E} {xa xb : Expr} {pos : Pos} (ha : PE X xa (tE B X.K a)) (hb : PE X xb (tE B X.K b)) : PE X (.BinOp xa (opB o) xb pos) (tE B X.K (.bin o a b)) := by
  refine PE.imp (pe_op (op_bin o) ha hb) fun σ H Q ⟨H0, F0, ρ, FH, T, I, h⟩ => ?_
  simp only [ev, Gd_bnd, Gd_lift, Gd_own] at h
  refine go I h fun u1 ρ1 x H1 FH1 h s1 I1 p1 => go I1 h fun u2 ρ2 y H2 FH2 h s2 I2 p2 => ?_
  obtain ⟨⟨e, ρ3⟩, e3, h⟩ := h
  simp only [Gd_lift, Gd_own] at h
  obtain ⟨⟨d, ρ4⟩, e4, a, e5, h⟩ := h
  obtain ⟨F3, s3, I3, r3⟩ := I2.shl p2 e3
  obtain ⟨F4, s4, I4, r4⟩ := I3.shl (p1.mono (s2.trans s3)) e4
  refine ⟨F4, d, e, a, I4.sub, r4, r3.mono s4 (Same.refl _), e5, I4.newQ (binD_new e5) fun v H' FH' s J => ?_⟩
  exact h v H' FH' (((s1.trans s2).trans (s3.trans s4)).trans s) J trivial
where
  binD_new {o : Bop} {d e : D} {a : AV} (h : binD o d e = some a) : (∃ d, a = .fz d) ∨ ∃ ds, a = .ol ds := by
    unfold binD at h
    split at h <;> first | (cases h; exact .inl ⟨_, rfl⟩) | (cases h; exact .inr ⟨_, rfl⟩) | (split at h <;> first | (cases h; exact .inl ⟨_, rfl⟩) | (cases h; exact .inr ⟨_, rfl⟩) | cases h) | cases h
theorem s_neg {a : E} {xa : Expr} {pos : Pos} (ha : PE X xa (tE B X.K a)) : PE X (.UnaryOp .USub xa pos) (tE B X.K (.neg a)) := by
  refine PE.imp (pe_un un_neg ha) fun σ H Q ⟨H0, F0, ρ, FH, T, I, h⟩ => ?_
  simp only [ev, Gd_bnd, Gd_lift, Gd_own] at h
  refine go I h fun u1 ρ1 x H1 FH1 h s1 I1 p1 => ?_
  obtain ⟨i, e1, a, e2, h⟩ := h
  cases e2
  exact ⟨i, I1.int p1 e1, h _ _ _ s1 (I1.dropV.push rfl) trivial⟩
theorem s_not {a : E} {xa : Expr} {pos : Pos} (ha : PE X xa (tE B X.K a)) : PE X (.UnaryOp .Not xa pos) (tE B X.K (.not a)) := by
  refine PE.imp (pe_not ha) fun σ H Q ⟨H0, F0, ρ, FH, T, I, h⟩ => ?_
  simp only [ev, Gd_bnd, Gd_lift, Gd_own] at h
  refine go I h fun u1 ρ1 x H1 FH1 h s1 I1 p1 => ?_
  obtain ⟨i, e1, a, e2, h⟩ := h
  cases e2
  exact ⟨i, I1.bl p1 e1, h _ _ _ s1 (I1.dropV.push rfl) trivial⟩
theorem t_not {a : E} {xa : Expr} {pos : Pos} (ha : PT X xa (tT B X.K a)) : PT X (.UnaryOp .Not xa pos) (tT B X.K (.not a)) := by
  refine PT.imp (pt_not ha) fun σ H Q ⟨H0, F0, ρ, FH, T, I, h⟩ => ?_
  simp only [ev, Gd_bnd, Gd_lift, Gd_own] at h
  refine ⟨H0, F0, ρ, FH, T, I, h.mono fun u ρ1 ⟨b, e1, a, e2, c, e3, h⟩ => ⟨b, e1, fun H' FH' s J => ?_⟩⟩
  cases e2
  cases e3
  exact h H' FH' s J
/-- a test by its value -/
theorem t_val {a : E} {xa : Expr} (ha : PE X xa (tE B X.K a)) (he : ∀ whole, isTrue xa X.env whole = (do let v ← whole; standAt xa.pos; holding [v] (truthy v))) : PT X xa (tT B X.K a) := by
  refine PT.imp (pt_val ha he) fun σ H Q ⟨H0, F0, ρ, FH, T, I, h⟩ => ?_
  exact go I h fun u1 ρ1 x H1 FH1 ⟨b, e1, h⟩ s1 I1 p1 => ⟨b, I1.bl p1 e1, h H1 FH1 s1 I1.dropV⟩
theorem s_and {a b : E} {xa xb : Expr} {r : List Expr} {pos : Pos} (ha : PE X xa (tE B X.K a)) (hb : PE X (.BoolOp .And (xb :: r) pos) (tE B X.K b)) : PE X (.BoolOp .And (xa :: xb :: r) pos) (tE B X.K (.and a b)) := by
  refine PE.imp (pe_and ha hb) fun σ H Q ⟨H0, F0, ρ, FH, T, I, h⟩ => ?_
  simp only [ev, Gd_bnd, Gd_lift] at h
  refine go I h fun u1 ρ1 x H1 FH1 h s1 I1 p1 => ?_
  obtain ⟨k, e1, h⟩ := h
  refine ⟨k, I1.bl p1 e1, ?_⟩
  cases k with
  | false =>
    simp only [Bool.false_eq_true, if_false, Gd_own] at h ⊢
    obtain ⟨a, e2, h⟩ := h
    cases e2
    exact h _ _ _ s1 (I1.dropV.push rfl) trivial
  | true =>
    simp only [if_true, Gd_bnd, Gd_lift, Gd_own] at h ⊢
    refine go I1.dropV h fun u2 ρ2 y H2 FH2 h s2 I2 p2 => ?_
    obtain ⟨k, e3, a, e4, h⟩ := h
    cases e4
    have := I2.bl p2 e3
    subst this
    exact h _ _ _ (s1.trans s2) (I2.dropV.push rfl) trivial
theorem s_or {a b : E} {xa xb : Expr} {r : List Expr} {pos : Pos} (ha : PE X xa (tE B X.K a)) (hb : PE X (.BoolOp .Or (xb :: r) pos) (tE B X.K b)) : PE X (.BoolOp .Or (xa :: xb :: r) pos) (tE B X.K (.or a b)) := by
  refine PE.imp (pe_or ha hb) fun σ H Q ⟨H0, F0, ρ, FH, T, I, h⟩ => ?_
  simp only [ev, Gd_bnd, Gd_lift] at h
  refine go I h fun u1 ρ1 x H1 FH1 h s1 I1 p1 => ?_
  obtain ⟨k, e1, h⟩ := h
  refine ⟨k, I1.bl p1 e1, ?_⟩
  cases k with
  | true =>
    simp only [if_true, Gd_own] at h ⊢
    obtain ⟨a, e2, h⟩ := h
    cases e2
    exact h _ _ _ s1 (I1.dropV.push rfl) trivial
  | false =>
    simp only [Bool.false_eq_true, if_false, Gd_bnd, Gd_lift, Gd_own] at h ⊢
    refine go I1.dropV h fun u2 ρ2 y H2 FH2 h s2 I2 p2 => ?_
    obtain ⟨k, e3, a, e4, h⟩ := h
    cases e4
    have := I2.bl p2 e3
    subst this
    exact h _ _ _ (s1.trans s2) (I2.dropV.push rfl) trivial
theorem tAnd_of {a b : E} {Z : Bool → Hp → Prop} (h : tT B X.K (.and a b) σ H Z) : tAnd (tT B X.K a) (tT B X.K b) σ H Z := by
  obtain ⟨H0, F0, ρ, FH, T, I, h⟩ := h
  simp only [ev, Gd_bnd, Gd_lift] at h
  refine ⟨H0, F0, ρ, FH, T, I, h.mono fun u ρ1 ⟨k, e1, h⟩ => ⟨k, e1, fun H1 FH1 s1 I1 => ?_⟩⟩
  cases k with
  | false =>
    simp only [Bool.false_eq_true, if_false, Gd_own] at h ⊢
    obtain ⟨a, e2, c, e3, h⟩ := h
    cases e2
    cases e3
    exact h H1 FH1 s1 I1
  | true =>
    simp only [if_true, Gd_bnd, Gd_lift, Gd_own] at h ⊢
    refine ⟨H0, F0, ρ1, FH1, T, I1, h.mono fun u ρ2 ⟨k, e4, a, e5, c, e6, h⟩ => ⟨k, e4, fun H2 FH2 s2 I2 => ?_⟩⟩
    cases e5
    cases e6
    exact h H2 FH2 (s1.trans s2) I2
theorem tOr_of {a b : E} {Z : Bool → Hp → Prop} (h : tT B X.K (.or a b) σ H Z) : tOr (tT B X.K a) (tT B X.K b) σ H Z := by
  obtain ⟨H0, F0, ρ, FH, T, I, h⟩ := h
  simp only [ev, Gd_bnd, Gd_lift] at h
  refine ⟨H0, F0, ρ, FH, T, I, h.mono fun u ρ1 ⟨k, e1, h⟩ => ⟨k, e1, fun H1 FH1 s1 I1 => ?_⟩⟩
  cases k with
  | true =>
    simp only [if_true, Gd_own] at h ⊢
    obtain ⟨a, e2, c, e3, h⟩ := h
    cases e2
    cases e3
    exact h H1 FH1 s1 I1
  | false =>
    simp only [Bool.false_eq_true, if_false, Gd_bnd, Gd_lift, Gd_own] at h ⊢
    refine ⟨H0, F0, ρ1, FH1, T, I1, h.mono fun u ρ2 ⟨k, e4, a, e5, c, e6, h⟩ => ⟨k, e4, fun H2 FH2 s2 I2 => ?_⟩⟩
    cases e5
    cases e6
    exact h H2 FH2 (s1.trans s2) I2
theorem s_cmp {o : Cop} {a b : E} {xa xb : Expr} {pos : Pos} (hu : X.A.units + 65 < cLine) (ha : PE X xa (tE B X.K a)) (hb : PE X xb (tE B X.K b)) (hm : behindInMarks (opC o) xb = false) : PE X (.Compare xa [opC o] [xb] pos) (tE B X.K (.cmp o a b)) := by
  refine PE.imp (pe_cmpR (op_cmp hu o) ha hb hm) fun σ H Q ⟨H0, F0, ρ, FH, T, I, h⟩ => ?_
  simp only [ev, Gd_bnd, Gd_lift, Gd_own] at h
  refine go I h fun u1 ρ1 x H1 FH1 h s1 I1 p1 => go I1 h fun u2 ρ2 y H2 FH2 h s2 I2 p2 => ?_
  obtain ⟨d, e3, e, e4, a, e5, h⟩ := h
  cases e6 : cmpD o d e with
  | none => rw [e6] at e5; cases e5
  | some c =>
    rw [e6] at e5
    cases e5
    exact ⟨d, e, c, I2.dropV.peek (p1.mono s2) e3, I2.peek p2 e4, e6, h _ _ _ (s1.trans s2) (I2.dropV.dropV.push rfl) trivial⟩
theorem t_cmp {o : Cop} {a b : E} {xa xb : Expr} {pos : Pos} (hu : X.A.units + 65 < cLine) (ha : PE X xa (tE B X.K a)) (hb : PE X xb (tE B X.K b)) (hm : behindInMarks (opC o) xb = false) : PT X (.Compare xa [opC o] [xb] pos) (tT B X.K (.cmp o a b)) := by
  refine PT.imp (pt_cmpR (op_cmp hu o) ha hb hm) fun σ H Q ⟨H0, F0, ρ, FH, T, I, h⟩ => ?_
  simp only [ev, Gd_bnd, Gd_lift, Gd_own] at h
  refine go I h fun u1 ρ1 x H1 FH1 h s1 I1 p1 => go I1 h fun u2 ρ2 y H2 FH2 h s2 I2 p2 => ?_
  obtain ⟨d, e3, e, e4, a, e5, k, e7, h⟩ := h
  cases e6 : cmpD o d e with
  | none => rw [e6] at e5; cases e5
  | some c =>
    rw [e6] at e5
    cases e5
    cases e7
    exact ⟨d, e, _, I2.dropV.peek (p1.mono s2) e3, I2.peek p2 e4, e6, _, rfl, h _ _ (s1.trans s2) I2.dropV.dropV⟩
theorem chain_of {o p : Cop} {a b c : E} {H0 F0 ρ FH T} {P : PV → Ev → Prop} (I : InvA X.K H0 F0 ρ FH T σ H) (h : Gd (ev B.C B.G B.above (.chn o p a b c) ρ) P)
    (k : ∀ z ρ' H' FH', P (.av (.fz (.bl z))) ρ' → Same FH FH' → InvA X.K H0 F0 ρ' FH' T σ H' → Q (.bl z) H') :
    tChain (fun x y H Q => ∃ d e b, Rep X.K H d x ∧ Rep X.K H e y ∧ cmpD o d e = some b ∧ Q (.bl b) H) (fun x y H Q => ∃ d e b, Rep X.K H d x ∧ Rep X.K H e y ∧ cmpD p d e = some b ∧ Q (.bl b) H) (tE B X.K a) (tE B X.K b) (tE B X.K c) σ H Q := by
  simp only [ev, Gd_bnd, Gd_lift, Gd_own] at h
  refine go I h fun u1 ρ1 x H1 FH1 h s1 I1 p1 => go I1 h fun u2 ρ2 y H2 FH2 h s2 I2 p2 => ?_
  obtain ⟨d, e3, e, e4, k1, e5, h⟩ := h
  have ey := I2.int p2 e4
  refine ⟨d, .int e, k1, I2.dropV.peek (p1.mono s2) e3, ey, e5, k1, rfl, ?_⟩
  cases k1 with
  | false =>
    simp only [Bool.false_eq_true, if_false, Gd_own] at h ⊢
    obtain ⟨a, e2, h⟩ := h
    cases e2
    exact k _ _ _ _ h (s1.trans s2) I2.dropV.dropV
  | true =>
    simp only [if_true, Gd_bnd, Gd_lift, Gd_own] at h ⊢
    refine go I2 h fun u3 ρ3 z H3 FH3 h s3 I3 p3 => ?_
    obtain ⟨g, e6, a, e7, h⟩ := h
    cases e8 : cmpD p (.int e) g with
    | none => rw [e8] at e7; cases e7
    | some c =>
      rw [e8] at e7
      cases e7
      exact ⟨.int e, g, c, ey, I3.peek p3 e6, e8, k _ _ _ _ h ((s1.trans s2).trans s3) I3.dropV.dropV.dropV⟩
theorem s_chn {o p : Cop} {a b c : E} {xa xb xc : Expr} {pos : Pos} (hu : X.A.units + 65 < cLine) (ha : PE X xa (tE B X.K a)) (hb : PE X xb (tE B X.K b)) (hc : PE X xc (tE B X.K c)) (hm : lastMarks [opC o, opC p] [xb, xc] = false) :
    PE X (.Compare xa [opC o, opC p] [xb, xc] pos) (tE B X.K (.chn o p a b c)) :=
  PE.imp (pe_chain (op_cmp hu o) (op_cmp hu p) ha hb hc hm) fun σ H Q ⟨H0, F0, ρ, FH, T, I, h⟩ => chain_of I h fun z ρ' H' FH' h s J => h _ _ _ s (J.push rfl) trivial
theorem t_chn {o p : Cop} {a b c : E} {xa xb xc : Expr} {pos : Pos} (hu : X.A.units + 65 < cLine) (ha : PE X xa (tE B X.K a)) (hb : PE X xb (tE B X.K b)) (hc : PE X xc (tE B X.K c)) (hm : lastMarks [opC o, opC p] [xb, xc] = false) :
    PT X (.Compare xa [opC o, opC p] [xb, xc] pos) (tT B X.K (.chn o p a b c)) :=
  PT.imp (pt_chain (op_cmp hu o) (op_cmp hu p) ha hb hc hm) fun σ H Q ⟨H0, F0, ρ, FH, T, I, h⟩ => chain_of (Q := fun x H' => ∃ k, x = .bl k ∧ Q k H') I h fun z ρ' H' FH' ⟨b, e, h⟩ s J => ⟨z, rfl, by cases e; exact h _ _ s J⟩

/-! ### lists of expressions -/
def tAF (B : Tb) (K : Fg) (es : List E) : TA := fun σ H Q => ∃ H0 F0 ρ FH T, InvA K H0 F0 ρ FH T σ H ∧
  Gd (evF B.C B.G B.above es ρ) fun ds ρ' => ∀ vs H' FH', Same FH FH' → InvA K H0 F0 ρ' FH' T σ H' → RepL K FH' ds vs → Q vs H'
theorem af_nil : PA X [] (tAF B X.K []) := PA.imp pa_nil fun σ H Q ⟨H0, F0, ρ, FH, T, I, h⟩ => h [] H FH (Same.refl _) I rfl
theorem af_cons {e : E} {es : List E} {x : Expr} {xs : List Expr} (ha : PE X x (tE B X.K e)) (hr : PA X xs (tAF B X.K es)) (hs : starEach (x :: xs) X.env = (false, eval x X.env) :: starEach xs X.env) : PA X (x :: xs) (tAF B X.K (e :: es)) := by
  refine PA.imp (pa_cons ha hr hs) fun σ H Q ⟨H0, F0, ρ, FH, T, I, h⟩ => ?_
  simp only [evF] at h
  cases e1 : ev B.C B.G B.above e ρ with
  | ok r =>
    obtain ⟨u, ρ1⟩ := r
    rw [e1] at h
    simp only at h
    cases e2 : DY.frz ρ1 u with
    | none => rw [e2] at h; exact h.elim
    | some r =>
      obtain ⟨d, ρ2⟩ := r
      rw [e2] at h
      simp only at h
      refine ⟨H0, F0, ρ, FH, T, I, ?_⟩
      rw [e1]
      intro v H1 FH1 s1 I1 p1
      obtain ⟨F2, s2, I2, r2⟩ := I1.frz p1 e2
      refine ⟨H0, F0, ρ2, F2, T, I2, ?_⟩
      cases e3 : evF B.C B.G B.above es ρ2 with
      | ok r =>
        obtain ⟨ds, ρ3⟩ := r
        rw [e3] at h
        intro vs H3 F3 s3 I3 r3
        exact h (v :: vs) H3 F3 (s1.trans (s2.trans s3)) I3 ⟨v, vs, rfl, Rep.mono s3 d v r2, r3⟩
      | er x r => rw [e3] at h; exact h.elim
      | no => rw [e3] at h; exact h.elim
  | er x r => rw [e1] at h; exact h.elim
  | no => rw [e1] at h; exact h.elim
def tmpL : List PV → List V → List (V × AV) → List (V × AV)
  | u :: us, v :: vs, T => tmpL us vs (tmp u v T)
  | _, _, T => T
def PlcL (FH : Hp) (σ : L2.St) : List PV → List V → Prop
  | [], vs => vs = []
  | u :: us, vs => ∃ v r, vs = v :: r ∧ Plc FH σ u v ∧ PlcL FH σ us r
def tAA (B : Tb) (K : Fg) (es : List E) : TA := fun σ H Q => ∃ H0 F0 ρ FH T, InvA K H0 F0 ρ FH T σ H ∧
  Gd (evA B.C B.G B.above es ρ) fun us ρ' => ∀ vs H' FH', Same FH FH' → InvA K H0 F0 ρ' FH' (tmpL us vs T) σ H' → PlcL FH' σ us vs → Q vs H'
theorem aa_nil : PA X [] (tAA B X.K []) := PA.imp pa_nil fun σ H Q ⟨H0, F0, ρ, FH, T, I, h⟩ => h [] H FH (Same.refl _) I rfl
theorem aa_cons {e : E} {es : List E} {x : Expr} {xs : List Expr} (ha : PE X x (tE B X.K e)) (hr : PA X xs (tAA B X.K es)) (hs : starEach (x :: xs) X.env = (false, eval x X.env) :: starEach xs X.env) : PA X (x :: xs) (tAA B X.K (e :: es)) := by
  refine PA.imp (pa_cons ha hr hs) fun σ H Q ⟨H0, F0, ρ, FH, T, I, h⟩ => ?_
  simp only [evA] at h
  cases e1 : ev B.C B.G B.above e ρ with
  | ok r =>
    obtain ⟨u, ρ1⟩ := r
    rw [e1] at h
    simp only at h
    refine ⟨H0, F0, ρ, FH, T, I, ?_⟩
    rw [e1]
    intro v H1 FH1 s1 I1 p1
    refine ⟨H0, F0, ρ1, FH1, tmp u v T, I1, ?_⟩
    cases e3 : evA B.C B.G B.above es ρ1 with
    | ok r =>
      obtain ⟨ds, ρ3⟩ := r
      rw [e3] at h
      intro vs H3 F3 s3 I3 r3
      exact h (v :: vs) H3 F3 (s1.trans s3) I3 ⟨v, vs, rfl, p1.mono s3, r3⟩
    | er x r => rw [e3] at h; exact h.elim
    | no => rw [e3] at h; exact h.elim
  | er x r => rw [e1] at h; exact h.elim
  | no => rw [e1] at h; exact h.elim
theorem s_tup {es : List E} {xs : List Expr} {x1} {pos : Pos} (ha : PA X xs (tAF B X.K es)) : PE X (.Tuple xs x1 pos) (tE B X.K (.tup es)) := by
  refine PE.imp (pe_tup ha) fun σ H Q ⟨H0, F0, ρ, FH, T, I, h⟩ => ⟨H0, F0, ρ, FH, T, I, ?_⟩
  simp only [ev] at h
  cases e1 : evF B.C B.G B.above es ρ with
  | ok r =>
    obtain ⟨ds, ρ1⟩ := r
    rw [e1] at h
    simp only at h
    intro vs H1 FH1 s1 I1 r1
    split at h
    · rename_i hl
      refine ⟨by rw [r1.len, ← line_eq]; exact hl, fun p hp => h _ _ _ (s1.trans (same_upd (none_of_sub I1.sub hp))) (I1.newTup hp r1) trivial⟩
    · exact h.elim
  | er x r => rw [e1] at h; exact h.elim
  | no => rw [e1] at h; exact h.elim
theorem s_lst {es : List E} {xs : List Expr} {pos : Pos} (ha : PA X xs (tAF B X.K es)) : PE X (.List xs pos) (tE B X.K (.lst es)) := by
  refine PE.imp (pe_lst ha) fun σ H Q ⟨H0, F0, ρ, FH, T, I, h⟩ => ⟨H0, F0, ρ, FH, T, I, ?_⟩
  simp only [ev] at h
  cases e1 : evF B.C B.G B.above es ρ with
  | ok r =>
    obtain ⟨ds, ρ1⟩ := r
    rw [e1] at h
    simp only at h
    intro vs H1 FH1 s1 I1 r1
    split at h
    · rename_i hl
      refine ⟨by rw [r1.len, ← line_eq]; exact hl, fun p hp => h _ _ _ s1 (I1.newLst hp r1) trivial⟩
    · exact h.elim
  | er x r => rw [e1] at h; exact h.elim
  | no => rw [e1] at h; exact h.elim
end
end DY
set_option Elab.async false
set_option linter.all false
set_option maxRecDepth 100000
/-! What the code reads: subscripts, slices, calls. -/
namespace DY
open PySem L2

theorem PE.or {X : Cx} {x : Expr} {t t' : TE} (h : PE X x t) (h' : PE X x t') : PE X x (fun σ H Q => t σ H Q ∨ t' σ H Q) :=
  ⟨fun pins s σ H Q I q => q.elim (h.run pins s σ H Q I) (h'.run pins s σ H Q I)⟩
def noSlice : Expr → Bool
  | .Slice .. => false
  | _ => true
theorem plainIx_of {e : Expr} (h : noSlice e = true) : PlainIx e := by
  cases e <;> first | (cases h; done) | exact fun _ _ => rfl
theorem atI_of {α β : Type} {xs : List α} {ys : List β} {i : Int} {d : α} (h : atZ xs i = some d) (hl : ys.length = xs.length) : ∃ j : Nat, xs[j]? = some d ∧ atI ys i = ys[j]? := by
  unfold atZ at h
  unfold atI ixN
  rw [hl]
  split at h
  · rename_i h0
    have := (List.getElem?_eq_some_iff.mp h).1
    rw [if_pos h0, if_pos (by omega)]
    exact ⟨_, h, rfl⟩
  · rename_i h0
    split at h
    · rename_i h1
      rw [if_neg h0, if_pos h1]
      exact ⟨_, h, rfl⟩
    · cases h
section
variable {K : Fg} {H0 F0 FH FH' H H' : Hp} {ρ ρ' : Ev} {T : List (V × AV)} {σ : L2.St} {u : PV} {v : V} {d : D} {ow : Own} {l : Lb}
theorem RepL.atI {ds : List D} {xs : List V} {i : Int} {d : D} (r : RepL K H ds xs) (h : atZ ds i = some d) : ∃ v, L2.atI xs i = some v ∧ Rep K H d v := by
  obtain ⟨j, h1, h2⟩ := atI_of (ys := xs) h r.len
  obtain ⟨v, h3, h4⟩ := r.get h1
  exact ⟨v, h2.trans h3, h4⟩
theorem keys_find : ∀ {kvs : List (Int × D)} {xs : List V} {i : Int} {kv : Int × D}, RepK K H kvs xs → (kvs.find? fun kv => decide (kv.1 = i)) = some kv → ∃ v, valV (keysOf kvs xs) (Sum.inl i : Key) = some v ∧ Rep K H kv.2 v
  | [], _, _, _, _, h => by cases h
  | (k, d) :: kvs, xs, i, kv, ⟨x, r, e, h, t⟩, g => by
    subst e
    rw [List.find?_cons] at g
    unfold valV keysOf
    rw [List.map_cons, List.zip_cons_cons, List.find?_cons]
    by_cases hk : k = i
    · subst hk
      simp only [decide_true] at g ⊢
      cases g
      exact ⟨x, by simp, h⟩
    · have h2 : (Sum.inl k : Key) ≠ Sum.inl i := fun z => hk (Sum.inl.inj z)
      simp only [decide_eq_false hk, decide_eq_false h2] at g ⊢
      exact keys_find t g
theorem keys_findA : ∀ {kvs : List (Int × AV)} {xs : List V} {i : Int} {k : Int} {d : D} {p : List Nat} {n : Nat}, RepAK K FH H ow l kvs p n xs → (kvs.find? fun kv => decide (kv.1 = i)) = some (k, .fz d) → ∃ v, valV (keysOf kvs xs) (Sum.inl i : Key) = some v ∧ Rep K FH d v
  | [], _, _, _, _, _, _, _, h => by cases h
  | (k, a) :: kvs, xs, i, k', d, p, n, ⟨x, r, e, h, t⟩, g => by
    subst e
    rw [List.find?_cons] at g
    unfold valV keysOf
    rw [List.map_cons, List.zip_cons_cons, List.find?_cons]
    by_cases hk : k = i
    · subst hk
      simp only [decide_true] at g ⊢
      cases g
      exact ⟨x, by simp, h⟩
    · have h2 : (Sum.inl k : Key) ≠ Sum.inl i := fun z => hk (Sum.inl.inj z)
      simp only [decide_eq_false hk, decide_eq_false h2] at g ⊢
      exact keys_findA t g

/-- an item is taken out of an own tuple, the rest forgotten -/
def cutK (k : Nat) (q : List Nat) : Option (List Nat) := if q.getLast? = some k then some q.dropLast else none
theorem cutK_snoc (k : Nat) (q : List Nat) : cutK k (q ++ [k]) = some q := by
  unfold cutK
  simp
def pickO (ow : Own) (l : Lb) (k : Nat) : Own := fun b => match ow b with
  | some (m, q) => if m = l then (cutK k q).map fun r => (l, r) else some (m, q)
  | none => none
theorem InvA.pick {xs : List AV} {a : AV} {k : Nat} (I : InvA K H0 F0 ρ FH ((v, .ot xs) :: T) σ H) (h : xs[k]? = some a) : ∃ p vs w, v = .ref p ∧ FH p = some (.tup vs) ∧ vs.length = xs.length ∧ vs[k]? = some w ∧ InvA K H0 F0 ρ FH ((w, a) :: T) σ H := by
  obtain ⟨ow, O⟩ := I.own
  obtain ⟨p, vs, e, q, r⟩ := O.tmps.1
  obtain ⟨w, hw, hr⟩ := RepAL.at r h
  have keep : ∀ {b m q}, m ≠ .tm T.length → ow b = some (m, q) → pickO ow (.tm T.length) k b = some (m, q) := fun {b m q} hm e => by
    unfold pickO
    rw [e]
    show (if m = _ then _ else _) = _
    rw [if_neg hm]
  refine ⟨p, vs, w, e, q, r.len, hw, I.sub, I.tup, I.ext, I.fsub, I.fnew, I.len, pickO ow (.tm T.length) k, ⟨fun b x hb => ?_, fun i b hb => ?_, ?_, ?_⟩⟩
  · unfold pickO at hb
    cases hx : ow b with
    | none => rw [hx] at hb; cases hb
    | some y => exact O.out b y hx
  · obtain ⟨z, h1, h2⟩ := O.slots i b hb
    exact ⟨z, h1, RepA.tr (Same.refl _) b [] [] z (fun c q z => ⟨keep sl_tm z, rfl⟩) h2⟩
  · refine RepA.tr (Same.refl _) a _ [] w (fun c q' z => ⟨?_, rfl⟩) hr
    rw [Nat.zero_add] at z
    unfold pickO
    rw [z]
    show (if _ = _ then _ else _) = _
    rw [if_pos rfl, cutK_snoc]
    simp
  · exact RepT.tr (Same.refl _) T (fun j hj c q z => ⟨keep (tm_ne (by omega)) z, rfl⟩) O.tmps.2
end

section
variable {X : Cx} {B : Tb} {H0 F0 FH FH' H H' : Hp} {ρ ρ' : Ev} {T : List (V × AV)} {σ : L2.St} {u : PV} {v : V} {d : D} {Q : VK}
theorem tupK (I : InvA X.K H0 F0 ρ FH T σ H) {p : Addr} {xs : List V} (h : FH p = some (.tup xs)) : SqT X.K H p xs := .inl (.inl (I.sub _ _ h))
def isDict : Option AV → Bool
  | some (.fz (.dct _)) => true
  | some (.od _) => true
  | _ => false
def IxG (b : Bool) (P R : Prop) : Prop := match b with
  | true => P
  | false => R
/-- x[i] -/
theorem ix_of {u : PV} {x y : V} {i : Int} {w : PV} (I : InvA X.K H0 F0 ρ FH (tmp u x T) σ H) (pl : Plc FH σ u x) (ey : y = .int i) (h : ixP ρ u i = some w)
    (k : ∀ v, InvA X.K H0 F0 ρ FH (tmp w v T) σ H → Plc FH σ w v → Q v H) : IxG (isDict (look ρ u)) (∃ a v, x = .ref a ∧ DGet H a y (some v) ∧ Q v H) (rIx X.K x y H Q) := by
  subst ey
  unfold ixP at h
  cases e : look ρ u with
  | none => rw [e] at h; cases h
  | some a =>
    rw [e] at h
    obtain ⟨ow, O⟩ := I.own
    obtain ⟨l, q, r, hu⟩ := I.looks O pl e
    cases a with
    | fz d =>
      cases d <;> first | (cases h; done) | skip
      case tup ds =>
        obtain ⟨a, xs, ex, q, r⟩ := r
        simp only [Option.map_eq_some_iff] at h
        obtain ⟨d, h1, h2⟩ := h
        obtain ⟨v, h3, h4⟩ := r.atI h1
        subst h2
        exact (.inr (.inl ⟨a, xs, i, v, ex, rfl, sqT_mono I.sub q, h3, k v (I.dropV.push h4) trivial⟩))
      case lst ds =>
        obtain ⟨a, xs, ex, q, r⟩ := r
        simp only [Option.map_eq_some_iff] at h
        obtain ⟨d, h1, h2⟩ := h
        obtain ⟨v, h3, h4⟩ := r.atI h1
        subst h2
        exact (.inl ⟨a, xs, i, v, ex, rfl, .inl (rd_mono I.sub q), h3, k v (I.dropV.push h4) trivial⟩)
      case str s =>
        obtain ⟨ex, ok⟩ := r
        simp only at h
        split at h
        · rename_i hl
          simp only [Option.map_eq_some_iff] at h
          obtain ⟨c, h1, h2⟩ := h
          subst h2
          obtain ⟨j, g1, g2⟩ := atI_of (ys := s) h1 rfl
          refine (.inr (.inr ⟨txt s, i, c, ex, rfl, ?_, ?_, k _ (I.dropV.push ⟨rfl, ?_⟩) trivial⟩))
          · show s.toArray.size ≤ sizeLine
            rw [List.size_toArray, ← line_eq]; exact hl
          · show L2.atI s.toArray.toList i = some c
            simp only [List.toList_toArray]
            rw [g2, g1]
          · unfold okTxt at ok ⊢
            rw [List.all_eq_true] at ok
            simp only [List.all_cons, List.all_nil, Bool.and_true]
            exact ok c (List.mem_of_getElem? g1)
        · cases h
      case scr ns =>
        obtain ⟨a, ex, q⟩ := r
        simp only [Option.map_eq_some_iff] at h
        obtain ⟨n, h1, h2⟩ := h
        subst h2
        obtain ⟨j, g1, g2⟩ := atI_of (ys := ns.map V.int) h1 (by simp)
        exact (.inl ⟨a, _, i, .int n, ex, rfl, q.elim (fun h => .inl (rd_mono I.sub h)) .inr, by rw [g2, List.getElem?_map, g1]; rfl, k _ (I.dropV.push rfl) trivial⟩)
      case dct kvs =>
        obtain ⟨a, xs, ex, q, r⟩ := r
        simp only [Option.map_eq_some_iff] at h
        obtain ⟨kv, h1, h2⟩ := h
        subst h2
        obtain ⟨v, h3, h4⟩ := keys_find r h1
        exact ⟨a, v, ex, .inl ⟨_, .inl i, .inl (I.sub _ _ q), rfl, h3.symm⟩, k v (I.dropV.push h4) trivial⟩
    | ol ds =>
      obtain ⟨a, xs, ex, _, q, r⟩ := r
      simp only [Option.map_eq_some_iff] at h
      obtain ⟨d, h1, h2⟩ := h
      obtain ⟨v, h3, h4⟩ := r.atI h1
      subst h2
      exact (.inl ⟨a, xs, i, v, ex, rfl, .inl (.inl q), h3, k v (I.dropV.push h4) trivial⟩)
    | ot as =>
      simp only [Option.bind_eq_some_iff] at h
      obtain ⟨j, h1, b, h2, h3⟩ := h
      obtain ⟨a, xs, ex, q, r⟩ := r
      obtain ⟨v, g1, g2⟩ := RepAL.at r h2
      have g3 : L2.atI xs i = some v := by
        unfold L2.atI
        rw [r.len]
        rw [show ixN as.length i = some j from h1]
        exact g1
      have fin : ∀ w' : PV, w' = w → InvA X.K H0 F0 ρ FH (tmp w' v T) σ H → Plc FH σ w' v → rIx X.K x (.int i) H Q := fun w' ew J p => by
        subst ew
        exact .inr (.inl ⟨a, xs, i, v, ex, rfl, tupK I q, g3, k v J p⟩)
      cases b with
      | fz d => exact (fin (.av (.fz d)) (Option.some.inj h3) (I.dropV.push g2) trivial)
      | _ =>
        cases u with
        | av c =>
          cases (show some c = some (.ot as) from e)
          have I' : InvA X.K H0 F0 ρ FH ((x, .ot as) :: T) σ H := I
          obtain ⟨p2, vs2, w2, e2, q2, _, g4, J⟩ := I'.pick h2
          rw [ex] at e2
          cases e2
          rw [q] at q2
          cases q2
          rw [g1] at g4
          cases g4
          exact (fin _ (Option.some.inj h3) J trivial)
        | pl m p =>
          obtain ⟨z, z1, z2⟩ := pl
          exact (fin _ (Option.some.inj h3) I ⟨z, z1, z2.snoc ex q g1⟩)
    | od kvs =>
      simp only [Option.bind_eq_some_iff] at h
      obtain ⟨⟨k', b⟩, h1, h2⟩ := h
      cases b <;> first | (cases h2; done) | skip
      rename_i d
      obtain ⟨a, xs, ex, _, q, r⟩ := r
      obtain ⟨v, h3, h4⟩ := keys_findA r h1
      exact ⟨a, v, ex, .inl ⟨_, .inl i, .inl q, rfl, h3.symm⟩, by cases h2; exact k v (I.dropV.push h4) trivial⟩
theorem s_ix {a b : E} {xa xb : Expr} {pos : Pos} (hu : X.A.units + 65 < cLine) (ha : PE X xa (tE B X.K a)) (hb : PE X xb (tE B X.K b)) (hs : noSlice xb = true) : PE X (.Subscript xa xb pos) (tE B X.K (.ix a b)) := by
  refine PE.imp (PE.or (pe_ix ix_seq ha hb (plainIx_of hs)) (pe_dget (by omega) ha hb (plainIx_of hs))) fun σ H Q ⟨H0, F0, ρ, FH, T, I, h⟩ => ?_
  simp only [ev, Gd_bnd, Gd_lift, Gd_own] at h
  obtain ⟨u1, ρ1, e1, h⟩ := h.ok
  obtain ⟨u2, ρ2, e2, i, e3, h⟩ := h.ok
  cases e4 : ixP ρ2 u1 i with
  | none => rw [e4] at h; exact h.elim
  | some w =>
    rw [e4] at h
    have main : tE B X.K a σ H fun x H1 => tE B X.K b σ H1 fun y H2 => IxG (isDict (look ρ2 u1)) (∃ a v, x = .ref a ∧ DGet H2 a y (some v) ∧ Q v H2) (rIx X.K x y H2 Q) := by
      refine ⟨H0, F0, ρ, FH, T, I, ?_⟩
      rw [e1]
      intro x H1 FH1 s1 I1 p1
      refine ⟨H0, F0, ρ1, FH1, tmp u1 x T, I1, ?_⟩
      rw [e2]
      intro y H2 FH2 s2 I2 p2
      exact ix_of I2.dropV (p1.mono s2) (I2.int p2 e3) e4 fun v J pl => h v H2 FH2 (s1.trans s2) J pl
    cases e5 : isDict (look ρ2 u1) with
    | true => rw [e5] at main; exact .inr main
    | false => rw [e5] at main; exact .inl main
end
end DY
set_option Elab.async false
set_option linter.all false
set_option maxRecDepth 100000
/-! What the code reads: slices, calls, builtins. -/
namespace DY
open PySem L2
section
variable {X : Cx} {B : Tb} {H0 F0 FH FH' H H' : Hp} {ρ ρ' : Ev} {T : List (V × AV)} {σ : L2.St} {u : PV} {v : V} {d : D} {Q : VK}

/-! ### slices -/
def tO (B : Tb) (K : Fg) (o : Option E) : TO := fun σ H Q => ∃ H0 F0 ρ FH T, InvA K H0 F0 ρ FH T σ H ∧
  Gd (evO B.C B.G B.above o ρ) fun i ρ' => ∀ H' FH', Same FH FH' → InvA K H0 F0 ρ' FH' T σ H' → Q i H'
theorem o_none : PO X none (tO B X.K none) := PO.imp po_none fun σ H Q ⟨H0, F0, ρ, FH, T, I, h⟩ => h H FH (Same.refl _) I
theorem o_some {e : E} {x : Expr} (ha : PE X x (tE B X.K e)) : PO X (some x) (tO B X.K (some e)) := by
  refine PO.imp (po_some ha) fun σ H Q ⟨H0, F0, ρ, FH, T, I, h⟩ => ⟨H0, F0, ρ, FH, T, I, ?_⟩
  simp only [evO] at h
  cases e1 : ev B.C B.G B.above e ρ with
  | ok r =>
    obtain ⟨u, ρ1⟩ := r
    rw [e1] at h
    simp only at h
    intro v H1 FH1 s1 I1 p1
    cases e2 : intOf (peek ρ1 u) with
    | none => rw [e2] at h; exact h.elim
    | some i =>
      rw [e2] at h
      exact ⟨i, I1.int p1 e2, h _ _ s1 I1.dropV⟩
  | er x r => rw [e1] at h; exact h.elim
  | no => rw [e1] at h; exact h.elim
theorem cut_eq (n d : Nat) (o : Option Int) : HT.sIx n d o = cutZ n d o := by
  cases o with
  | none => rfl
  | some v =>
    unfold HT.sIx cutZ
    simp only
    split
    · omega
    · rfl
theorem RepL.cut {K : Fg} {ds : List D} {xs : List V} (r : RepL K H ds xs) (lo hi : Option Int) : RepL K H (slice ds lo hi) (cutV xs lo hi) := by
  unfold slice cutV
  rw [cut_eq, cut_eq, r.len]
  exact (r.drop _).take _
theorem goO {a : Option E} {P : Option Int → Ev → Prop} {Q : Option Int → Hp → Prop} (I : InvA X.K H0 F0 ρ FH T σ H) (h : Gd (evO B.C B.G B.above a ρ) P)
    (k : ∀ o ρ' H' FH', P o ρ' → Same FH FH' → InvA X.K H0 F0 ρ' FH' T σ H' → Q o H') : tO B X.K a σ H Q :=
  ⟨H0, F0, ρ, FH, T, I, h.mono fun u ρ' p H' FH' s J => k u ρ' H' FH' p s J⟩
theorem s_sl {a : E} {lo hi : Option E} {xa : Expr} {xl xh : Option Expr} {p2 pos : Pos} (ha : PE X xa (tE B X.K a)) (hlo : PO X xl (tO B X.K lo)) (hhi : PO X xh (tO B X.K hi)) :
    PE X (.Subscript xa (.Slice xl xh none p2) pos) (tE B X.K (.sl a lo hi)) := by
  refine PE.imp (pe_slice (SlR.or sl_list sl_tupA) ha hlo hhi) fun σ H Q ⟨H0, F0, ρ, FH, T, I, h⟩ => ?_
  simp only [ev, Gd_bnd] at h
  refine go I h fun u1 ρ1 x H1 FH1 h s1 I1 p1 => ?_
  cases e2 : evO B.C B.G B.above lo ρ1 with
  | er x r => rw [e2] at h; exact h.elim
  | no => rw [e2] at h; exact h.elim
  | ok r =>
  obtain ⟨l, ρ2⟩ := r
  rw [e2] at h
  simp only at h
  refine ⟨H0, F0, ρ1, FH1, _, I1, ?_⟩
  rw [e2]
  intro H2 FH2 s2 I2
  cases e3 : evO B.C B.G B.above hi ρ2 with
  | er x r => rw [e3] at h; exact h.elim
  | no => rw [e3] at h; exact h.elim
  | ok r =>
  obtain ⟨hh, ρ3⟩ := r
  rw [e3] at h
  simp only at h
  refine ⟨H0, F0, ρ2, FH2, _, I2, ?_⟩
  rw [e3]
  intro H3 FH3 s3 I3
  rw [Gd_lift] at h
  obtain ⟨⟨d, ρ4⟩, e4, h⟩ := h
  obtain ⟨F4, s4, I4, r4⟩ := I3.shl (p1.mono (s2.trans s3)) e4
  have ss := (s1.trans s2).trans (s3.trans s4)
  cases d <;> simp only [Gd_own] at h <;> first | exact (show False from h).elim | skip
  case lst ds =>
    obtain ⟨a, ea, h⟩ := h
    cases ea
    obtain ⟨b, xs, ex, q, r⟩ := r4
    exact .inl ⟨b, xs, ex, .inl q, fun p hp => h _ _ _ ss (I4.newLst hp (r.cut _ _)) trivial⟩
  case tup ds =>
    obtain ⟨a, ea, h⟩ := h
    cases ea
    have r0 := r4
    obtain ⟨b, xs, ex, q, r⟩ := r4
    refine .inr ⟨b, xs, ex, sqT_mono I4.sub q, fun hw => ?_, fun _ p hp => h _ _ _ (ss.trans (same_upd (none_of_sub I4.sub hp))) (I4.newTup hp (r.cut _ _)) trivial⟩
    have e5 : slice ds l hh = ds := by
      rw [cut_eq, cut_eq, r.len] at hw
      unfold slice
      rw [hw.1, hw.2]
      simp
    rw [e5] at h
    rw [← ex]
    exact h _ _ _ ss (I4.push r0) trivial
theorem s_rev {a : E} {xa : Expr} {k : Nat} {p1 p2 p3 pos : Pos} (ha : PE X xa (tE B X.K a)) : PE X (.Subscript xa (.Slice none none (some (.UnaryOp .USub (.Constant (.int 1) k p1) p2)) p3) pos) (tE B X.K (.rev a)) := by
  refine PE.imp (pe_revL ha) fun σ H Q ⟨H0, F0, ρ, FH, T, I, h⟩ => ?_
  simp only [ev, Gd_bnd, Gd_lift] at h
  refine go I h fun u1 ρ1 x H1 FH1 h s1 I1 p1 => ?_
  obtain ⟨⟨d, ρ4⟩, e4, h⟩ := h
  obtain ⟨F4, s4, I4, r4⟩ := I1.shl p1 e4
  cases d <;> simp only [Gd_own] at h <;> first | exact (show False from h).elim | skip
  obtain ⟨a, ea, h⟩ := h
  cases ea
  obtain ⟨b, xs, ex, q, r⟩ := r4
  exact ⟨b, xs, ex, .inl q, fun p hp => h _ _ _ (s1.trans s4) (I4.newLst hp r.rev) trivial⟩

/-! ### calls -/
def spV (K : Fg) (n : Nat) (F : List D → R AV) : Sp := fun vs H Q _ => vs.length = n ∧ ∃ FH ds av, Same FH H ∧ (∀ b o, H b = some o → still o → FH b = some o) ∧ RepL K FH ds vs ∧ F ds = .ok av ∧
  ∀ v H' FH', InvA K H FH [] FH' [(v, av)] [] H' → Q v H'
theorem InvA.dropL : ∀ {us : List PV} {vs : List V} {T : List (V × AV)}, InvA X.K H0 F0 ρ FH (tmpL us vs T) σ H → InvA X.K H0 F0 ρ FH T σ H
  | [], _, _, I => I
  | _ :: _, [], _, I => I
  | u :: us, v :: vs, T, I => InvA.dropV (u := u) (v := v) (InvA.dropL (us := us) (vs := vs) I)
theorem peekL_rep : ∀ {us : List PV} {vs : List V} {T : List (V × AV)} {ds : List D}, InvA X.K H0 F0 ρ FH (tmpL us vs T) σ H → PlcL FH σ us vs → peekL ρ us = some ds → RepL X.K H ds vs
  | [], _, _, ds, I, p, h => by
    cases (show some [] = some ds from h)
    exact p
  | u :: us, _, T, ds, I, ⟨v, r, e, p, t⟩, h => by
    subst e
    simp only [peekL, Option.bind_eq_some_iff, Option.map_eq_some_iff] at h
    obtain ⟨d, h1, ds', h2, h3⟩ := h
    subst h3
    exact ⟨v, r, rfl, (InvA.dropL (us := us) (vs := r) I).peek p h1, peekL_rep (us := us) (T := tmp u v T) I t h2⟩
theorem frzL_rep : ∀ {us : List PV} {vs : List V} {T : List (V × AV)} {ds : List D} {ρ' : Ev}, InvA X.K H0 F0 ρ FH (tmpL us vs T) σ H → PlcL FH σ us vs → frzL ρ us = some (ds, ρ') → ∃ F, Same FH F ∧ InvA X.K H0 F0 ρ' F T σ H ∧ RepL X.K F ds vs
  | [], _, _, ds, ρ', I, p, h => by
    cases (show some ([], ρ) = some (ds, ρ') from h)
    exact ⟨FH, Same.refl _, I, p⟩
  | u :: us, _, T, ds, ρ', I, ⟨v, r, e, p, t⟩, h => by
    subst e
    simp only [frzL, Option.bind_eq_some_iff, Option.map_eq_some_iff] at h
    obtain ⟨⟨ds', ρ1⟩, h1, ⟨d, ρ2⟩, h2, h3⟩ := h
    cases h3
    obtain ⟨F1, s1, I1, r1⟩ := frzL_rep (us := us) (T := tmp u v T) I t h1
    obtain ⟨F2, s2, I2, r2⟩ := I1.frz (p.mono s1) h2
    exact ⟨F2, s1.trans s2, I2, v, r, rfl, r2, RepL.mono s2 _ _ r1⟩
/-- some slots shared since -/
def Frzd (ρ ρ1 : Ev) : Prop := ∀ i, DY.get ρ1 i = DY.get ρ i ∨ ∃ a, DY.get ρ i = some a ∧ DY.get ρ1 i = some (.fz a.erase)
theorem get_set {ρ : Ev} {i j : Nat} {x : Option AV} (hi : ∃ a, DY.get ρ i = some a) : DY.get (ρ.set i x) j = if i = j then x else DY.get ρ j := by
  unfold DY.get
  obtain ⟨a, ha⟩ := hi
  have hl : i < ρ.length := (List.getElem?_eq_some_iff.mp (get_at ha)).1
  by_cases h : i = j
  · subst h
    rw [if_pos rfl, List.getElem?_set_self hl]
  · rw [if_neg h, List.getElem?_set_ne h]
theorem frzd_peek {ρ ρ1 ρ2 : Ev} {u : PV} {d d' : D} (f : Frzd ρ ρ1) (h : DY.frz ρ1 u = some (d, ρ2)) (g : DY.peek ρ u = some d') : d = d' ∧ Frzd ρ ρ2 := by
  cases u with
  | av a => cases h; cases g; exact ⟨rfl, f⟩
  | pl i p =>
    simp only [DY.frz, Option.bind_eq_some_iff, Option.map_eq_some_iff] at h
    obtain ⟨a, h1, b, h2, h3⟩ := h
    cases h3
    have g : ((DY.get ρ i).bind (nav p)).map AV.erase = some d' := g
    rcases f i with e | ⟨c, e1, e2⟩
    · rw [← e, h1] at g
      simp only [Option.bind_some, h2, Option.map_some] at g
      cases g
      refine ⟨rfl, fun j => ?_⟩
      rw [get_set ⟨a, h1⟩]
      by_cases hj : i = j
      · subst hj
        rw [if_pos rfl]
        exact .inr ⟨a, e ▸ h1, rfl⟩
      · rw [if_neg hj]; exact f j
    · rw [e2] at h1
      cases h1
      cases p with
      | cons k p => cases h2
      | nil =>
        cases h2
        rw [e1] at g
        cases g
        refine ⟨rfl, fun j => ?_⟩
        rw [get_set ⟨_, e2⟩]
        by_cases hj : i = j
        · subst hj
          rw [if_pos rfl]
          exact .inr ⟨c, e1, rfl⟩
        · rw [if_neg hj]; exact f j
theorem frzL_peekL : ∀ {us : List PV} {ds ds' : List D} {ρ' : Ev}, frzL ρ us = some (ds, ρ') → peekL ρ us = some ds' → ds = ds' ∧ Frzd ρ ρ'
  | [], ds, ds', ρ', h, g => by
    cases (show some ([], ρ) = some (ds, ρ') from h)
    cases (show some [] = some ds' from g)
    exact ⟨rfl, fun i => .inl rfl⟩
  | u :: us, ds, ds', ρ', h, g => by
    simp only [frzL, Option.bind_eq_some_iff, Option.map_eq_some_iff] at h
    obtain ⟨⟨ds1, ρ1⟩, h1, ⟨d, ρ2⟩, h2, h3⟩ := h
    cases h3
    simp only [peekL, Option.bind_eq_some_iff, Option.map_eq_some_iff] at g
    obtain ⟨d', g1, ds2, g2, g3⟩ := g
    subst g3
    obtain ⟨e1, f1⟩ := frzL_peekL h1 g2
    obtain ⟨e2, f2⟩ := frzd_peek f1 h2 g1
    exact ⟨by rw [e1, e2], f2⟩
theorem thin_fz {a : AV} (h : thin a = true) : ∃ d, a = .fz d ∧ thinD d = true := by
  cases a with
  | fz d => exact ⟨d, rfl, h⟩
  | _ => cases h
theorem call_of {f n : Nat} {us : List PV} {vs : List V} {P : PV → Ev → Prop} {E : XK} (I : InvA X.K H0 F0 ρ FH (tmpL us vs T) σ H) (p : PlcL FH σ us vs) (hn : vs.length = n) (h : Gd (callP B.C ρ f us) P)
    (k : ∀ u ρ' v H' FH', P u ρ' → Same FH FH' → InvA X.K H0 F0 ρ' FH' (tmp u v T) σ H' → Plc FH' σ u v → Q v H') : spV X.K n (B.C f) (vs ++ []) H Q E := by
  rw [List.append_nil]
  refine ⟨hn, ?_⟩
  unfold callP at h
  cases e1 : peekL ρ us with
  | none => rw [e1] at h; exact h.elim
  | some ds =>
    rw [e1] at h
    simp only at h
    cases e2 : B.C f ds with
    | ok a =>
      rw [e2] at h
      simp only at h
      by_cases ht : thin a = true
      · rw [if_pos ht] at h
        obtain ⟨d, rfl, td⟩ := thin_fz ht
        refine ⟨H, ds, _, Same.refl _, fun _ _ h _ => h, peekL_rep I p e1, e2, fun v H' FH' J => ?_⟩
        obtain ⟨G, s, J2⟩ := (InvA.dropL I).callThin J td
        exact k _ _ v H' G h s J2 trivial
      · rw [if_neg ht] at h
        cases e3 : frzL ρ us with
        | none => rw [e3] at h; exact h.elim
        | some r =>
          obtain ⟨ds', ρ'⟩ := r
          rw [e3] at h
          obtain ⟨e4, _⟩ := frzL_peekL e3 e1
          subst e4
          obtain ⟨F, s, J, r⟩ := frzL_rep I p e3
          exact ⟨F, ds', a, J.sub, J.tup, r, e2, fun v H' FH' J2 => k _ _ v H' FH' h (s.trans J2.fsub) (J.call J2) trivial⟩
    | er x r => rw [e2] at h; exact h.elim
    | no => rw [e2] at h; exact h.elim
theorem plcL_len : ∀ {us : List PV} {vs : List V}, PlcL FH σ us vs → vs.length = us.length
  | [], _, h => by cases (show _ = _ from h); rfl
  | _ :: us, _, ⟨v, r, e, _, t⟩ => by subst e; rw [List.length_cons, plcL_len t, List.length_cons]
theorem evA_len : ∀ {es : List E} {ρ ρ' : Ev} {us : List PV}, evA B.C B.G B.above es ρ = .ok (us, ρ') → us.length = es.length
  | [], ρ, ρ', us, h => by simp only [evA] at h; cases h; rfl
  | e :: es, ρ, ρ', us, h => by
    simp only [evA] at h
    cases e1 : ev B.C B.G B.above e ρ with
    | ok r =>
      obtain ⟨u, ρ1⟩ := r
      rw [e1] at h
      simp only at h
      cases e2 : evA B.C B.G B.above es ρ1 with
      | ok r =>
        obtain ⟨vs, ρ2⟩ := r
        rw [e2] at h
        cases h
        rw [List.length_cons, List.length_cons, evA_len e2]
      | er x r => rw [e2] at h; cases h
      | no => rw [e2] at h; cases h
    | er x r => rw [e1] at h; cases h
    | no => rw [e1] at h; cases h
theorem tCall_of {f : Nat} {es : List E} {E : XK} (h : tE B X.K (.call f es) σ H Q) : tCall (spV X.K es.length (B.C f)) [] E (tAA B X.K es) σ H Q := by
  obtain ⟨H0, F0, ρ, FH, T, I, h⟩ := h
  simp only [ev] at h
  refine ⟨H0, F0, ρ, FH, T, I, ?_⟩
  cases e1 : evA B.C B.G B.above es ρ with
  | er x r => rw [e1] at h; exact h.elim
  | no => rw [e1] at h; exact h.elim
  | ok r =>
  obtain ⟨us, ρ1⟩ := r
  rw [e1] at h
  simp only at h
  intro vs H1 FH1 s1 I1 p1
  exact call_of I1 p1 ((plcL_len p1).trans (evA_len e1)) h fun u ρ' v H' FH' hk s J pl => hk v H' FH' (s1.trans s) J pl
end
end DY
set_option Elab.async false
set_option linter.all false
set_option maxRecDepth 100000
/-! What the code reads: builtins, isinstance, pop, index. -/
namespace DY
open PySem L2
section
variable {X : Cx} {B : Tb} {H0 F0 FH FH' H H' : Hp} {ρ ρ' : Ev} {T : List (V × AV)} {σ : L2.St} {u : PV} {v : V} {d : D} {Q : VK}
def bfN : Bf → Str
  | .len => "len" | .abs => "abs" | .max => "max" | .min => "min" | .list => "list" | .tuple => "tuple" | .sorted => "sorted" | .int => "int" | .all => "all" | .lrange => "list"
theorem bltD_new {f : Bf} {ds : List D} {a : AV} (h : bltD f ds = some a) : (∃ d, a = .fz d) ∨ ∃ ds, a = .ol ds := by
  unfold bltD at h
  split at h <;> first
    | (cases h; exact .inl ⟨_, rfl⟩)
    | (cases h; exact .inr ⟨_, rfl⟩)
    | (split at h <;> first | (cases h; exact .inl ⟨_, rfl⟩) | (cases h; exact .inr ⟨_, rfl⟩) | (cases h; done) | (split at h <;> first | (cases h; exact .inl ⟨_, rfl⟩) | (cases h; exact .inr ⟨_, rfl⟩) | (cases h; done)))
    | (cases h; done)
    | (simp only [Option.bind_eq_some_iff, Option.map_eq_some_iff] at h; obtain ⟨_, _, _, _, h⟩ := h; exact .inl ⟨_, h.symm⟩)
    | (simp only [Option.bind_eq_some_iff, Option.map_eq_some_iff] at h; obtain ⟨_, _, h⟩ := h; exact .inl ⟨_, h.symm⟩)
def rB (K : Fg) (f : Bf) : List V → Hp → VK → Prop := fun vs H Q =>
  (∃ FH F2 d a v, vs = [v] ∧ Same FH H ∧ Same F2 H ∧ (F2 = FH ∨ isLen f = true) ∧ RepS K F2 H d v ∧ bltD f [d] = some a ∧ NewQ K FH H a Q) ∨
  (∃ FH d e a v w, vs = [v, w] ∧ Rep K H d v ∧ Rep K H e w ∧ bltD f [d, e] = some a ∧ NewQ K FH H a Q)
theorem call_b (hc : X.calm = true) (f : Bf) (hf : isLrange f = false) : CallR X (bfV f) (rB X.K f) := CallR.or (call_b1 hc f hf) (call_b2 hc f hf)
theorem tB_of {f : Bf} {es : List E} (hf : isLrange f = false) (h : tE B X.K (.blt f es) σ H Q) : tCB (rB X.K f) (tAA B X.K es) σ H Q := by
  obtain ⟨H0, F0, ρ, FH, T, I, h⟩ := h
  simp only [ev] at h
  refine ⟨H0, F0, ρ, FH, T, I, ?_⟩
  cases e1 : evA B.C B.G B.above es ρ with
  | er x r => rw [e1] at h; exact h.elim
  | no => rw [e1] at h; exact h.elim
  | ok r =>
  obtain ⟨us, ρ1⟩ := r
  rw [e1] at h
  intro vs H1 FH1 s1 I1 p1
  rcases us with _ | ⟨u1, _ | ⟨u2, _ | ⟨u3, r⟩⟩⟩
  · exact h.elim
  · simp only [Gd_lift] at h
    obtain ⟨v, r, rfl, q, t⟩ := p1
    cases (show _ = _ from t)
    have I2 : InvA X.K H0 F0 ρ1 FH1 (tmp u1 v T) σ H1 := I1
    obtain ⟨⟨d, ρ2⟩, e2, h⟩ := h
    simp only [Gd_own] at h
    obtain ⟨a, e3, h⟩ := h
    by_cases hl : isLen f = true
    · have ef : f = .len := by cases f <;> first | rfl | cases hl
      subst ef
      simp only [Option.map_eq_some_iff] at e2
      obtain ⟨d', e4, e5⟩ := e2
      cases e5
      refine .inl ⟨FH1, H1, d, a, v, rfl, I2.sub, Same.refl _, .inr rfl, RepS.of (Same.refl _) (I2.peek q e4), e3, I2.dropV.newQ (bltD_new e3) fun w H' FH' s J => ?_⟩
      exact h w H' FH' (s1.trans s) J trivial
    · have e6 : DY.shl ρ1 u1 = some (d, ρ2) := by cases f <;> first | exact e2 | exact absurd rfl hl
      obtain ⟨F2, s2, I3, r3⟩ := I2.shl q e6
      refine .inl ⟨F2, F2, d, a, v, rfl, I3.sub, I3.sub, .inl rfl, r3, e3, I3.newQ (bltD_new e3) fun w H' FH' s J => ?_⟩
      exact h w H' FH' (s1.trans (s2.trans s)) J trivial
  · simp only [Gd_lift, Gd_own] at h
    obtain ⟨v, r, rfl, q, w, r', rfl, q', t⟩ := p1
    cases (show _ = _ from t)
    have I2 : InvA X.K H0 F0 ρ1 FH1 (tmp u2 w (tmp u1 v T)) σ H1 := I1
    obtain ⟨d, e2, e, e3, a, e4, h⟩ := h
    exact .inr ⟨FH1, d, e, a, v, w, rfl, I2.dropV.peek q e2, I2.peek q' e3, e4, I2.dropV.dropV.newQ (bltD_new e4) fun w H' FH' s J => h w H' FH' (s1.trans s) J trivial⟩
  · exact h.elim
theorem s_blt {f : Bf} {es : List E} {x : Expr} {xs : List Expr} {p pos : Pos} (hf : isLrange f = false) (hc : X.calm = true) (hg : Gl X (bfN f)) (hm : X.mg (bfN f) = none) (ha : PA X (x :: xs) (tAA B X.K es))
    (hst : starEach (x :: xs) X.env = (false, eval x X.env) :: starEach xs X.env) (hpl : (backTo pos (starEach xs X.env)).any (·.1) = false) : PE X (.Call (.Name (bfN f) p) (x :: xs) [] pos) (tE B X.K (.blt f es)) := by
  cases f with
  | lrange => cases hf
  | len => exact PE.imp (pe_callB (call_b hc .len hf) hg hm (by rfl) ha (by decide) (by decide) hst hpl) fun σ H Q h => tB_of hf h
  | abs => exact PE.imp (pe_callB (call_b hc .abs hf) hg hm (by rfl) ha (by decide) (by decide) hst hpl) fun σ H Q h => tB_of hf h
  | max => exact PE.imp (pe_callB (call_b hc .max hf) hg hm (by rfl) ha (by decide) (by decide) hst hpl) fun σ H Q h => tB_of hf h
  | min => exact PE.imp (pe_callB (call_b hc .min hf) hg hm (by rfl) ha (by decide) (by decide) hst hpl) fun σ H Q h => tB_of hf h
  | sorted => exact PE.imp (pe_callB (call_b hc .sorted hf) hg hm (by rfl) ha (by decide) (by decide) hst hpl) fun σ H Q h => tB_of hf h
  | all => exact PE.imp (pe_callB (call_b hc .all hf) hg hm (by rfl) ha (by decide) (by decide) hst hpl) fun σ H Q h => tB_of hf h
  | list => exact PE.imp (pe_callTy (call_b hc .list hf) hg hm (by rfl) ha (by decide) (by decide) hst hpl) fun σ H Q h => tB_of hf h
  | tuple => exact PE.imp (pe_callTy (call_b hc .tuple hf) hg hm (by rfl) ha (by decide) (by decide) hst hpl) fun σ H Q h => tB_of hf h
  | int => exact PE.imp (pe_callTy (call_b hc .int hf) hg hm (by rfl) ha (by decide) (by decide) hst hpl) fun σ H Q h => tB_of hf h
theorem rg_rep {K : Fg} {n : Int} (h0 : 0 ≤ n) : RepL K H ((List.range n.toNat).map fun (k : Nat) => D.int (k : Int)) (rgV 0 n) := by
  unfold rgV
  rw [show (n - 0).toNat = n.toNat by omega]
  generalize List.range n.toNat = l
  induction l with
  | nil => exact rfl
  | cons k l ih => exact ⟨.int (0 + (k : Int)), _, rfl, by show V.int _ = V.int _; rw [Int.zero_add], ih⟩
theorem s_lrange {e : E} {x : Expr} {p1 q1 p2 q2 : Pos} (hc : X.calm = true) (hg : Gl X "list") (hm : X.mg "list" = none) (hg2 : Gl X "range") (hm2 : X.mg "range" = none) (ha : PE X x (tE B X.K e))
    (hs : starEach [x] X.env = (false, eval x X.env) :: starEach [] X.env) : PE X (.Call (.Name "list" p1) [.Call (.Name "range" p2) [x] [] q2] [] q1) (tE B X.K (.blt .lrange [e])) := by
  refine PE.imp (pe_listRg hc hg hm (prg_1 hg2 hm2 ha hs)) fun σ H Q ⟨H0, F0, ρ, FH, T, I, h⟩ => ?_
  simp only [ev, evA] at h
  cases e1 : ev B.C B.G B.above e ρ with
  | er x r => rw [e1] at h; exact h.elim
  | no => rw [e1] at h; exact h.elim
  | ok r =>
  obtain ⟨u, ρ1⟩ := r
  rw [e1] at h
  simp only [Gd_lift] at h
  obtain ⟨⟨d, ρ2⟩, e2, h⟩ := h
  simp only [Gd_own] at h
  obtain ⟨a, e3, h⟩ := h
  refine ⟨H0, F0, ρ, FH, T, I, ?_⟩
  rw [e1]
  intro v H1 FH1 s1 I1 p1
  obtain ⟨F2, s2, I2, r2⟩ := I1.shl p1 e2
  cases d <;> simp only [bltD] at e3 <;> first | (cases e3; done) | skip
  rename_i n
  split at e3
  · rename_i hn
    cases e3
    refine ⟨n, r2, RgOk.of_le (by omega) (by omega) (by omega) (by omega), fun q hq => h _ _ _ (s1.trans s2) (I2.newLst hq (rg_rep hn.1)) trivial⟩
  · cases e3
theorem s_isi {a : E} {k : Kd} {xa : Expr} {p p2 pos : Pos} (hk : kdS k ≠ "") {nm : Str} (hb : bootBuiltins nm = some (.type (kdS k))) (hnn : nm ≠ "__name__") (hdd : (nm == ("__debug__" : Str)) = false) (hg : Gl X "isinstance") (hm : X.mg "isinstance" = none) (hg2 : Gl X nm) (hm2 : X.mg nm = none) (ha : PE X xa (tE B X.K a))
    (hst : starEach [xa, .Name nm p2] X.env = (false, eval xa X.env) :: starEach [.Name nm p2] X.env) : PE X (.Call (.Name "isinstance" p) [xa, .Name nm p2] [] pos) (tE B X.K (.isi a k)) := by
  refine PE.imp (pe_callB (call_isiD k hk) hg hm (by rfl) (pa_cons ha (pa_cons (pe_bltn (v := .ty (kdS k)) hg2 hm2 hb rfl hnn hdd) pa_nil (by rfl)) hst) (by decide) (by decide) hst (by rfl)) fun σ H Q ⟨H0, F0, ρ, FH, T, I, h⟩ => ?_
  simp only [ev, Gd_bnd, Gd_lift, Gd_own] at h
  refine go I h fun u1 ρ1 x H1 FH1 h s1 I1 p1 => ?_
  obtain ⟨d, e1, a, e2, h⟩ := h
  simp only [Option.map_eq_some_iff] at e2
  obtain ⟨b, e3, e4⟩ := e2
  subst e4
  exact ⟨B.above, d, x, b, rfl, I1.peek p1 e1, e3, h _ _ _ s1 (I1.dropV.push rfl) trivial⟩
end
end DY
set_option Elab.async false
set_option linter.all false
set_option maxRecDepth 100000
/-! What the code reads: methods of lists. -/
namespace DY
open PySem L2
theorem lstOf_some {o : Option D} {ds : List D} (h : lstOf o = some ds) : o = some (.lst ds) := by
  unfold lstOf at h
  split at h
  · cases h; rfl
  · cases h
def notCall0 : Expr → Bool
  | .Call (.Name _ _) [] [] _ => false
  | _ => true
theorem base_of {o : Expr} {f : Str} {env : Env} {w : Sem Value} (h : notCall0 o = true) : attributeBase o f env w = w := by
  unfold attributeBase
  split
  · cases h
  · rfl
section
variable {X : Cx} {B : Tb} {H0 F0 FH FH' H H' : Hp} {ρ ρ' : Ev} {T : List (V × AV)} {σ : L2.St} {u : PV} {v : V} {d : D} {Q : VK}
theorem wrt_pl {u : PV} {b : AV} (h : wrt ρ u b = some ρ') : ∃ i p, u = .pl i p := by
  cases u with
  | av a => cases h
  | pl i p => exact ⟨i, p, rfl⟩
theorem tyV_lst {p : Addr} {xs : List V} (h : Rd H p (.lst xs)) : tyV X.K "list" (.ref p) H := .inl ⟨rfl, xs, .inl h⟩
theorem peek_lst {x : V} {ds : List D} (I : InvA X.K H0 F0 ρ FH (tmp u x T) σ H) (p : Plc FH σ u x) (h : lstOf (DY.peek ρ u) = some ds) : tyV X.K "list" x H := by
  obtain ⟨a, xs, e, q, r⟩ := I.peek p (lstOf_some h)
  subst e
  exact tyV_lst q
theorem s_pop {a : E} {xa : Expr} {ap cp : Pos} (ha : PE X xa (tE B X.K a)) (hb : notCall0 xa = true) (hl : (ap.endLine == cp.line) = true) : PE X (.Call (.Attribute xa "pop" ap) [] [] cp) (tE B X.K (.pop a none)) := by
  refine PE.imp (pe_bm0 PySem.F.plainAttrs_list PySem.F.slot_list_pop PySem.F.type_list_pop (fun pins s σ H x xs v us Q => mt_pop pins s σ H x xs v us Q) ha (base_of hb) hl) fun σ H Q ⟨H0, F0, ρ, FH, T, I, h⟩ => ?_
  simp only [ev, Gd_bnd] at h
  refine go I h fun u1 ρ1 x H1 FH1 h s1 I1 p1 => ?_
  cases e1 : look ρ1 u1 with
  | none => rw [e1] at h; exact h.elim
  | some b =>
    rw [e1] at h
    cases b <;> first | exact (show False from h).elim | skip
    rename_i ds
    simp only at h
    cases e2 : ds[ds.length - 1]? with
    | none => rw [e2] at h; exact h.elim
    | some y =>
      rw [e2] at h
      simp only at h
      cases e3 : wrt ρ1 u1 (.ol ds.dropLast) with
      | none => rw [e3] at h; exact h.elim
      | some ρ2 =>
        rw [e3] at h
        obtain ⟨i, p, rfl⟩ := wrt_pl e3
        have I1 : InvA X.K H0 F0 ρ1 FH1 T σ H1 := I1
        obtain ⟨b, xs, ex, hH, r, wr⟩ := I1.ownL p1 e1
        subst ex
        obtain ⟨z, h1, h2⟩ := r.get e2
        have I2 := wr _ xs.dropLast ρ2 (by rw [List.dropLast_eq_take, List.dropLast_eq_take, r.len]; exact r.take _) e3
        refine ⟨tyV_lst (.inl hH), b, xs, z, rfl, rfl, hH, by rw [r.len]; exact h1, h _ _ _ s1 (I2.push h2) trivial⟩
theorem s_popAt {a i : E} {xa xi : Expr} {ap cp : Pos} (ha : PE X xa (tE B X.K a)) (hi : PE X xi (tE B X.K i)) (hb : notCall0 xa = true) (hl : (ap.endLine == cp.line) = true)
    (hs : starEach [xi] X.env = (false, eval xi X.env) :: starEach [] X.env) : PE X (.Call (.Attribute xa "pop" ap) [xi] [] cp) (tE B X.K (.pop a (some i))) := by
  refine PE.imp (pe_bm PySem.F.plainAttrs_list PySem.F.slot_list_pop PySem.F.type_list_pop (fun pins s σ H x xs v us Q => mt_popAt pins s σ H x xs v us Q) ha (pa_cons hi pa_nil hs) (base_of hb) (by rw [hs]; rfl) hl hs (by rfl)) fun σ H Q ⟨H0, F0, ρ, FH, T, I, h⟩ => ?_
  simp only [ev, Gd_bnd, Gd_lift] at h
  refine go I h fun u1 ρ1 x H1 FH1 h s1 I1 p1 => ?_
  obtain ⟨ds0, e0, h⟩ := h
  refine ⟨peek_lst I1 p1 e0, go I1 h fun u2 ρ2 y H2 FH2 h s2 I2 p2 => ?_⟩
  obtain ⟨k, e1, h⟩ := h
  have ey := I2.int p2 e1
  cases e2 : look ρ2 u1 with
  | none => rw [e2] at h; exact h.elim
  | some b =>
    rw [e2] at h
    cases b <;> first | exact (show False from h).elim | skip
    rename_i ds
    simp only at h
    split at h
    · rename_i hs62
      simp only [Gd_lift] at h
      obtain ⟨n, e3, z, e4, ρ3, e5, hf⟩ := h
      obtain ⟨j, p, rfl⟩ := wrt_pl e5
      have I3 : InvA X.K H0 F0 ρ2 FH2 T σ H2 := I2.dropV
      obtain ⟨b, xs, ex, hH, r, wr⟩ := I3.ownL (p1.mono s2) e2
      obtain ⟨v, h1, h2⟩ := r.get e4
      have I4 := wr _ (xs.eraseIdx n) ρ3 (r.erase n) e5
      have hj : ixN xs.length k = some n := by rw [r.len]; exact e3
      have h63 : -(2 ^ 63 : Int) ≤ k ∧ k < 2 ^ 63 := by
        have := hs62.1
        have := hs62.2
        omega
      exact ⟨b, xs, k, n, v, ex, by rw [ey], hH, h63.1, h63.2, (ixN_seq hj).1, h1, hf _ _ _ (s1.trans s2) (I4.push h2) trivial⟩
    · exact h.elim
theorem s_index {a b : E} {xa xb : Expr} {ap cp : Pos} (hu : X.A.units + 65 < cLine) (ha : PE X xa (tE B X.K a)) (hi : PE X xb (tE B X.K b)) (hb : notCall0 xa = true) (hl : (ap.endLine == cp.line) = true)
    (hs : starEach [xb] X.env = (false, eval xb X.env) :: starEach [] X.env) : PE X (.Call (.Attribute xa "index" ap) [xb] [] cp) (tE B X.K (.index a b)) := by
  refine PE.imp (pe_bm PySem.F.plainAttrs_list PySem.F.slot_list_index PySem.F.type_list_index (mt_indexD hu) ha (pa_cons hi pa_nil hs) (base_of hb) (by rw [hs]; rfl) hl hs (by rfl)) fun σ H Q ⟨H0, F0, ρ, FH, T, I, h⟩ => ?_
  simp only [ev, Gd_bnd, Gd_lift] at h
  refine go I h fun u1 ρ1 x H1 FH1 h s1 I1 p1 => ?_
  obtain ⟨ds0, e0, h⟩ := h
  refine ⟨peek_lst I1 p1 e0, go I1 h fun u2 ρ2 y H2 FH2 h s2 I2 p2 => ?_⟩
  obtain ⟨d, e1, e, e2, h⟩ := h
  have r1 := I2.dropV.peek (p1.mono s2) e1
  have r2 := I2.peek p2 e2
  cases d <;> first | exact (show False from h).elim | skip
  rename_i ds
  simp only at h
  split at h
  · rename_i hd
    have hd1 : depth (.lst ds) ≤ 64 := by simp only [depth]; omega
    have q1 := (dp_of (.lst ds) x r1 hd1).1
    have q2 := shaped_of r1 hd1
    simp only [toPy] at q1 q2
    obtain ⟨a, xs, ex, _, _⟩ := r1
    cases e3 : ds.findIdx? (fun z => eqD z e) with
    | none => rw [e3] at h; exact h.elim
    | some k =>
      rw [e3] at h
      simp only [Gd_own] at h
      obtain ⟨a', e4, h⟩ := h
      cases e4
      obtain ⟨hk, f1, f2⟩ := List.findIdx?_eq_some_iff_getElem.mp e3
      have gt : ∀ (l : List D) (m : Nat) (w : D), l[m]? = some w → (toPyL l)[m]? = some (toPy w) := by
        intro l
        induction l with
        | nil => intro m w hw; simp at hw
        | cons c l ih =>
          intro m w hw
          cases m with
          | zero => simp at hw; subst hw; rfl
          | succ m => simp only [toPyL, List.getElem?_cons_succ] at hw ⊢; exact ih m w hw
      have tg : ∀ (l : List D) (m : Nat) (w : PyData), (toPyL l)[m]? = some w → ∃ c, l[m]? = some c ∧ w = toPy c := by
        intro l
        induction l with
        | nil => intro m w hw; simp [toPyL] at hw
        | cons c l ih =>
          intro m w hw
          cases m with
          | zero => simp [toPyL] at hw; exact ⟨c, rfl, hw.symm⟩
          | succ m => simp only [toPyL, List.getElem?_cons_succ] at hw ⊢; exact ih m w hw
      have dm : ∀ (l : List D) (m : Nat) (w : D), l[m]? = some w → depth w ≤ depthL l := by
        intro l
        induction l with
        | nil => intro m w hw; simp at hw
        | cons c l ih =>
          intro m w hw
          simp only [depthL]
          cases m with
          | zero => simp at hw; subst hw; omega
          | succ m =>
            have := ih m w (by simpa using hw)
            omega
      refine ⟨a, y, toPy e, toPyL ds, k, toPy ds[k], ex, rfl, by rw [← ex]; exact q1, (dp_of e y r2 (by omega)).1, q2, shaped_of r2 (by omega), gt ds k _ (List.getElem?_eq_getElem hk), ?_, ?_, h _ _ _ (s1.trans s2) (I2.dropV.dropV.push rfl) trivial⟩
      · have := dm ds k _ (List.getElem?_eq_getElem hk)
        rw [eqv_of _ _ (by omega) (by omega)]; exact f1
      · intro m z hm hz
        obtain ⟨c, c1, c2⟩ := tg ds m z hz
        subst c2
        have := dm ds m c c1
        rw [eqv_of _ _ (by omega) (by omega)]
        have hml : m < ds.length := by omega
        rw [List.getElem?_eq_getElem hml] at c1
        cases c1
        have := f2 m hm
        simpa using this
  · exact h.elim
end
end DY
set_option Elab.async false
set_option linter.all false
set_option maxRecDepth 100000
/-! What the code reads: targets, iterators. -/
namespace DY
open PySem L2 RZ
mutual
def tgs : Tg → List Nat
  | .nm i => [i]
  | .tp ts => tgsL ts
def tgsL : List Tg → List Nat
  | [] => []
  | t :: ts => tgs t ++ tgsL ts
end
section
variable {X : Cx} {B : Tb} {H0 F0 FH FH' H H' : Hp} {ρ ρ' : Ev} {T : List (V × AV)} {σ : L2.St} {u : PV} {v : V} {d : D} {Q : VK}
def tG (K : Fg) (t : Tg) : TG := fun v σ H Q => ∃ H0 F0 ρ FH T d, InvA K H0 F0 ρ FH T σ H ∧ Rep K FH d v ∧ ∃ ρ', asg t d ρ = some ρ' ∧
  ∀ σ', σ'.length = σ.length → (∀ i, i ∉ tgs t → σ'[i]? = σ[i]?) → InvA K H0 F0 ρ' FH T σ' H → Q σ' H
def tGs (K : Fg) (ts : List Tg) : TGs := fun vs σ H Q => ∃ H0 F0 ρ FH T ds, InvA K H0 F0 ρ FH T σ H ∧ RepL K FH ds vs ∧ ∃ ρ', asgL ts ds ρ = some ρ' ∧
  ∀ σ', σ'.length = σ.length → (∀ i, i ∉ tgsL ts → σ'[i]? = σ[i]?) → InvA K H0 F0 ρ' FH T σ' H → Q σ' H
theorem PG.imp {x : Expr} {t t' : TG} (h : PG X x t) (i : ∀ v σ H Q, t' v σ H Q → t v σ H Q) : PG X x t' := ⟨fun pins s σ H v u Q I r q => h.run pins s σ H v u Q I r (i v σ H Q q)⟩
theorem PGs.imp {x : List Expr} {t t' : TGs} (h : PGs X x t) (i : ∀ v σ H Q, t' v σ H Q → t v σ H Q) : PGs X x t' := ⟨fun pins s σ H v u Q I r q => h.run pins s σ H v u Q I r (i v σ H Q q)⟩
theorem PG.or {x : Expr} {t t' : TG} (h : PG X x t) (h' : PG X x t') : PG X x (fun v σ H Q => t v σ H Q ∨ t' v σ H Q) :=
  ⟨fun pins s σ H v u Q I r q => q.elim (h.run pins s σ H v u Q I r) (h'.run pins s σ H v u Q I r)⟩
theorem g_nm {i : Nat} {x : Str} {pos : Pos} (hN : X.N.Nodup) (hi : X.N[i]? = some x) (hx : Loc X.env.scope x) (hf : X.fn x = true ∨ X.env.scope.names.lookup x = some .local) : PG X (.Name x pos) (tG X.K (.nm i)) := by
  refine PG.imp (pg_name hN hi hx hf) fun v σ H Q ⟨H0, F0, ρ, FH, T, d, I, r, ρ', h, k⟩ => ?_
  cases h
  refine k _ (by rw [List.length_set]) (fun j hj => ?_) (I.push r).set
  rw [List.getElem?_set_ne (fun z => hj (by simp [tgs, z]))]
theorem gs_nil : PGs X [] (tGs X.K []) := PGs.imp pgs_nil fun v σ H Q ⟨H0, F0, ρ, FH, T, d, I, r, ρ', h, k⟩ => by
  cases d with
  | nil =>
    cases (show some ρ = some ρ' from h)
    exact ⟨r, k σ rfl (fun _ _ => rfl) I⟩
  | cons _ _ => cases h
theorem gs_cons {t : Tg} {ts : List Tg} {e : Expr} {es : List Expr} (h1 : PG X e (tG X.K t)) (h2 : PGs X es (tGs X.K ts))
    (hs : (assignEach (e :: es) X.env).map (·.2) = assign e X.env :: (assignEach es X.env).map (·.2)) : PGs X (e :: es) (tGs X.K (t :: ts)) := by
  refine PGs.imp (pgs_cons h1 h2 hs) fun v σ H Q ⟨H0, F0, ρ, FH, T, d, I, r, ρ', h, k⟩ => ?_
  cases d with
  | nil => cases h
  | cons d ds =>
    obtain ⟨x, vs, e, r1, r2⟩ := r
    simp only [asgL, Option.bind_eq_some_iff] at h
    obtain ⟨ρ1, h1, h2⟩ := h
    refine ⟨x, vs, e, H0, F0, ρ, FH, T, d, I, r1, ρ1, h1, fun σ1 l1 k1 I1 => ⟨H0, F0, ρ1, FH, T, ds, I1, r2, ρ', h2, fun σ2 l2 k2 I2 => k σ2 (l2.trans l1) (fun i hi => ?_) I2⟩⟩
    simp only [tgsL, List.mem_append, not_or] at hi
    rw [k2 i hi.2, k1 i hi.1]
theorem g_tp {ts : List Tg} {es : List Expr} {k : Nat} {pos : Pos} (hc : X.calm = true) (h : PGs X es (tGs X.K ts)) (hn : (assignEach es X.env).length = ts.length) (hst : (assignEach es X.env).findIdx? (·.1) = none) :
    PG X (.Tuple es k pos) (tG X.K (.tp ts)) := by
  have len : ∀ (ts : List Tg) (ds : List D) (ρ ρ' : Ev), asgL ts ds ρ = some ρ' → ds.length = ts.length := by
    intro ts
    induction ts with
    | nil => intro ds ρ ρ' h; cases ds with | nil => rfl | cons _ _ => cases h
    | cons t ts ih =>
      intro ds ρ ρ' h
      cases ds with
      | nil => cases h
      | cons d ds =>
        simp only [asgL, Option.bind_eq_some_iff] at h
        obtain ⟨ρ1, _, h2⟩ := h
        rw [List.length_cons, List.length_cons, ih ds ρ1 ρ' h2]
  have hT : PG X (.Tuple es k pos) (gTup X.K ts.length (tGs X.K ts)) := pg_tup hc h hn hst
  have hL : PG X (.Tuple es k pos) (gLst X.K ts.length (tGs X.K ts)) := pg_lst hc h hn hst
  refine PG.imp (PG.or hT hL) fun v σ H Q ⟨H0, F0, ρ, FH, T, d, I, r, ρ', h, k⟩ => ?_
  cases d <;> simp only [asg] at h <;> first | (cases h; done) | skip
  case tup ds =>
    obtain ⟨a, xs, ex, q, r⟩ := r
    exact .inl ⟨a, xs, ex, sqT_mono I.sub q, by rw [r.len]; exact len ts ds _ _ h, H0, F0, ρ, FH, T, ds, I, r, ρ', h, k⟩
  case lst ds =>
    obtain ⟨a, xs, ex, q, r⟩ := r
    exact .inr ⟨a, xs, ex, .inl (rd_mono I.sub q), by rw [r.len]; exact len ts ds _ _ h, H0, F0, ρ, FH, T, ds, I, r, ρ', h, k⟩

/-! ### iterators -/
structure Yld (K : Fg) (FH : Hp) (ds : List D) (J : L2.It) : Prop where
  stop : ∀ i H, Same FH H → ds.length ≤ i → J.stop i H
  go : ∀ i H d, Same FH H → ds[i]? = some d → J.go i H
  yld : ∀ i d x H0 F0 ρ FH2 T σ H H', InvA K H0 F0 ρ FH2 T σ H → Same FH FH2 → ds[i]? = some d → J.yld i H x H' → ∃ FH3, Same FH2 FH3 ∧ InvA K H0 F0 ρ FH3 T σ H' ∧ Rep K FH3 d x
def tI (B : Tb) (K : Fg) (it : It) : TI := fun σ H R => ∃ H0 F0 ρ FH T, InvA K H0 F0 ρ FH T σ H ∧
  Gd (evI B.C B.G B.above it ρ) fun ds ρ' => ∀ J H' FH', Same FH FH' → InvA K H0 F0 ρ' FH' T σ H' → Yld K FH' ds J → R J H'
theorem PI.or {tg x : Expr} {t t' : TI} (h : PI X tg x t) (h' : PI X tg x t') : PI X tg x (fun σ H Q => t σ H Q ∨ t' σ H Q) :=
  ⟨fun pins s σ H Q I q => q.elim (h.run pins s σ H Q I) (h'.run pins s σ H Q I)⟩
theorem y_lst {K : Fg} {ds : List D} {a : Addr} (r : Rep K FH (.lst ds) (.ref a)) : Yld K FH ds (Itl K a) := by
  obtain ⟨b, xs, e, q, r⟩ := r
  cases e
  have sq : ∀ {H}, Same FH H → SqL K H a xs := fun s => .inl (rd_mono s q)
  refine ⟨fun i H s hi => ⟨xs, sq s, by rw [r.len]; exact hi⟩, fun i H d s hd => ?_, fun i d x H0 F0 ρ FH2 T σ H H' I s hd hy => ?_⟩
  · obtain ⟨x, h1, _⟩ := r.get hd
    exact ⟨xs, x, sq s, h1⟩
  · obtain ⟨rfl, hx⟩ := hy
    obtain ⟨y, h1, h2⟩ := r.get hd
    have := hx xs (sq (s.trans I.sub))
    rw [h1] at this
    cases this
    exact ⟨FH2, Same.refl _, I, Rep.mono s d _ h2⟩
theorem y_tup {K : Fg} {ds : List D} {a : Addr} (r : Rep K FH (.tup ds) (.ref a)) : Yld K FH ds (Itt K a) := by
  obtain ⟨b, xs, e, q, r⟩ := r
  cases e
  have sq : ∀ {H}, Same FH H → SqT K H a xs := fun s => sqT_mono s q
  refine ⟨fun i H s hi => ⟨xs, sq s, by rw [r.len]; exact hi⟩, fun i H d s hd => ?_, fun i d x H0 F0 ρ FH2 T σ H H' I s hd hy => ?_⟩
  · obtain ⟨x, h1, _⟩ := r.get hd
    exact ⟨xs, x, sq s, h1⟩
  · obtain ⟨rfl, hx⟩ := hy
    obtain ⟨y, h1, h2⟩ := r.get hd
    have := hx xs (sq (s.trans I.sub))
    rw [h1] at this
    cases this
    exact ⟨FH2, Same.refl _, I, Rep.mono s d _ h2⟩
theorem y_str {K : Fg} {s : List Nat} (ok : okTxt s = true) : Yld K FH (s.map fun c => .str [c]) (Its (txt s)) := by
  refine ⟨fun i H _ hi => ?_, fun i H d _ hd => ?_, fun i d x H0 F0 ρ FH2 T σ H H' I _ hd hy => ?_⟩
  · show s.toArray.size ≤ i
    simpa using hi
  · have := (List.getElem?_eq_some_iff.mp hd).1
    show i < s.toArray.size
    simpa using this
  · obtain ⟨rfl, c, h1, rfl⟩ := hy
    have h1 : s.toArray[i]? = some c := h1
    rw [List.getElem?_toArray] at h1
    rw [List.getElem?_map, h1] at hd
    cases hd
    refine ⟨FH2, Same.refl _, I, rfl, ?_⟩
    unfold okTxt at ok ⊢
    rw [List.all_eq_true] at ok
    simp only [List.all_cons, List.all_nil, Bool.and_true]
    exact ok c (List.mem_of_getElem? h1)
theorem y_rng {K : Fg} {lo : Int} {n : Nat} : Yld K FH (rangeD lo n) (Itr lo n) := by
  unfold rangeD
  refine ⟨fun i H _ hi => by simpa [Itr] using hi, fun i H d _ hd => ?_, fun i d x H0 F0 ρ FH2 T σ H H' I _ hd hy => ?_⟩
  · have := (List.getElem?_eq_some_iff.mp hd).1
    show i < n
    simpa using this
  · obtain ⟨rfl, rfl⟩ := hy
    have hi : i < n := by
      have := (List.getElem?_eq_some_iff.mp hd).1
      simpa using this
    rw [List.getElem?_map, List.getElem?_range hi] at hd
    cases hd
    exact ⟨FH2, Same.refl _, I, rfl⟩
theorem y_rngc {K : Fg} {lo c : Int} {n : Nat} : Yld K FH (rangeC lo c n) (Itc lo c n) := by
  unfold rangeC
  refine ⟨fun i H _ hi => by simpa [Itc] using hi, fun i H d _ hd => ?_, fun i d x H0 F0 ρ FH2 T σ H H' I _ hd hy => ?_⟩
  · have := (List.getElem?_eq_some_iff.mp hd).1
    show i < n
    simpa using this
  · obtain ⟨rfl, rfl⟩ := hy
    have hi : i < n := by
      have := (List.getElem?_eq_some_iff.mp hd).1
      simpa using this
    rw [List.getElem?_map, List.getElem?_range hi] at hd
    cases hd
    exact ⟨FH2, Same.refl _, I, rfl⟩
theorem goI {a : E} {P : PV → Ev → Prop} {Q : V → Hp → Prop} (I : InvA X.K H0 F0 ρ FH T σ H) (h : Gd (ev B.C B.G B.above a ρ) P)
    (k : ∀ u ρ' v H' FH', P u ρ' → Same FH FH' → InvA X.K H0 F0 ρ' FH' (tmp u v T) σ H' → Plc FH' σ u v → Q v H') : tE B X.K a σ H Q := go I h k
theorem i_seq {e : E} {x tg : Expr} (ha : PE X x (tE B X.K e)) : PI X tg x (tI B X.K (.seq e)) := by
  refine PI.imp (PI.or (pi_list ha) (PI.or (pi_tup ha) (pi_str ha))) fun σ H R ⟨H0, F0, ρ, FH, T, I, h⟩ => ?_
  simp only [evI] at h
  cases e1 : ev B.C B.G B.above e ρ with
  | er x r => rw [e1] at h; exact h.elim
  | no => rw [e1] at h; exact h.elim
  | ok r =>
  obtain ⟨u, ρ1⟩ := r
  rw [e1] at h
  simp only at h
  cases e2 : DY.frz ρ1 u with
  | none => rw [e2] at h; exact h.elim
  | some r =>
  obtain ⟨d, ρ2⟩ := r
  rw [e2] at h
  cases d <;> first | exact (show False from h).elim | skip
  case lst ds =>
    refine .inl ⟨H0, F0, ρ, FH, T, I, ?_⟩
    rw [e1]
    intro v H1 FH1 s1 I1 p1
    obtain ⟨F2, s2, I2, r2⟩ := I1.frz p1 e2
    have r0 := r2
    obtain ⟨a, xs, ex, q, r⟩ := r2
    subst ex
    exact ⟨a, rfl, ⟨xs, .inl (rd_mono I2.sub q)⟩, h _ _ _ (s1.trans s2) I2 (y_lst r0)⟩
  case tup ds =>
    refine .inr (.inl ⟨H0, F0, ρ, FH, T, I, ?_⟩)
    rw [e1]
    intro v H1 FH1 s1 I1 p1
    obtain ⟨F2, s2, I2, r2⟩ := I1.frz p1 e2
    have r0 := r2
    obtain ⟨a, xs, ex, q, r⟩ := r2
    subst ex
    exact ⟨a, rfl, ⟨xs, sqT_mono I2.sub q⟩, h _ _ _ (s1.trans s2) I2 (y_tup r0)⟩
  case str s =>
    refine .inr (.inr ⟨H0, F0, ρ, FH, T, I, ?_⟩)
    rw [e1]
    intro v H1 FH1 s1 I1 p1
    obtain ⟨F2, s2, I2, r2⟩ := I1.frz p1 e2
    obtain ⟨ex, ok⟩ := r2
    exact ⟨txt s, ex, h _ _ _ (s1.trans s2) I2 (y_str ok)⟩
theorem i_rng1 {a : E} {x tg : Expr} {p pos : Pos} (hg : Gl X "range") (hm : X.mg "range" = none) (ha : PE X x (tE B X.K a)) (hs : starEach [x] X.env = [(false, eval x X.env)]) : PI X tg (.Call (.Name "range" p) [x] [] pos) (tI B X.K (.rng1 a)) := by
  refine PI.imp (pi_range1 hg hm (pa_cons ha pa_nil hs) hs) fun σ H R ⟨H0, F0, ρ, FH, T, I, h⟩ => ?_
  simp only [evI] at h
  cases e1 : ev B.C B.G B.above a ρ with
  | er x r => rw [e1] at h; exact h.elim
  | no => rw [e1] at h; exact h.elim
  | ok r =>
  obtain ⟨u, ρ1⟩ := r
  rw [e1] at h
  simp only at h
  refine ⟨H0, F0, ρ, FH, T, I, ?_⟩
  rw [e1]
  intro v H1 FH1 s1 I1 p1
  cases e2 : intOf (DY.peek ρ1 u) with
  | none => rw [e2] at h; exact h.elim
  | some i =>
    rw [e2] at h
    simp only at h
    split at h
    · rename_i hc
      exact ⟨i, by rw [I1.int p1 e2], hc.1, hc.2, h _ _ _ s1 I1.dropV y_rng⟩
    · exact h.elim
theorem i_rng2 {a b : E} {x y tg : Expr} {p pos : Pos} (hg : Gl X "range") (hm : X.mg "range" = none) (ha : PE X x (tE B X.K a)) (hb : PE X y (tE B X.K b)) (hs : starEach [x, y] X.env = [(false, eval x X.env), (false, eval y X.env)]) (hs2 : starEach [y] X.env = [(false, eval y X.env)]) :
    PI X tg (.Call (.Name "range" p) [x, y] [] pos) (tI B X.K (.rng2 a b)) := by
  refine PI.imp (pi_range2 hg hm (pa_cons ha (pa_cons hb pa_nil hs2) (by rw [hs, hs2])) hs hs2) fun σ H R ⟨H0, F0, ρ, FH, T, I, h⟩ => ?_
  simp only [evI] at h
  cases e1 : ev B.C B.G B.above a ρ with
  | er x r => rw [e1] at h; exact h.elim
  | no => rw [e1] at h; exact h.elim
  | ok r =>
  obtain ⟨u, ρ1⟩ := r
  rw [e1] at h
  simp only at h
  cases e2 : ev B.C B.G B.above b ρ1 with
  | er x r => rw [e2] at h; exact h.elim
  | no => rw [e2] at h; exact h.elim
  | ok r =>
  obtain ⟨w, ρ2⟩ := r
  rw [e2] at h
  simp only at h
  refine ⟨H0, F0, ρ, FH, T, I, ?_⟩
  rw [e1]
  intro v H1 FH1 s1 I1 p1
  refine ⟨H0, F0, ρ1, FH1, _, I1, ?_⟩
  rw [e2]
  intro z H2 FH2 s2 I2 p2
  split at h
  · rename_i i j e3 e4
    split at h
    · rename_i hc
      refine ⟨i, j, by rw [I2.dropV.int (p1.mono s2) e3, I2.int p2 e4], ⟨hc.1.1, hc.1.2, hc.2.1, hc.2.2⟩, h _ _ _ (s1.trans s2) I2.dropV.dropV y_rng⟩
    · exact h.elim
  · exact h.elim
theorem i_rng3 {a b c : E} {x y z tg : Expr} {p pos : Pos} (hg : Gl X "range") (hm : X.mg "range" = none) (ha : PE X x (tE B X.K a)) (hb : PE X y (tE B X.K b)) (hc : PE X z (tE B X.K c))
    (hs : starEach [x, y, z] X.env = [(false, eval x X.env), (false, eval y X.env), (false, eval z X.env)]) (hs2 : starEach [y, z] X.env = [(false, eval y X.env), (false, eval z X.env)]) (hs3 : starEach [z] X.env = [(false, eval z X.env)]) :
    PI X tg (.Call (.Name "range" p) [x, y, z] [] pos) (tI B X.K (.rng3 a b c)) := by
  refine PI.imp (pi_range3 hg hm (pa_cons ha (pa_cons hb (pa_cons hc pa_nil hs3) (by rw [hs2, hs3])) (by rw [hs, hs2])) (by rw [hs, hs2]) (by rw [hs2]; rfl)) fun σ H R ⟨H0, F0, ρ, FH, T, I, h⟩ => ?_
  simp only [evI] at h
  cases e1 : ev B.C B.G B.above a ρ with
  | er x r => rw [e1] at h; exact h.elim
  | no => rw [e1] at h; exact h.elim
  | ok r =>
  obtain ⟨u, ρ1⟩ := r
  rw [e1] at h
  simp only at h
  cases e2 : ev B.C B.G B.above b ρ1 with
  | er x r => rw [e2] at h; exact h.elim
  | no => rw [e2] at h; exact h.elim
  | ok r =>
  obtain ⟨w, ρ2⟩ := r
  rw [e2] at h
  simp only at h
  cases e3 : ev B.C B.G B.above c ρ2 with
  | er x r => rw [e3] at h; exact h.elim
  | no => rw [e3] at h; exact h.elim
  | ok r =>
  obtain ⟨w3, ρ3⟩ := r
  rw [e3] at h
  simp only at h
  refine ⟨H0, F0, ρ, FH, T, I, ?_⟩
  rw [e1]
  intro v H1 FH1 s1 I1 p1
  refine ⟨H0, F0, ρ1, FH1, _, I1, ?_⟩
  rw [e2]
  intro z H2 FH2 s2 I2 p2
  refine ⟨H0, F0, ρ2, FH2, _, I2, ?_⟩
  rw [e3]
  intro q H3 FH3 s3 I3 p3
  split at h
  · rename_i i j e4 e5 e6
    split at h
    · rename_i hc
      refine ⟨i, j, -1, _, by rw [I3.dropV.dropV.int ((p1.mono s2).mono s3) e4, I3.dropV.int (p2.mono s3) e5, I3.int p3 e6], RgC.neg hc.1.1 hc.1.2 hc.2.1 hc.2.2, h _ _ _ ((s1.trans s2).trans s3) I3.dropV.dropV.dropV y_rngc⟩
    · exact h.elim
  · exact h.elim
theorem zip_get : ∀ {ds es zs : List D} {i : Nat} {z : D}, zipD ds es = some zs → zs[i]? = some z → ∃ d e, ds[i]? = some d ∧ es[i]? = some e ∧ z = .tup [d, e]
  | [], [], zs, i, z, h, g => by cases h; simp at g
  | [], _ :: _, _, _, _, h, _ => by cases h
  | _ :: _, [], _, _, _, h, _ => by cases h
  | d :: ds, e :: es, zs, i, z, h, g => by
    simp only [zipD, Option.map_eq_some_iff] at h
    obtain ⟨r, h1, h2⟩ := h
    subst h2
    cases i with
    | zero => simp at g; exact ⟨d, e, rfl, rfl, g.symm⟩
    | succ i =>
      simp only [List.getElem?_cons_succ] at g ⊢
      exact zip_get h1 g
theorem zip_len : ∀ {ds es zs : List D}, zipD ds es = some zs → zs.length = ds.length ∧ es.length = ds.length
  | [], [], zs, h => by cases h; exact ⟨rfl, rfl⟩
  | [], _ :: _, _, h => by cases h
  | _ :: _, [], _, h => by cases h
  | d :: ds, e :: es, zs, h => by
    simp only [zipD, Option.map_eq_some_iff] at h
    obtain ⟨r, h1, h2⟩ := h
    subst h2
    have := zip_len h1
    simp [this]
theorem pair_new {K : Fg} {FH2 H : Hp} {ρ : Ev} {p : Addr} {x y : V} {d e : D} (I : InvA K H0 F0 ρ FH2 T σ H) (hp : H p = none) (hx : Rep K FH2 d x) (hy : Rep K FH2 e y) :
    ∃ FH3, Same FH2 FH3 ∧ InvA K H0 F0 ρ FH3 T σ (upd H p (.tup [x, y])) ∧ Rep K FH3 (.tup [d, e]) (.ref p) := by
  have r : RepL K FH2 [d, e] [x, y] := ⟨x, _, rfl, hx, y, _, rfl, hy, rfl⟩
  have s := same_upd (o := .tup [x, y]) (none_of_sub I.sub hp)
  exact ⟨_, s, (I.newTup hp r).drop, p, _, rfl, .inl (.inl upd_same), RepL.mono s _ _ r⟩
theorem y_zipL {K : Fg} {ds es zs : List D} {a b : Addr} (r : Rep K FH (.lst ds) (.ref a)) (r' : Rep K FH (.lst es) (.ref b)) (hz : zipD ds es = some zs) : Yld K FH zs (Itz K a b) := by
  obtain ⟨a', xs, e, q, r⟩ := r
  cases e
  obtain ⟨b', ys, e, q', r'⟩ := r'
  cases e
  have sq : ∀ {H}, Same FH H → SqL K H a xs := fun s => .inl (rd_mono s q)
  have sq' : ∀ {H}, Same FH H → SqL K H b ys := fun s => .inl (rd_mono s q')
  refine ⟨fun i H s hi => ⟨xs, ys, sq s, sq' s, .inl (by rw [r.len]; have := zip_len hz; omega)⟩, fun i H d s hd => ?_, fun i d x H0 F0 ρ FH2 T σ H H' I s hd hy => ?_⟩
  · obtain ⟨d1, e1, h1, h2, _⟩ := zip_get hz hd
    obtain ⟨x, g1, _⟩ := r.get h1
    obtain ⟨y, g2, _⟩ := r'.get h2
    exact ⟨xs, ys, x, y, sq s, sq' s, g1, g2⟩
  · obtain ⟨p, x1, y1, rfl, hp, rfl, hx, hy⟩ := hy
    obtain ⟨d1, e1, h1, h2, rfl⟩ := zip_get hz hd
    obtain ⟨x, g1, r1⟩ := r.get h1
    obtain ⟨y, g2, r2⟩ := r'.get h2
    have k1 := hx xs (sq (s.trans I.sub))
    have k2 := hy ys (sq' (s.trans I.sub))
    rw [g1] at k1
    rw [g2] at k2
    cases k1
    cases k2
    exact pair_new I hp (Rep.mono s _ _ r1) (Rep.mono s _ _ r2)
theorem y_zipT {K : Fg} {ds es zs : List D} {a b : Addr} (r : Rep K FH (.tup ds) (.ref a)) (r' : Rep K FH (.tup es) (.ref b)) (hz : zipD ds es = some zs) : Yld K FH zs (ItzT K a b) := by
  obtain ⟨a', xs, e, q, r⟩ := r
  cases e
  obtain ⟨b', ys, e, q', r'⟩ := r'
  cases e
  have sq : ∀ {H}, Same FH H → SqT K H a xs := fun s => sqT_mono s q
  have sq' : ∀ {H}, Same FH H → SqT K H b ys := fun s => sqT_mono s q'
  refine ⟨fun i H s hi => ⟨xs, ys, sq s, sq' s, .inl (by rw [r.len]; have := zip_len hz; omega)⟩, fun i H d s hd => ?_, fun i d x H0 F0 ρ FH2 T σ H H' I s hd hy => ?_⟩
  · obtain ⟨d1, e1, h1, h2, _⟩ := zip_get hz hd
    obtain ⟨x, g1, _⟩ := r.get h1
    obtain ⟨y, g2, _⟩ := r'.get h2
    exact ⟨xs, ys, x, y, sq s, sq' s, g1, g2⟩
  · obtain ⟨p, x1, y1, rfl, hp, rfl, hx, hy⟩ := hy
    obtain ⟨d1, e1, h1, h2, rfl⟩ := zip_get hz hd
    obtain ⟨x, g1, r1⟩ := r.get h1
    obtain ⟨y, g2, r2⟩ := r'.get h2
    have k1 := hx xs (sq (s.trans I.sub))
    have k2 := hy ys (sq' (s.trans I.sub))
    rw [g1] at k1
    rw [g2] at k2
    cases k1
    cases k2
    exact pair_new I hp (Rep.mono s _ _ r1) (Rep.mono s _ _ r2)
theorem enum_get : ∀ {ds : List D} {k i : Nat} {z : D}, (enumD k ds)[i]? = some z → ∃ d, ds[i]? = some d ∧ z = .tup [.int ((k + i : Nat) : Int), d]
  | [], _, _, _, h => by simp [enumD] at h
  | d :: ds, k, 0, z, h => by simp [enumD] at h; exact ⟨d, rfl, h.symm⟩
  | d :: ds, k, i + 1, z, h => by
    simp only [enumD, List.getElem?_cons_succ] at h ⊢
    obtain ⟨d', h1, h2⟩ := enum_get h
    exact ⟨d', h1, by rw [h2, show k + 1 + i = k + (i + 1) by omega]⟩
theorem enum_len : ∀ (ds : List D) (k : Nat), (enumD k ds).length = ds.length
  | [], _ => rfl
  | d :: ds, k => by simp [enumD, enum_len ds]
theorem y_enum {K : Fg} {ds : List D} {a : Addr} (r : Rep K FH (.lst ds) (.ref a)) : Yld K FH (enumD 0 ds) (Ite K a) := by
  obtain ⟨a', xs, e, q, r⟩ := r
  cases e
  have sq : ∀ {H}, Same FH H → SqL K H a xs := fun s => .inl (rd_mono s q)
  refine ⟨fun i H s hi => ⟨xs, sq s, by rw [r.len]; rw [enum_len] at hi; exact hi⟩, fun i H d s hd => ?_, fun i d x H0 F0 ρ FH2 T σ H H' I s hd hy => ?_⟩
  · obtain ⟨d1, h1, _⟩ := enum_get hd
    obtain ⟨x, g1, _⟩ := r.get h1
    exact ⟨xs, x, sq s, g1⟩
  · obtain ⟨p, x1, rfl, hp, rfl, hx⟩ := hy
    obtain ⟨d1, h1, rfl⟩ := enum_get hd
    obtain ⟨x, g1, r1⟩ := r.get h1
    have k1 := hx xs (sq (s.trans I.sub))
    rw [g1] at k1
    cases k1
    rw [Nat.zero_add]
    exact pair_new I hp rfl (Rep.mono s _ _ r1)
theorem i_zip {a b : E} {x y : Expr} {p pos tpos : Pos} {elts : List Expr} {kk : Nat} (hg : Gl X "zip") (hm : X.mg "zip" = none) (ha : PE X x (tE B X.K a)) (hb : PE X y (tE B X.K b))
    (hs : starEach [x, y] X.env = [(false, eval x X.env), (false, eval y X.env)]) (hs2 : starEach [y] X.env = [(false, eval y X.env)]) : PI X (.Tuple elts kk tpos) (.Call (.Name "zip" p) [x, y] [] pos) (tI B X.K (.zip a b)) := by
  refine PI.imp (pi_zipA hg hm (pa_cons ha (pa_cons hb pa_nil hs2) (by rw [hs, hs2])) (by rw [hs, hs2]) (by rw [hs2]; rfl)) fun σ H R ⟨H0, F0, ρ, FH, T, I, h⟩ => ?_
  simp only [evI] at h
  cases e1 : ev B.C B.G B.above a ρ with
  | er x r => rw [e1] at h; exact h.elim
  | no => rw [e1] at h; exact h.elim
  | ok r =>
  obtain ⟨u, ρ1⟩ := r
  rw [e1] at h
  simp only at h
  cases e2 : ev B.C B.G B.above b ρ1 with
  | er x r => rw [e2] at h; exact h.elim
  | no => rw [e2] at h; exact h.elim
  | ok r =>
  obtain ⟨w, ρ2⟩ := r
  rw [e2] at h
  simp only at h
  cases e3 : DY.frz ρ2 w with
  | none => rw [e3] at h; exact h.elim
  | some r =>
  obtain ⟨e, ρ3⟩ := r
  rw [e3] at h
  simp only at h
  cases e4 : DY.frz ρ3 u with
  | none => rw [e4] at h; exact h.elim
  | some r =>
  obtain ⟨d, ρ4⟩ := r
  rw [e4] at h
  simp only at h
  refine ⟨H0, F0, ρ, FH, T, I, ?_⟩
  rw [e1]
  intro v H1 FH1 s1 I1 p1
  refine ⟨H0, F0, ρ1, FH1, _, I1, ?_⟩
  rw [e2]
  intro z H2 FH2 s2 I2 p2
  obtain ⟨F3, s3, I3, r3⟩ := I2.frz p2 e3
  obtain ⟨F4, s4, I4, r4⟩ := I3.frz (p1.mono (s2.trans s3)) e4
  replace r3 := Rep.mono s4 _ _ r3
  have ss := (s1.trans s2).trans (s3.trans s4)
  cases d <;> cases e <;> first | exact (show False from h).elim | skip
  case lst.lst ds es =>
    simp only at h
    cases e5 : zipD ds es with
    | none => rw [e5] at h; exact h.elim
    | some zs =>
      rw [e5] at h
      have q3 := r3
      have q4 := r4
      obtain ⟨a1, xs, ea, q, _⟩ := r4
      obtain ⟨b1, ys, eb, q', _⟩ := r3
      subst ea eb
      exact ⟨a1, b1, xs, ys, rfl, .inl ⟨.inl (rd_mono I4.sub q), .inl (rd_mono I4.sub q'), h _ _ _ ss I4 (y_zipL q4 q3 e5)⟩⟩
  case tup.tup ds es =>
    simp only at h
    cases e5 : zipD ds es with
    | none => rw [e5] at h; exact h.elim
    | some zs =>
      rw [e5] at h
      have q3 := r3
      have q4 := r4
      obtain ⟨a1, xs, ea, q, _⟩ := r4
      obtain ⟨b1, ys, eb, q', _⟩ := r3
      subst ea eb
      exact ⟨a1, b1, xs, ys, rfl, .inr ⟨sqT_mono I4.sub q, sqT_mono I4.sub q', h _ _ _ ss I4 (y_zipT q4 q3 e5)⟩⟩
theorem i_enum {a : E} {x : Expr} {p pos tpos : Pos} {elts : List Expr} {kk : Nat} (hg : Gl X "enumerate") (hm : X.mg "enumerate" = none) (ha : PE X x (tE B X.K a))
    (hs : starEach [x] X.env = [(false, eval x X.env)]) : PI X (.Tuple elts kk tpos) (.Call (.Name "enumerate" p) [x] [] pos) (tI B X.K (.enum a)) := by
  refine PI.imp (pi_enum hg hm (pa_cons ha pa_nil hs) hs) fun σ H R ⟨H0, F0, ρ, FH, T, I, h⟩ => ?_
  simp only [evI] at h
  cases e1 : ev B.C B.G B.above a ρ with
  | er x r => rw [e1] at h; exact h.elim
  | no => rw [e1] at h; exact h.elim
  | ok r =>
  obtain ⟨u, ρ1⟩ := r
  rw [e1] at h
  simp only at h
  cases e4 : DY.frz ρ1 u with
  | none => rw [e4] at h; exact h.elim
  | some r =>
  obtain ⟨d, ρ4⟩ := r
  rw [e4] at h
  cases d <;> first | exact (show False from h).elim | skip
  rename_i ds
  refine ⟨H0, F0, ρ, FH, T, I, ?_⟩
  rw [e1]
  intro v H1 FH1 s1 I1 p1
  obtain ⟨F4, s4, I4, r4⟩ := I1.frz p1 e4
  have q4 := r4
  obtain ⟨a1, xs, ea, q, _⟩ := r4
  subst ea
  exact ⟨a1, xs, rfl, .inl (rd_mono I4.sub q), h _ _ _ (s1.trans s4) I4 (y_enum q4)⟩
end
end DY
set_option Elab.async false
set_option linter.all false
set_option maxRecDepth 100000
/-! What the code reads: comprehensions. -/
namespace DY
open PySem L2
section
variable {K : Fg} {H0 F0 FH FH' H H' : Hp} {ρ ρ' : Ev} {T : List (V × AV)} {σ : L2.St} {u : PV} {v : V} {d : D} {ow : Own}
theorem RepT.mid : ∀ {A : List (V × AV)} {x : V} {a : AV}, RepT K FH H ow (A ++ (x, a) :: T) → RepA K FH H ow (.tm T.length) a [] x
  | [], _, _, h => h.1
  | _ :: A, _, _, h => RepT.mid (A := A) h.2
theorem RepT.put {p : Addr} {ds es : List D} {ys : List V} (hp : ow p = some (.tm T.length, [])) (r : RepL K FH es ys) : ∀ {A : List (V × AV)}, RepT K FH H ow (A ++ (.ref p, .ol ds) :: T) → RepT K FH (upd H p (.lst ys)) ow (A ++ (.ref p, .ol es) :: T)
  | [], h => ⟨⟨p, ys, rfl, hp, upd_same, r⟩, RepT.tr (Same.refl _) T (fun j hj c q z => ⟨z, upd_ne fun y => by
      subst y
      rw [hp] at z
      have := (Prod.mk.inj (Option.some.inj z)).1
      injection this with this
      omega⟩) h.2⟩
  | (v, a) :: A, h => by
    have hl : (A ++ (V.ref p, AV.ol es) :: T).length = (A ++ (V.ref p, AV.ol ds) :: T).length := by simp
    refine ⟨?_, RepT.put hp r (A := A) h.2⟩
    show RepA K FH (upd H p (HO.lst ys)) ow (Lb.tm (A ++ (V.ref p, AV.ol es) :: T).length) a [] v
    rw [hl]
    refine RepA.tr (Same.refl _) a [] [] v (fun c q z => ⟨z, upd_ne fun y => ?_⟩) h.1
    subst y
    rw [hp] at z
    have := (Prod.mk.inj (Option.some.inj z)).1
    injection this with this
    simp at this
    omega
theorem InvA.midL {A : List (V × AV)} {p : Addr} {ds : List D} (I : InvA K H0 F0 ρ FH (A ++ (.ref p, .ol ds) :: T) σ H) : ∃ xs, H p = some (.lst xs) ∧ RepL K FH ds xs ∧
    ∀ es ys, RepL K FH es ys → InvA K H0 F0 ρ FH (A ++ (.ref p, .ol es) :: T) σ (upd H p (.lst ys)) := by
  obtain ⟨ow, O⟩ := I.own
  obtain ⟨a, xs, e, h1, h2, h3⟩ := RepT.mid O.tmps
  cases e
  refine ⟨xs, h2, h3, fun es ys r => ?_⟩
  obtain ⟨fp, p0, _⟩ := O.out p _ h1
  refine ⟨fun b o e => ?_, fun b o e st => ?_, fun b o e => ?_, I.fsub, I.fnew, I.len, ow, ⟨fun b x e => ?_, fun i b e => ?_, RepT.put h1 r O.tmps⟩⟩
  · have : b ≠ p := fun z => by subst z; rw [fp] at e; cases e
    rw [upd_ne this]; exact I.sub _ _ e
  · by_cases hb : b = p
    · subst hb; rw [upd_same] at e; cases e; exact st.elim
    · rw [upd_ne hb] at e; exact I.tup _ _ e st
  · have : b ≠ p := fun z => by subst z; rw [p0] at e; cases e
    rw [upd_ne this]; exact I.ext _ _ e
  · obtain ⟨g1, g2, o, g3, g4⟩ := O.out b x e
    by_cases hb : b = p
    · subst hb; exact ⟨g1, g2, _, upd_same, trivial⟩
    · exact ⟨g1, g2, o, by rw [upd_ne hb]; exact g3, g4⟩
  · obtain ⟨z, h1', h2'⟩ := O.slots i b e
    refine ⟨z, h1', RepA.tr (Same.refl _) b [] [] z (fun c q y => ⟨y, upd_ne fun e => ?_⟩) h2'⟩
    subst e
    rw [h1] at y
    cases y
/-- all slots shared: they stay what they were -/
theorem InvA.thaw {σ2 : L2.St} {T2 T3 : List (V × AV)} {ρ2 : Ev} {F2 H2 : Hp} (I : InvA K H0 F0 ρ FH T σ H) (hf : ∀ (i : Nat) (a : AV), ρ[i]? = some (some a) → ∃ d, a = .fz d) (s : Same FH F2) (J : InvA K H0 F0 ρ2 F2 T2 σ2 H2) : InvA K H0 F0 ρ F2 T2 σ H2 := by
  obtain ⟨ow, O⟩ := J.own
  obtain ⟨ow1, O1⟩ := I.own
  refine ⟨J.sub, J.tup, J.ext, J.fsub, J.fnew, I.len, ow, ⟨O.out, fun i a e => ?_, O.tmps⟩⟩
  obtain ⟨d, rfl⟩ := hf i a e
  obtain ⟨v, h1, h2⟩ := O1.slots i _ e
  exact ⟨v, h1, Rep.mono s d v h2⟩
theorem ewipe_some {i : Nat} {a : AV} : ∀ {is : List Nat} {ρ : Ev}, (DY.wipe ρ is)[i]? = some (some a) → ρ[i]? = some (some a) ∧ i ∉ is
  | [], _, h => ⟨h, by simp⟩
  | j :: is, ρ, h => by
    unfold DY.wipe at h
    by_cases hj : j = i
    · subst hj
      by_cases hi : j < (DY.wipe ρ is).length
      · rw [List.getElem?_set_self hi] at h; cases h
      · rw [List.getElem?_eq_none (by simpa using hi)] at h; cases h
    · rw [List.getElem?_set_ne hj] at h
      obtain ⟨h1, h2⟩ := ewipe_some h
      exact ⟨h1, by simp only [List.mem_cons, not_or]; exact ⟨fun z => hj z.symm, h2⟩⟩
theorem swipe_in {i : Nat} : ∀ {is : List Nat} {σ : L2.St}, i ∈ is → i < σ.length → (L2.wipe σ is)[i]? = some none
  | j :: is, σ, h, hl => by
    unfold L2.wipe
    by_cases hj : j = i
    · subst hj
      rw [List.getElem?_set_self (by rw [wipe_length]; exact hl)]
    · rw [List.getElem?_set_ne hj]
      rcases List.mem_cons.mp h with z | z
      · exact absurd z.symm hj
      · exact swipe_in z hl
theorem wipe_eq {is : List Nat} {σ σ2 : L2.St} (hl : σ2.length = σ.length) (h : ∀ i, i ∉ is → σ2[i]? = (L2.wipe σ is)[i]?) : L2.wipe σ2 is = L2.wipe σ is := by
  apply List.ext_getElem?
  intro i
  by_cases hi : i ∈ is
  · by_cases hlt : i < σ.length
    · rw [swipe_in hi (by omega), swipe_in hi hlt]
    · rw [List.getElem?_eq_none (by rw [wipe_length]; omega), List.getElem?_eq_none (by rw [wipe_length]; omega)]
  · rw [wipe_out hi, h i hi]
end
section
variable {X : Cx} {B : Tb} {H0 F0 FH FH' H H' : Hp} {ρ ρ' : Ev} {T : List (V × AV)} {σ : L2.St} {u : PV} {v : V} {d : D} {Q : VK}
def tTs (B : Tb) (K : Fg) (es : List E) : TT := fun σ H Q => ∃ H0 F0 ρ FH T, InvA K H0 F0 ρ FH T σ H ∧
  Gd (evT B.C B.G B.above es ρ) fun b ρ' => ∀ H' FH', Same FH FH' → InvA K H0 F0 ρ' FH' T σ H' → Q b H'
theorem PTs.imp {x : List Expr} {t t' : TT} (h : PTs X x t) (i : ∀ σ H Q, t' σ H Q → t σ H Q) : PTs X x t' := ⟨fun pins s σ H Q I q => h.run pins s σ H Q I (i σ H Q q)⟩
theorem ts_nil : PTs X [] (tTs B X.K []) := PTs.imp pts_nil fun σ H Q ⟨H0, F0, ρ, FH, T, I, h⟩ => h H FH (Same.refl _) I
theorem ts_one {e : E} {x : Expr} (h : PT X x (tT B X.K e)) : PTs X [x] (tTs B X.K [e]) := by
  refine PTs.imp (pts_one h) fun σ H Q ⟨H0, F0, ρ, FH, T, I, h⟩ => ⟨H0, F0, ρ, FH, T, I, ?_⟩
  simp only [evT] at h
  cases e1 : ev B.C B.G B.above e ρ with
  | er x r => rw [e1] at h; exact h.elim
  | no => rw [e1] at h; exact h.elim
  | ok r =>
  obtain ⟨u, ρ1⟩ := r
  rw [e1] at h
  simp only at h
  cases e2 : blOf (DY.peek ρ1 u) with
  | none => rw [e2] at h; exact h.elim
  | some b => rw [e2] at h; exact ⟨b, e2, h⟩
/-- one element -/
def stepC (B : Tb) (t : Tg) (ifs : List E) (e : E) (ρ3 : Ev) (d : D) : Option (Option D) := (asg t d ρ3).bind fun ρ4 => match evT B.C B.G B.above ifs ρ4 with
  | .ok (true, ρ5) => match ev B.C B.G B.above e ρ5 with
    | .ok (v, ρ6) => (DY.frz ρ6 v).map fun r => some r.1
    | _ => none
  | .ok (false, _) => some none
  | _ => none
theorem tLc_of {ow : List Nat} {t : Tg} {it : It} {ifs : List E} {e : E} (hsub : ∀ i, i ∈ tgs t → i ∈ ow) (h : tE B X.K (.cmpr ow t it ifs e) σ H Q) : tLc (tI B X.K it) (tG X.K t) (tTs B X.K ifs) (tE B X.K e) ow σ H Q := by
  obtain ⟨H0, F0, ρ, FH, T, I, h⟩ := h
  simp only [ev] at h
  refine ⟨H0, F0, ρ, FH, T, I, ?_⟩
  cases e1 : evI B.C B.G B.above it ρ with
  | er x r => rw [e1] at h; exact h.elim
  | no => rw [e1] at h; exact h.elim
  | ok r =>
  obtain ⟨ds, ρ1⟩ := r
  rw [e1] at h
  simp only at h
  intro J H1 FH1 s1 I1 Y D hD
  generalize hρ2 : DY.frzS ρ1 ((varsL ifs ++ e.vars).filter fun i => !ow.contains i) = ρ2 at h
  have h : Gd (match compL (stepC B t ifs e (DY.wipe (DY.aside ρ2) ow)) ds with
    | some ys => if ys.length ≤ line then R.ok (PV.av (.ol ys), ρ2) else .no
    | none => .no) fun u ρ' => ∀ v H' FH', Same FH FH' → InvA X.K H0 F0 ρ' FH' (tmp u v T) σ H' → Plc FH' σ u v → Q v H' := h
  cases hys0 : compL (stepC B t ifs e (DY.wipe (DY.aside ρ2) ow)) ds with
  | none => rw [hys0] at h; exact h.elim
  | some ys =>
  rw [hys0] at h
  simp only at h
  split at h
  case isFalse => exact h.elim
  rename_i hline
  obtain ⟨F2, s2, I2⟩ := InvA.frzSl (i := 0) ((varsL ifs ++ e.vars).filter fun i => !ow.contains i) I1
  rw [hρ2] at I2
  have I3 := I2.newLst (ds := []) (xs := []) hD rfl
  obtain ⟨A, I4, back⟩ := I3.aside
  generalize hρ3 : DY.wipe (DY.aside ρ2) ow = ρ3 at hys0
  have I5 : InvA X.K H0 F0 ρ3 F2 (A ++ (.ref D, .ol []) :: T) (L2.wipe σ ow) (upd H1 D (.lst [])) := by
    rw [← hρ3]; exact I4.wipe ow
  have hfz : ∀ (i : Nat) (a : AV), ρ3[i]? = some (some a) → ∃ d, a = .fz d := fun i a e => by
    rw [← hρ3] at e
    obtain ⟨d, hd, _⟩ := aside_at (ewipe_some e).1
    exact ⟨d, hd⟩
  refine ⟨fun i m H => i + m = ds.length ∧ ∃ F acc rest, Same F2 F ∧ InvA X.K H0 F0 ρ3 F (A ++ (.ref D, .ol acc) :: T) (L2.wipe σ ow) H ∧ compL (stepC B t ifs e ρ3) (ds.drop i) = some rest ∧ acc ++ rest = ys,
    ⟨ds.length, by omega, F2, [], ys, Same.refl _, I5, hys0, rfl⟩, fun i m H ⟨him, F, acc, rest, sF, J1, hr, ha⟩ => ?_⟩
  by_cases hi : i < ds.length
  · right
    have hd := List.getElem?_eq_getElem hi
    have hdrop : ds.drop i = ds[i] :: ds.drop (i + 1) := (List.getElem_cons_drop hi).symm
    rw [hdrop] at hr
    refine ⟨Y.go i H _ ((s2.trans sF).trans J1.sub) hd, fun H' => ∃ F acc rest, Same F2 F ∧ InvA X.K H0 F0 ρ3 F (A ++ (.ref D, .ol acc) :: T) (L2.wipe σ ow) H' ∧ compL (stepC B t ifs e ρ3) (ds.drop (i + 1)) = some rest ∧ acc ++ rest = ys,
      fun H' hN => ⟨m - 1, by omega, by omega, hN⟩, fun x H' hy => ?_⟩
    obtain ⟨F3, s3, J2, rx⟩ := Y.yld i _ x H0 F0 ρ3 F _ _ H H' J1 (s2.trans sF) hd hy
    simp only [compL] at hr
    cases hst : stepC B t ifs e ρ3 ds[i] with
    | none => rw [hst] at hr; cases hr
    | some oy =>
      rw [hst] at hr
      have hst0 := hst
      unfold stepC at hst
      simp only [Option.bind_eq_some_iff] at hst
      obtain ⟨ρ4, ha4, hst⟩ := hst
      refine ⟨H0, F0, ρ3, F3, _, ds[i], J2, rx, ρ4, ha4, fun σ2 l2 k2 J3 => ⟨wipe_eq (by rw [l2, wipe_length]) (fun j hj => k2 j fun z => hj (hsub j z)), H0, F0, ρ4, F3, _, J3, ?_⟩⟩
      cases e5 : evT B.C B.G B.above ifs ρ4 with
      | er x r => rw [e5] at hst; cases hst
      | no => rw [e5] at hst; cases hst
      | ok r =>
      obtain ⟨b, ρ5⟩ := r
      rw [e5] at hst
      intro H3 F4 s4 J4
      cases b with
      | false =>
        cases hst
        simp only [Bool.false_eq_true, if_false] at hr ⊢
        exact ⟨F4, acc, rest, sF.trans (s3.trans s4), InvA.thaw (T3 := T) J1 hfz (s3.trans s4) J4, hr, ha⟩
      | true =>
        simp only [if_true] at hst ⊢
        refine ⟨H0, F0, ρ5, F4, _, J4, ?_⟩
        cases e6 : ev B.C B.G B.above e ρ5 with
        | er x r => rw [e6] at hst; cases hst
        | no => rw [e6] at hst; cases hst
        | ok r =>
        obtain ⟨w, ρ6⟩ := r
        rw [e6] at hst
        simp only [Option.map_eq_some_iff] at hst
        obtain ⟨⟨y, ρ7⟩, e7, hy7⟩ := hst
        cases hy7
        intro z H4 F5 s5 J5 p5
        obtain ⟨F6, s6, J6, r6⟩ := J5.frz p5 e7
        obtain ⟨xs, hx1, hx2, hx3⟩ := J6.midL
        simp only [Option.map_eq_some_iff] at hr
        obtain ⟨rest', hr1, hr2⟩ := hr
        subst hr2
        have hlen : acc.length + (rest'.length + 1) ≤ line := by
          rw [← ha, List.length_append, List.length_cons] at hline
          exact hline
        refine ⟨xs, hx1, by rw [hx2.len, ← line_eq]; omega, F6, acc ++ [y], rest', sF.trans ((s3.trans s4).trans (s5.trans s6)), InvA.thaw (T3 := T) J1 hfz ((s3.trans s4).trans (s5.trans s6)) (hx3 _ _ (hx2.app (.one r6))), hr1, by rw [← ha, List.append_assoc]; rfl⟩
  · left
    rw [List.drop_eq_nil_of_le (by omega)] at hr
    cases hr
    rw [List.append_nil] at ha
    subst ha
    exact ⟨Y.stop i H ((s2.trans sF).trans J1.sub) (by omega), h (.ref D) H F (s1.trans (s2.trans sF)) (back _ _ _ _ _ sF J1) trivial⟩
end
end DY
set_option Elab.async false
set_option linter.all false
set_option maxRecDepth 100000
/-! What the code reads: what is handed back; statements. -/
namespace DY
open PySem L2
section
variable {K : Fg} {H0 F0 FH FH' H H' : Hp} {ρ ρ' : Ev} {T : List (V × AV)} {σ : L2.St} {u : PV} {v : V} {d : D} {ow : Own}
/-! ### an own tuple -/
def packO (ow : Own) (n m : Nat) : Own := fun b => match ow b with
  | some (.tm j, q) => if n ≤ j ∧ j < n + m then some (.tm n, q ++ [j - n]) else some (.tm j, q)
  | o => o
/-- the items as temps, the last one on top -/
def tmps (as : List AV) (vs : List V) (T : List (V × AV)) : List (V × AV) := (vs.zip as).reverse ++ T
theorem tmps_cons {a : AV} {as : List AV} {v : V} {vs : List V} : tmps (a :: as) (v :: vs) T = tmps as vs ((v, a) :: T) := by
  unfold tmps
  simp
theorem packRep {p : Addr} {xs : List V} {n m : Nat} {FH2 H2 : Hp} (sF : Same FH FH2) (hH : ∀ b x, ow b = some x → H2 b = H b) : ∀ {as : List AV} {vs : List V} {k : Nat} {T : List (V × AV)}, vs.length = as.length → n + k = T.length → k + as.length = m → RepT K FH H ow (tmps as vs T) → RepAL K FH2 H2 (packO ow n m) (.tm n) as [] k vs ∧ RepT K FH H ow T
  | [], vs, k, T, hl, hn, hm, h => by
    have : vs = [] := List.length_eq_zero_iff.mp hl
    subst this
    exact ⟨rfl, h⟩
  | a :: as, vs, k, T, hl, hn, hm, h => by
    cases vs with
    | nil => cases hl
    | cons v vs =>
      rw [tmps_cons] at h
      obtain ⟨h1, h2⟩ := packRep (p := p) (xs := xs) (n := n) (m := m) sF hH (T := (v, a) :: T) (k := k + 1) (by simpa using hl) (by simp only [List.length_cons]; omega) (by simp only [List.length_cons] at hm; omega) h
      refine ⟨⟨v, vs, rfl, RepA.tr sF a [] [k] v (fun c q z => ⟨?_, hH c _ z⟩) h2.1, h1⟩, h2.2⟩
      unfold packO
      rw [z]
      show (if _ then _ else _) = _
      rw [if_pos (by simp only [List.length_cons] at hm; omega), List.append_nil, show T.length - n = k by omega]
theorem InvA.newOt {as : List AV} {vs : List V} {p : Addr} (I : InvA K H0 F0 ρ FH (tmps as vs T) σ H) (hl : vs.length = as.length) (hp : H p = none) :
    InvA K H0 F0 ρ (upd FH p (.tup vs)) ((.ref p, .ot as) :: T) σ (upd H p (.tup vs)) := by
  obtain ⟨ow, O⟩ := I.own
  have fp := none_of_sub I.sub hp
  have sF : Same FH (upd FH p (.tup vs)) := same_upd fp
  have sH : Same H (upd H p (.tup vs)) := same_upd hp
  have op : ∀ a x, ow a = some x → a ≠ p := fun a x e q => by
    obtain ⟨_, _, o, ho, _⟩ := O.out a x e
    rw [q, hp] at ho; cases ho
  have hH : ∀ b x, ow b = some x → (upd H p (.tup vs)) b = H b := fun b x e => upd_ne (op b x e)
  obtain ⟨r1, r2⟩ := packRep (p := p) (xs := vs) (n := T.length) (m := as.length) sF hH (k := 0) hl rfl (by omega) O.tmps
  have keep : ∀ {b l q}, (∀ j, l = .tm j → j < T.length) → ow b = some (l, q) → packO ow T.length as.length b = some (l, q) := fun {b l q} hj e => by
    unfold packO
    rw [e]
    cases l with
    | sl i => rfl
    | tm j =>
      show (if _ then _ else _) = _
      rw [if_neg (by have := hj j rfl; omega)]
  refine ⟨fun b o e => ?_, fun b ys e st => ?_, I.ext.trans sH, I.fsub.trans sF, fun b o e => ?_, I.len, packO ow T.length as.length, ⟨fun a x e => ?_, fun i a e => ?_, ?_, RepT.tr sF T (fun j hj c q z => ⟨keep (fun i hi => by cases hi; exact hj) z, hH c _ z⟩) r2⟩⟩
  · by_cases hb : b = p
    · subst hb; rw [upd_same] at e ⊢; exact e
    · rw [upd_ne hb] at e ⊢; exact I.sub _ _ e
  · by_cases hb : b = p
    · subst hb; rw [upd_same] at e ⊢; exact e
    · rw [upd_ne hb] at e ⊢; exact I.tup _ _ e st
  · by_cases hb : b = p
    · subst hb; rw [upd_same] at e; cases e; exact .inl trivial
    · rw [upd_ne hb] at e; exact I.fnew _ _ e
  · have : ∃ y, ow a = some y := by
      unfold packO at e
      cases h : ow a with
      | some y => exact ⟨y, rfl⟩
      | none => rw [h] at e; cases e
    obtain ⟨y, hy⟩ := this
    obtain ⟨h1, h2, o, ho, hm⟩ := O.out a y hy
    have := op a y hy
    exact ⟨by rw [upd_ne this]; exact h1, h2, o, by rw [upd_ne this]; exact ho, hm⟩
  · obtain ⟨w, h1, h2⟩ := O.slots i a e
    exact ⟨w, h1, RepA.tr sF a [] [] w (fun c q z => ⟨keep (fun j hj => by cases hj) z, hH c _ z⟩) h2⟩
  · exact ⟨p, vs, rfl, upd_same, r1⟩
/-- all items shared -/
theorem frz_tmps : ∀ {as : List AV} {vs : List V} {T : List (V × AV)}, InvA K H0 F0 ρ FH (tmps as vs T) σ H → vs.length = as.length → (as.all (fun x => match x with | .fz _ => true | _ => false)) = true → RepL K FH (eraseL as) vs ∧ InvA K H0 F0 ρ FH T σ H
  | [], vs, T, I, hl, _ => by
    have : vs = [] := List.length_eq_zero_iff.mp hl
    subst this
    exact ⟨rfl, I⟩
  | a :: as, vs, T, I, hl, ha => by
    cases vs with
    | nil => cases hl
    | cons v vs =>
      rw [tmps_cons] at I
      simp only [List.all_cons, Bool.and_eq_true] at ha
      obtain ⟨h1, h2⟩ := frz_tmps (as := as) (T := (v, a) :: T) I (by simpa using hl) ha.2
      cases a with
      | fz d =>
        obtain ⟨ow, O⟩ := h2.own
        exact ⟨⟨v, vs, rfl, O.tmps.1, h1⟩, h2.drop⟩
      | _ => simp at ha
end
section
variable {X : Cx} {B : Tb} {H0 F0 FH FH' H H' : Hp} {ρ ρ' : Ev} {T : List (V × AV)} {σ : L2.St} {u : PV} {v : V} {d : D} {Q : VK}
def tM (B : Tb) (K : Fg) (e : E) : TE := fun σ H Q => ∃ H0 F0 ρ FH T, InvA K H0 F0 ρ FH T σ H ∧
  Gd (evM B.C B.G B.above e ρ) fun a ρ' => ∀ v H' FH', Same FH FH' → InvA K H0 F0 ρ' FH' ((v, a) :: T) σ H' → Q v H'
def tAM (B : Tb) (K : Fg) (es : List E) : TA := fun σ H Q => ∃ H0 F0 ρ FH T, InvA K H0 F0 ρ FH T σ H ∧
  Gd (evML B.C B.G B.above es ρ) fun as ρ' => ∀ vs H' FH', Same FH FH' → InvA K H0 F0 ρ' FH' (tmps as vs T) σ H' → vs.length = as.length → Q vs H'
theorem m_var {i : Nat} {x : Str} {pos : Pos} (hN : X.N[i]? = some x) (hv : Vis X.env.scope x) (hd : (x == ("__debug__" : Str)) = false) (hc : (x == ("__classdict__" : Str)) = false) : PE X (.Name x pos) (tM B X.K (.var i)) := by
  refine PE.imp (pe_var hN hv hd hc) fun σ H Q ⟨H0, F0, ρ, FH, T, I, h⟩ => ?_
  simp only [evM] at h
  cases e : DY.get ρ i with
  | none => rw [e] at h; exact h.elim
  | some a =>
    rw [e] at h
    cases a with
    | fz d =>
      obtain ⟨ow, O⟩ := I.own
      obtain ⟨v, h1, h2⟩ := O.slots i _ (get_at e)
      exact ⟨v, h1, h v H FH (Same.refl _) (I.push h2)⟩
    | ol ds => obtain ⟨v, h1, J⟩ := I.take (get_at e); exact ⟨v, h1, h v H FH (Same.refl _) J⟩
    | ot ds => obtain ⟨v, h1, J⟩ := I.take (get_at e); exact ⟨v, h1, h v H FH (Same.refl _) J⟩
    | od ds => obtain ⟨v, h1, J⟩ := I.take (get_at e); exact ⟨v, h1, h v H FH (Same.refl _) J⟩
/-- what is neither a name nor a tuple -/
def plainM : E → Bool
  | .var _ => false
  | .tup _ => false
  | _ => true
theorem evM_plain {C : Nat → List D → R AV} {G : Nat → Option D} {above : Hier} {e : E} {ρ : Ev} (hp : plainM e = true) : evM C G above e ρ = match ev C G above e ρ with
    | .ok (.av a, ρ1) => .ok (a, ρ1)
    | .ok (v, ρ1) => match DY.frz ρ1 v with
      | some (d, ρ2) => .ok (.fz d, ρ2)
      | none => .no
    | .er x ρ' => .er x ρ'
    | .no => .no := by
  cases e <;> first | (cases hp; done) | (simp only [evM]; rfl) | simp only [evM]
theorem m_plain {e : E} {x : Expr} (hp : plainM e = true) (ha : PE X x (tE B X.K e)) : PE X x (tM B X.K e) := by
  refine PE.imp ha fun σ H Q ⟨H0, F0, ρ, FH, T, I, h⟩ => ⟨H0, F0, ρ, FH, T, I, ?_⟩
  rw [evM_plain hp] at h
  cases e1 : ev B.C B.G B.above e ρ with
  | er x r => rw [e1] at h; exact h.elim
  | no => rw [e1] at h; exact h.elim
  | ok r =>
  obtain ⟨u, ρ1⟩ := r
  rw [e1] at h
  intro v H1 FH1 s1 I1 p1
  cases u with
  | av a => exact h v H1 FH1 s1 I1
  | pl i p =>
    simp only at h
    cases e4 : DY.frz ρ1 (.pl i p) with
    | none => rw [e4] at h; exact h.elim
    | some r =>
    obtain ⟨d, ρ4⟩ := r
    rw [e4] at h
    obtain ⟨F4, s4, I4, r4⟩ := I1.frz p1 e4
    exact h v H1 F4 (s1.trans s4) (I4.push r4)
theorem am_nil : PA X [] (tAM B X.K []) := PA.imp pa_nil fun σ H Q ⟨H0, F0, ρ, FH, T, I, h⟩ => h [] H FH (Same.refl _) I rfl
theorem am_cons {e : E} {es : List E} {x : Expr} {xs : List Expr} (ha : PE X x (tM B X.K e)) (hr : PA X xs (tAM B X.K es)) (hs : starEach (x :: xs) X.env = (false, eval x X.env) :: starEach xs X.env) : PA X (x :: xs) (tAM B X.K (e :: es)) := by
  refine PA.imp (pa_cons ha hr hs) fun σ H Q ⟨H0, F0, ρ, FH, T, I, h⟩ => ⟨H0, F0, ρ, FH, T, I, ?_⟩
  simp only [evML] at h
  cases e1 : evM B.C B.G B.above e ρ with
  | er x r => rw [e1] at h; exact h.elim
  | no => rw [e1] at h; exact h.elim
  | ok r =>
  obtain ⟨a, ρ1⟩ := r
  rw [e1] at h
  simp only at h
  intro v H1 FH1 s1 I1
  refine ⟨H0, F0, ρ1, FH1, _, I1, ?_⟩
  cases e2 : evML B.C B.G B.above es ρ1 with
  | er x r => rw [e2] at h; exact h.elim
  | no => rw [e2] at h; exact h.elim
  | ok r =>
  obtain ⟨as, ρ2⟩ := r
  rw [e2] at h
  intro vs H2 FH2 s2 I2 hl
  exact h (v :: vs) H2 FH2 (s1.trans s2) (by rw [tmps_cons]; exact I2) (by simp [hl])
theorem m_tup {es : List E} {xs : List Expr} {x1} {pos : Pos} (ha : PA X xs (tAM B X.K es)) (hf : PE X (.Tuple xs x1 pos) (tE B X.K (.tup es))) : PE X (.Tuple xs x1 pos) (tM B X.K (.tup es)) := by
  refine PE.imp (PE.or (pe_tup ha) hf) fun σ H Q ⟨H0, F0, ρ, FH, T, I, h⟩ => ?_
  simp only [evM] at h
  cases e1 : evML B.C B.G B.above es ρ with
  | er x r => rw [e1] at h; exact h.elim
  | no =>
    rw [e1] at h
    simp only at h
    refine .inr ⟨H0, F0, ρ, FH, T, I, ?_⟩
    cases e2 : ev B.C B.G B.above (.tup es) ρ with
    | er x r => rw [e2] at h; exact h.elim
    | no => rw [e2] at h; exact h.elim
    | ok r =>
    obtain ⟨u, ρ1⟩ := r
    rw [e2] at h
    cases u with
    | av a => exact fun v H1 FH1 s1 I1 p1 => h v H1 FH1 s1 I1
    | pl i p => exact h.elim
  | ok r =>
  obtain ⟨as, ρ1⟩ := r
  rw [e1] at h
  simp only at h
  refine .inl ⟨H0, F0, ρ, FH, T, I, ?_⟩
  rw [e1]
  intro vs H1 FH1 s1 I1 hl
  split at h
  · rename_i hz
    refine ⟨by rw [hl, ← line_eq]; exact hz, fun p hp => ?_⟩
    split at h
    · rename_i hall
      obtain ⟨r, J⟩ := frz_tmps I1 hl hall
      exact h _ _ _ (s1.trans (same_upd (none_of_sub J.sub hp))) (J.newTup hp r)
    · exact h _ _ _ (s1.trans (same_upd (none_of_sub I1.sub hp))) (I1.newOt hl hp)
  · exact h.elim
end
end DY
set_option Elab.async false
set_option linter.all false
set_option maxRecDepth 100000
/-! What the code reads: statements. -/
namespace DY
open PySem L2
theorem PS.imp {X : Cx} {x : Stmt} {t t' : TS} (h : PS X x t) (i : ∀ D σ H, t' D σ H → t D σ H) : PS X x t' := ⟨fun pins s σ H D I q => h.run pins s σ H D I (i D σ H q)⟩
theorem PSs.imp {X : Cx} {x : List Stmt} {t t' : TS} (h : PSs X x t) (i : ∀ D σ H, t' D σ H → t D σ H) : PSs X x t' := ⟨fun pins s σ H D I q => h.run pins s σ H D I (i D σ H q)⟩
theorem PS.or {X : Cx} {x : Stmt} {t t' : TS} (h : PS X x t) (h' : PS X x t') : PS X x (fun D σ H => t D σ H ∨ t' D σ H) :=
  ⟨fun pins s σ H D I q => q.elim (h.run pins s σ H D I) (h'.run pins s σ H D I)⟩
def OutOk (K : Fg) (H0 F0 FH : Hp) (D : Ends) : Out → Prop
  | .nx ρ' => ∀ σ' H' FH', Same FH FH' → InvA K H0 F0 ρ' FH' [] σ' H' → D.nx σ' H'
  | .rt a => ∀ v σ' ρ' H' FH', Same FH FH' → InvA K H0 F0 ρ' FH' [(v, a)] σ' H' → D.rt v H'
theorem OutOk.mono {K : Fg} {H0 F0 FH FH' : Hp} {D : Ends} {o : Out} (h : OutOk K H0 F0 FH D o) (s : Same FH FH') : OutOk K H0 F0 FH' D o := by
  cases o with
  | nx ρ => exact fun σ' H' F s' J => h σ' H' F (s.trans s') J
  | rt a => exact fun v σ' ρ' H' F s' J => h v σ' ρ' H' F (s.trans s') J
def Gs (r : R Out) (P : Out → Prop) : Prop := match r with
  | .ok o => P o
  | _ => False
theorem Gs_bnd {r : R (PV × Ev)} {f : PV → Ev → R Out} {P : Out → Prop} : Gs (bndS r f) P = Gd r fun v ρ => Gs (f v ρ) P := by cases r <;> rfl
theorem Gs_lift {α : Type} {o : Option α} {f : α → R Out} {P : Out → Prop} : Gs (liftS o f) P ↔ ∃ a, o = some a ∧ Gs (f a) P := by
  cases o with
  | none => exact ⟨fun h => h.elim, fun ⟨_, h, _⟩ => by cases h⟩
  | some a => exact ⟨fun h => ⟨a, rfl, h⟩, fun ⟨_, h, g⟩ => by cases h; exact g⟩
theorem Gs.mono {r : R Out} {P P' : Out → Prop} (h : Gs r P) (k : ∀ o, P o → P' o) : Gs r P' := by
  cases r with
  | ok o => exact k o h
  | er x ρ => exact h.elim
  | no => exact h.elim
section
variable {X : Cx} {B : Tb} {H0 F0 FH FH' H H' : Hp} {ρ ρ' : Ev} {T : List (V × AV)} {σ : L2.St} {u : PV} {v : V} {d : D} {Q : VK}
def tS (B : Tb) (K : Fg) (s : S) : TS := fun D σ H => ∃ H0 F0 ρ FH, InvA K H0 F0 ρ FH [] σ H ∧ Gs (ex B.C B.G B.above s ρ) (OutOk K H0 F0 FH D)
def tSs (B : Tb) (K : Fg) (ss : List S) : TS := fun D σ H => ∃ H0 F0 ρ FH, InvA K H0 F0 ρ FH [] σ H ∧ Gs (exs B.C B.G B.above ss ρ) (OutOk K H0 F0 FH D)
theorem setNm {i : Nat} {e : E} {D : Ends} (h : tS B X.K (.set (.nm i) e) D σ H) : tE B X.K e σ H fun x H1 => D.nx (σ.set i (some x)) H1 := by
  obtain ⟨H0, F0, ρ, FH, I, h⟩ := h
  simp only [ex, Gs_bnd] at h
  refine go I h fun u1 ρ1 x H1 FH1 h s1 I1 p1 => ?_
  cases u1 with
  | av a => exact h _ _ _ s1 I1.set
  | pl j p =>
    simp only [Gs_lift] at h
    obtain ⟨⟨d, ρ2⟩, e2, h⟩ := h
    obtain ⟨F2, s2, I2, r2⟩ := I1.frz p1 e2
    exact h _ _ _ (s1.trans s2) (I2.push r2).set
theorem st_set {i : Nat} {x : Str} {e : E} {xe : Expr} {pos' pos : Pos} (hN : X.N.Nodup) (hi : X.N[i]? = some x) (hx : Loc X.env.scope x) (he : PE X xe (tE B X.K e)) (hs : swapsWith xe (some (.Name x pos')) pos.line X.env = pure false) (hf : X.fn x = true ∨ X.env.scope.names.lookup x = some .local) :
    PS X (.Assign [.Name x pos'] xe pos) (tS B X.K (.set (.nm i) e)) :=
  PS.imp (ps_set hN hi hx he hs hf) fun D σ H h => setNm h
theorem st_asg {t : Tg} {tg xe : Expr} {e : E} {pos : Pos} (ht : ∃ ts, t = .tp ts) (he : PE X xe (tE B X.K e)) (hg : PG X tg (tG X.K t)) (hs : swapsWithSole [tg] xe pos.line X.env = pure false) (hw : swappedStores [tg] xe X.env = pure none)
    (hn : PS X (.Assign [tg] xe pos) (tAsg (tE B X.K e) (tG X.K t))) : PS X (.Assign [tg] xe pos) (tS B X.K (.set t e)) := by
  refine PS.imp hn fun D σ H ⟨H0, F0, ρ, FH, I, h⟩ => ?_
  obtain ⟨ts, rfl⟩ := ht
  simp only [ex, Gs_bnd] at h
  refine go I h fun u1 ρ1 x H1 FH1 h s1 I1 p1 => ?_
  simp only [Gs_lift] at h
  obtain ⟨⟨d, ρ2⟩, e2, ρ3, e3, h⟩ := h
  obtain ⟨F2, s2, I2, r2⟩ := I1.frz p1 e2
  exact ⟨H0, F0, ρ2, F2, [], d, I2, r2, ρ3, e3, fun σ' _ _ J => h σ' H1 F2 (s1.trans s2) J⟩
theorem st_par {i j : Nat} {a b : E} {st : Stmt} (h : PS X st (tPar i j (tAF B X.K [a, b]))) : PS X st (tS B X.K (.par i j a b)) := by
  refine PS.imp h fun D σ H ⟨H0, F0, ρ, FH, I, h⟩ => ⟨H0, F0, ρ, FH, [], I, ?_⟩
  simp only [ex] at h
  cases e1 : evF B.C B.G B.above [a, b] ρ with
  | er x r => rw [e1] at h; exact h.elim
  | no => rw [e1] at h; exact h.elim
  | ok r =>
  obtain ⟨ds, ρ1⟩ := r
  rw [e1] at h
  intro vs H1 FH1 s1 I1 r1
  rcases ds with _ | ⟨d, _ | ⟨e, _ | ⟨f, ds⟩⟩⟩ <;> first | exact h.elim | skip
  obtain ⟨x, r, rfl, q1, y, r', rfl, q2, q3⟩ := r1
  cases (show _ = _ from q3)
  exact ⟨x, y, rfl, h _ _ _ s1 (InvA.set (InvA.push (InvA.set (InvA.push I1 q1)) q2))⟩
theorem st_drop {e : E} {x : Expr} {pos : Pos} (he : PE X x (tE B X.K e)) (hs : swapsWith x none pos.line X.env = pure false) : PS X (.Expr x pos) (tS B X.K (.drop e)) := by
  refine PS.imp (ps_expr he hs) fun D σ H ⟨H0, F0, ρ, FH, I, h⟩ => ?_
  simp only [ex, Gs_bnd] at h
  exact go I h fun u1 ρ1 x H1 FH1 h s1 I1 p1 => h _ _ _ s1 I1.dropV
theorem mt_ext {X : Cx} : MtM X "list.extend" (fun x vs H Q => ∃ l b xs zs, x = .ref l ∧ vs = [.ref b] ∧ H l = some (.lst xs) ∧ Rd H b (.lst zs) ∧ xs.length + zs.length ≤ sizeLine ∧ Q .non (upd H l (.lst (xs ++ zs)))) := by
  intro pins s σ H x vs v us Q I rx rv ⟨l, b, xs, zs, ex, ev, hH, hB, hz, q⟩
  subst ex ev
  have e0 : v = .ref l := rx
  subst e0
  obtain ⟨w, ew, rw'⟩ := rv.one
  subst ew
  have e1 : w = .ref b := rw'
  subst e1
  obtain ⟨_, is, n, r, hl, e⟩ := I.lstM hH
  obtain ⟨_, js, m, r2, e2⟩ := rd_lst I hB
  have hl2 := r2.length
  have small : is.toArray.size + js.toArray.size ≤ sizeLine := by simp only [List.size_toArray]; omega
  have fit : ¬ (!is.toArray.isEmpty && Builtin.List.listTooLong (is.toArray.size + js.toArray.size)) = true := by rw [notLongL small, Bool.and_false]; decide
  refine call_meets PySem.F.slot_list_extend ⟨_, e, rfl⟩ PySem.F.entry_list_extend (PySem.F.args_list_extend_2 _ _) (AutoSeq1.list_extend_list_list_0 l is.toArray n b js.toArray m fit (by simp only [List.size_toArray]; omega) (by simp only [List.size_toArray] at small ⊢; omega)) ⟨e, e2, ?_⟩
  exact ⟨V.non, upd H l _, I.lset (its' := is ++ js) hH e (by simp) (r.append r2) (by simp only [List.length_append]; omega), rfl, q⟩
theorem st_app {x e : E} {xx xe : Expr} {ap cp pos : Pos} (hx : PE X xx (tE B X.K x)) (he : PE X xe (tE B X.K e)) (hb : notCall0 xx = true) (hl : (ap.endLine == cp.line) = true) (hs : starEach [xe] X.env = (false, eval xe X.env) :: starEach [] X.env) :
    PS X (.Expr (.Call (.Attribute xx "append" ap) [xe] [] cp) pos) (tS B X.K (.app x e)) := by
  refine PS.imp (ps_expr (pe_bm PySem.F.plainAttrs_list PySem.F.slot_list_append PySem.F.type_list_append mt_append hx (pa_cons he pa_nil hs) (base_of hb) (by rw [hs]; rfl) hl hs (by rfl)) (by rfl)) fun D σ H ⟨H0, F0, ρ, FH, I, h⟩ => ?_
  simp only [ex, Gs_bnd, Gs_lift] at h
  refine go I h fun u1 ρ1 x H1 FH1 h s1 I1 p1 => ?_
  obtain ⟨ds0, e0, h⟩ := h
  refine ⟨peek_lst I1 p1 e0, go I1 h fun u2 ρ2 y H2 FH2 h s2 I2 p2 => ?_⟩
  obtain ⟨⟨d, ρ3⟩, e3, h⟩ := h
  obtain ⟨F3, s3, I3, r3⟩ := I2.frz p2 e3
  simp only at h
  cases e2 : look ρ3 u1 with
  | none => rw [e2] at h; exact h.elim
  | some b =>
    rw [e2] at h
    cases b <;> first | exact (show False from h).elim | skip
    rename_i ds
    simp only at h
    split at h
    · rename_i hln
      simp only [Gs_lift] at h
      obtain ⟨ρ4, e5, hf⟩ := h
      obtain ⟨j, p, rfl⟩ := wrt_pl e5
      obtain ⟨b, xs, ex, hH, r, wr⟩ := InvA.ownL (T := []) I3 (p1.mono (s2.trans s3)) e2
      have I4 := wr _ (xs ++ [y]) ρ4 (r.app (.one r3)) e5
      exact ⟨b, xs, y, ex, rfl, hH, by rw [r.len, ← line_eq]; exact hln, hf _ _ _ ((s1.trans s2).trans s3) I4⟩
    · exact h.elim
theorem st_ext {x e : E} {xx xe : Expr} {ap cp pos : Pos} (hx : PE X xx (tE B X.K x)) (he : PE X xe (tE B X.K e)) (hb : notCall0 xx = true) (hl : (ap.endLine == cp.line) = true) (hs : starEach [xe] X.env = (false, eval xe X.env) :: starEach [] X.env) :
    PS X (.Expr (.Call (.Attribute xx "extend" ap) [xe] [] cp) pos) (tS B X.K (.ext x e)) := by
  refine PS.imp (ps_expr (pe_bm PySem.F.plainAttrs_list PySem.F.slot_list_extend PySem.F.type_list_extend mt_ext hx (pa_cons he pa_nil hs) (base_of hb) (by rw [hs]; rfl) hl hs (by rfl)) (by rfl)) fun D σ H ⟨H0, F0, ρ, FH, I, h⟩ => ?_
  simp only [ex, Gs_bnd, Gs_lift] at h
  refine go I h fun u1 ρ1 x H1 FH1 h s1 I1 p1 => ?_
  obtain ⟨ds0, e0, h⟩ := h
  refine ⟨peek_lst I1 p1 e0, go I1 h fun u2 ρ2 y H2 FH2 h s2 I2 p2 => ?_⟩
  obtain ⟨⟨d, ρ3⟩, e3, h⟩ := h
  obtain ⟨F3, s3, I3, r3⟩ := I2.shl p2 e3
  simp only [Gs_lift] at h
  obtain ⟨es, e4, h⟩ := h
  have ed := lstOf_some e4
  cases ed
  cases e2 : look ρ3 u1 with
  | none => rw [e2] at h; exact h.elim
  | some b =>
    rw [e2] at h
    cases b <;> first | exact (show False from h).elim | skip
    rename_i ds
    simp only at h
    split at h
    · rename_i hln
      simp only [Gs_lift] at h
      obtain ⟨ρ4, e5, hf⟩ := h
      obtain ⟨j, p, rfl⟩ := wrt_pl e5
      obtain ⟨b, xs, ex, hH, r, wr⟩ := InvA.ownL (T := []) I3 (p1.mono (s2.trans s3)) e2
      obtain ⟨c, ys, ey, hY, r'⟩ := r3
      have I4 := wr _ (xs ++ ys) ρ4 (r.app r') e5
      exact ⟨b, c, xs, ys, ex, by rw [ey], hH, hY, by rw [r.len, r'.len, ← line_eq]; exact hln, hf _ _ _ ((s1.trans s2).trans s3) I4⟩
    · exact h.elim
theorem st_clr {x : E} {xx : Expr} {ap cp pos : Pos} (hx : PE X xx (tE B X.K x)) (hb : notCall0 xx = true) (hl : (ap.endLine == cp.line) = true) :
    PS X (.Expr (.Call (.Attribute xx "clear" ap) [] [] cp) pos) (tS B X.K (.clr x)) := by
  refine PS.imp (ps_expr (pe_bm0 PySem.F.plainAttrs_list PySem.F.slot_list_clear PySem.F.type_list_clear (fun pins s σ H x xs v us Q => mt_clear pins s σ H x xs v us Q) hx (base_of hb) hl) (by rfl)) fun D σ H ⟨H0, F0, ρ, FH, I, h⟩ => ?_
  simp only [ex, Gs_bnd] at h
  refine go I h fun u1 ρ1 x H1 FH1 h s1 I1 p1 => ?_
  cases e2 : look ρ1 u1 with
  | none => rw [e2] at h; exact h.elim
  | some b =>
    rw [e2] at h
    cases b <;> first | exact (show False from h).elim | skip
    rename_i ds
    simp only [Gs_lift] at h
    obtain ⟨ρ4, e5, hf⟩ := h
    obtain ⟨j, p, rfl⟩ := wrt_pl e5
    obtain ⟨b, xs, ex, hH, r, wr⟩ := InvA.ownL (T := []) I1 p1 e2
    subst ex
    exact ⟨tyV_lst (.inl hH), b, xs, rfl, rfl, hH, hf _ _ _ s1 (wr [] [] ρ4 rfl e5)⟩
theorem st_ret {e : E} {x : Expr} {pos : Pos} (he : PE X x (tM B X.K e)) : PS X (.Return (some x) pos) (tS B X.K (.ret e)) := by
  refine PS.imp (ps_ret he) fun D σ H ⟨H0, F0, ρ, FH, I, h⟩ => ⟨H0, F0, ρ, FH, [], I, ?_⟩
  simp only [ex] at h
  cases e1 : evM B.C B.G B.above e ρ with
  | er x r => rw [e1] at h; exact h.elim
  | no => rw [e1] at h; exact h.elim
  | ok r =>
  obtain ⟨a, ρ1⟩ := r
  rw [e1] at h
  exact fun v H1 FH1 s1 I1 => h v σ ρ1 H1 FH1 s1 I1
theorem evB_test {e : E} {b : Bool} {ρ ρ1 : Ev} (h : evB B.C B.G B.above e ρ = .ok (b, ρ1)) : ∃ u, ev B.C B.G B.above e ρ = .ok (u, ρ1) ∧ blOf (DY.peek ρ1 u) = some b := by
  unfold evB at h
  cases e1 : ev B.C B.G B.above e ρ with
  | er x r => rw [e1] at h; cases h
  | no => rw [e1] at h; cases h
  | ok r =>
  obtain ⟨u, ρ2⟩ := r
  rw [e1] at h
  simp only at h
  cases e2 : blOf (DY.peek ρ2 u) with
  | none => rw [e2] at h; cases h
  | some b' => rw [e2] at h; cases h; exact ⟨u, rfl, e2⟩
theorem goT {e : E} {b : Bool} {ρ1 : Ev} {Q : Bool → Hp → Prop} (I : InvA X.K H0 F0 ρ FH T σ H) (h : evB B.C B.G B.above e ρ = .ok (b, ρ1)) (k : ∀ H' FH', Same FH FH' → InvA X.K H0 F0 ρ1 FH' T σ H' → Q b H') : tT B X.K e σ H Q := by
  obtain ⟨u, e1, e2⟩ := evB_test h
  refine ⟨H0, F0, ρ, FH, T, I, ?_⟩
  rw [e1]
  exact ⟨b, e2, k⟩
theorem st_ite {c : E} {a b : List S} {xc : Expr} {xa xb : List Stmt} {pos : Pos} (hc : PT X xc (tT B X.K c)) (ha : PSs X xa (tSs B X.K a)) (hb : PSs X xb (tSs B X.K b)) : PS X (.If xc xa xb pos) (tS B X.K (.ite c a b)) := by
  refine PS.imp (ps_if hc ha hb) fun D σ H ⟨H0, F0, ρ, FH, I, h⟩ => ?_
  simp only [ex] at h
  cases e1 : evB B.C B.G B.above c ρ with
  | er x r => rw [e1] at h; exact h.elim
  | no => rw [e1] at h; exact h.elim
  | ok r =>
  obtain ⟨k, ρ1⟩ := r
  rw [e1] at h
  refine goT I e1 fun H1 FH1 s1 I1 => ?_
  cases k with
  | true => exact ⟨H0, F0, ρ1, FH1, I1, h.mono fun o ho => ho.mono s1⟩
  | false => exact ⟨H0, F0, ρ1, FH1, I1, h.mono fun o ho => ho.mono s1⟩
theorem ss_nil : PSs X [] (tSs B X.K []) := PSs.imp pss_nil fun D σ H ⟨H0, F0, ρ, FH, I, h⟩ => h σ H FH (Same.refl _) I
theorem ss_cons {s : S} {ss : List S} {x : Stmt} {xs : List Stmt} (h1 : PS X x (tS B X.K s)) (h2 : PSs X xs (tSs B X.K ss)) : PSs X (x :: xs) (tSs B X.K (s :: ss)) := by
  refine PSs.imp (pss_cons h1 h2) fun D σ H ⟨H0, F0, ρ, FH, I, h⟩ => ⟨H0, F0, ρ, FH, I, ?_⟩
  simp only [exs] at h
  cases e1 : ex B.C B.G B.above s ρ with
  | er x r => rw [e1] at h; exact h.elim
  | no => rw [e1] at h; exact h.elim
  | ok o =>
  rw [e1] at h
  cases o with
  | nx ρ1 => exact fun σ' H' F s J => ⟨H0, F0, ρ1, F, J, h.mono fun o ho => ho.mono s⟩
  | rt a => exact h
theorem st_for {t : Tg} {it : It} {body : List S} {tg iter : Expr} {xb : List Stmt} {pos : Pos} (hp : PassesOwn (model X.prog X.w) X.A X.env X.xe) (hc : X.calm = true) (hi : PI X tg iter (tI B X.K it)) (hg : PG X tg (tG X.K t)) (hb : PSs X xb (tSs B X.K body))
    (hs : ∀ x, foldedSetIterable iter X.env x = pure x) : PS X (.For tg iter xb [] pos) (tS B X.K (.loop t it body)) := by
  refine PS.imp (ps_for hp hc hi hg hb hs) fun Dn σ H ⟨H0, F0, ρ, FH, I, h⟩ => ?_
  simp only [ex] at h
  refine ⟨H0, F0, ρ, FH, [], I, ?_⟩
  cases e1 : evI B.C B.G B.above it ρ with
  | er x r => rw [e1] at h; exact h.elim
  | no => rw [e1] at h; exact h.elim
  | ok r =>
  obtain ⟨ds, ρ1⟩ := r
  rw [e1] at h
  intro J H1 FH1 s1 I1 Y
  let f : D → Ev → R Out := fun d ρ => match asg t d ρ with
    | some ρ' => exs B.C B.G B.above body ρ'
    | none => R.no
  have h : Gs (loopL f ds ρ1) (OutOk X.K H0 F0 FH Dn) := h
  refine ⟨fun i m σ H => i + m = ds.length ∧ ∃ ρ F, Same FH1 F ∧ InvA X.K H0 F0 ρ F [] σ H ∧ Gs (loopL f (ds.drop i) ρ) (OutOk X.K H0 F0 FH Dn), ⟨ds.length, by omega, ρ1, FH1, Same.refl _, I1, h⟩, fun i m σ H ⟨him, ρ, F, sF, I2, h⟩ => ?_⟩
  by_cases hi : i < ds.length
  · right
    have hd := List.getElem?_eq_getElem hi
    have hdrop : ds.drop i = ds[i] :: ds.drop (i + 1) := (List.getElem_cons_drop hi).symm
    rw [hdrop] at h
    simp only [loopL] at h
    refine ⟨Y.go i H _ (sF.trans I2.sub) hd, fun σ H => ∃ ρ F, Same FH1 F ∧ InvA X.K H0 F0 ρ F [] σ H ∧ Gs (loopL f (ds.drop (i + 1)) ρ) (OutOk X.K H0 F0 FH Dn), fun σ' H' hN => ⟨m - 1, by omega, by omega, hN⟩, fun x H' hy => ?_⟩
    obtain ⟨F3, s3, J2, rx⟩ := Y.yld i _ x H0 F0 ρ F _ _ H H' I2 sF hd hy
    cases e2 : asg t ds[i] ρ with
    | none =>
      have : f ds[i] ρ = .no := by show (match asg t ds[i] ρ with | some ρ' => _ | none => _) = _; rw [e2]
      rw [this] at h
      exact h.elim
    | some ρ' =>
      have hf : f ds[i] ρ = exs B.C B.G B.above body ρ' := by show (match asg t ds[i] ρ with | some ρ' => _ | none => _) = _; rw [e2]
      rw [hf] at h
      refine ⟨H0, F0, ρ, F3, [], ds[i], J2, rx, ρ', e2, fun σ2 _ _ J3 => ⟨H0, F0, ρ', F3, J3, ?_⟩⟩
      cases e3 : exs B.C B.G B.above body ρ' with
      | er x r => rw [e3] at h; exact h.elim
      | no => rw [e3] at h; exact h.elim
      | ok o =>
        rw [e3] at h
        cases o with
        | nx ρ2 => exact fun σ3 H3 F4 s4 J4 => ⟨ρ2, F4, sF.trans (s3.trans s4), J4, h⟩
        | rt a => exact fun v σ3 ρ3 H3 F4 s4 J4 => h v σ3 ρ3 H3 F4 (s1.trans (sF.trans (s3.trans s4))) J4
  · left
    rw [List.drop_eq_nil_of_le (by omega)] at h
    exact ⟨Y.stop i H (sF.trans I2.sub) (by omega), h σ H F (s1.trans sF) I2⟩
theorem st_whl {m : Nat} {c : E} {body : List S} {xc : Expr} {xb : List Stmt} {pos : Pos} (hp : PassesOwn (model X.prog X.w) X.A X.env X.xe) (hc : PT X xc (tT B X.K c)) (hb : PSs X xb (tSs B X.K body)) : PS X (.While xc xb [] pos) (tS B X.K (.whl m c body)) := by
  refine PS.imp (ps_while hp hc hb) fun D σ H ⟨H0, F0, ρ, FH, I, h⟩ => ?_
  simp only [ex] at h
  split at h
  case h_2 => exact h.elim
  rename_i k hk
  refine ⟨fun n σ H => ∃ ρ F, Same FH F ∧ InvA X.K H0 F0 ρ F [] σ H ∧ Gs (whileL (evB B.C B.G B.above c) (exs B.C B.G B.above body) n ρ) (OutOk X.K H0 F0 FH D), ⟨_, ρ, FH, Same.refl _, I, h⟩, fun n σ H ⟨ρ, F, sF, I2, h⟩ => ?_⟩
  cases n with
  | zero => exact h.elim
  | succ n =>
  simp only [whileL] at h
  cases e1 : evB B.C B.G B.above c ρ with
  | er x r => rw [e1] at h; exact h.elim
  | no => rw [e1] at h; exact h.elim
  | ok r =>
  obtain ⟨k, ρ1⟩ := r
  rw [e1] at h
  refine goT I2 e1 fun H1 FH1 s1 I1 => ?_
  cases k with
  | false => exact h σ H1 FH1 (sF.trans s1) I1
  | true =>
    simp only [if_true] at h ⊢
    refine ⟨fun σ H => ∃ ρ F, Same FH F ∧ InvA X.K H0 F0 ρ F [] σ H ∧ Gs (whileL (evB B.C B.G B.above c) (exs B.C B.G B.above body) n ρ) (OutOk X.K H0 F0 FH D), fun σ' H' hN => ⟨n, by omega, hN⟩, H0, F0, ρ1, FH1, I1, ?_⟩
    cases e3 : exs B.C B.G B.above body ρ1 with
    | er x r => rw [e3] at h; exact h.elim
    | no => rw [e3] at h; exact h.elim
    | ok o =>
      rw [e3] at h
      cases o with
      | nx ρ2 => exact fun σ3 H3 F4 s4 J4 => ⟨ρ2, F4, sF.trans (s1.trans s4), J4, h⟩
      | rt a => exact fun v σ3 ρ3 H3 F4 s4 J4 => h v σ3 ρ3 H3 F4 (sF.trans (s1.trans s4)) J4
theorem st_pass {pos : Pos} : PS X (.Pass pos) (tS B X.K .pass) := PS.imp ps_pass fun D σ H ⟨H0, F0, ρ, FH, I, h⟩ => h σ H FH (Same.refl _) I
theorem st_doc {x j pos pos'} : PS X (.Expr (.Constant (.str x) j pos) pos') (tS B X.K .pass) := PS.imp ps_doc fun D σ H ⟨H0, F0, ρ, FH, I, h⟩ => h σ H FH (Same.refl _) I
theorem st_raise {c : Nat} {es : List E} {st : Stmt} : PS X st (tS B X.K (.raise c es)) := by
  refine PS.imp ps_never fun D σ H ⟨H0, F0, ρ, FH, I, h⟩ => ?_
  simp only [ex] at h
  cases e1 : evF B.C B.G B.above es ρ with
  | er x r => rw [e1] at h; exact h
  | no => rw [e1] at h; exact h
  | ok r => obtain ⟨ds, ρ1⟩ := r; rw [e1] at h; exact h
end
end DY
set_option Elab.async false
set_option linter.all false
set_option maxRecDepth 100000
/-! The matcher: that a text is one of the syntax. -/
namespace DY
open PySem L2

structure Sy where
  N : List Str
  fn : List (Str × Nat)
  cn : List Str
  lv : Nat

def okX : Expr → Bool
  | .Starred .. => false
  | .Slice .. => false
  | .Set .. => false
  | _ => true
def isLC : Expr → Bool
  | .ListComp .. => true
  | .SetComp .. => true
  | .DictComp .. => true
  | _ => false
def isBO : Expr → Bool
  | .BoolOp .. => true
  | _ => false
def valT : Expr → Bool
  | .UnaryOp .Not _ _ => false
  | .BoolOp .. => false
  | .IfExp .. => false
  | .Compare .. => false
  | _ => true
def visB (sc : Scope) (x : Str) : Bool := match sc.names.lookup x with
  | some .local => true
  | some .cell => true
  | some .free => true
  | _ => false
def tgB (sc : Scope) (ac : Bool) (x : Str) : Bool := match sc.names.lookup x with
  | some .local => true
  | some .cell => ac
  | _ => false
def glB (sc : Scope) (x : Str) : Bool := decide (sc.names.lookup x = some .globalImplicit)
def nmB (x : Str) : Bool := !(x == ("__debug__" : Str)) && !(x == ("__classdict__" : Str)) && !(x == ("__name__" : Str))

mutual
def mTg (Y : Sy) (sc : Scope) (ac : Bool) : Tg → Expr → Bool
  | .nm i, x => match x with
    | .Name y _ => decide (Y.N[i]? = some y) && tgB sc ac y
    | _ => false
  | .tp ts, x => match x with
    | .Tuple xs _ _ => mTgs Y sc ac ts xs
    | _ => false
def mTgs (Y : Sy) (sc : Scope) (ac : Bool) : List Tg → List Expr → Bool
  | [], xs => match xs with
    | [] => true
    | _ => false
  | t :: ts, xs => match xs with
    | x :: xs => okX x && mTg Y sc ac t x && mTgs Y sc ac ts xs
    | _ => false
end
def isTupX : Expr → Bool
  | .Tuple .. => true
  | _ => false
def ownNames (Y : Sy) (ow : List Nat) : List (Str × Nat) := ow.map fun i => (Y.N.getD i "", i)

mutual
def mE (Y : Sy) : E → Scope → Expr → Bool
  | .var i, sc, x => match x with
    | .Name y _ => decide (Y.N[i]? = some y) && visB sc y && nmB y
    | _ => false
  | .glb i, sc, x => match x with
    | .Name y _ => decide (Y.cn[i]? = some y) && glB sc y && nmB y
    | _ => false
  | .non, _, x => match x with
    | .Constant .none _ _ => true
    | _ => false
  | .bl b, _, x => match x with
    | .Constant (.bool c) _ _ => b == c
    | _ => false
  | .int i, _, x => match x with
    | .Constant (.int j) _ _ => i == j
    | _ => false
  | .str s, _, x => match x with
    | .Constant (.str y) _ _ => decide (y = txt s) && okTxt s
    | _ => false
  | .dct0, _, _ => false
  | .tup es, sc, x => match x with
    | .Tuple xs _ _ => mL Y es sc xs
    | _ => false
  | .lst es, sc, x => match x with
    | .List xs _ => mL Y es sc xs
    | _ => false
  | .bin o a b, sc, x => match x with
    | .BinOp xa op xb _ => decide (op = opB o) && mE Y a sc xa && mE Y b sc xb
    | _ => false
  | .neg a, sc, x => match x with
    | .UnaryOp .USub xa _ => mE Y a sc xa
    | _ => false
  | .not a, sc, x => match x with
    | .UnaryOp .Not xa _ => mE Y a sc xa
    | _ => false
  | .and a b, sc, x => match x with
    | .BoolOp .And vs p => match vs with
      | [v, w] => mE Y a sc v && mE Y b sc w
      | v :: w :: z :: r => mE Y a sc v && mE Y b sc (.BoolOp .And (w :: z :: r) p)
      | _ => false
    | _ => false
  | .or a b, sc, x => match x with
    | .BoolOp .Or vs p => match vs with
      | [v, w] => mE Y a sc v && mE Y b sc w
      | v :: w :: z :: r => mE Y a sc v && mE Y b sc (.BoolOp .Or (w :: z :: r) p)
      | _ => false
    | _ => false
  | .cmp o a b, sc, x => match x with
    | .Compare xa ops bs _ => match ops, bs with
      | [op], [xb] => decide (op = opC o) && !behindInMarks (opC o) xb && mE Y a sc xa && mE Y b sc xb
      | _, _ => false
    | _ => false
  | .chn o p a b c, sc, x => match x with
    | .Compare xa ops bs _ => match ops, bs with
      | [op, op2], [xb, xc] => decide (op = opC o) && decide (op2 = opC p) && !lastMarks [opC o, opC p] [xb, xc] && mE Y a sc xa && mE Y b sc xb && mE Y c sc xc
      | _, _ => false
    | _ => false
  | .ix a b, sc, x => match x with
    | .Subscript xa xb _ => noSlice xb && mE Y a sc xa && mE Y b sc xb
    | _ => false
  | .sl a lo hi, sc, x => match x with
    | .Subscript xa xb _ => match xb with
      | .Slice xl xh none _ => mE Y a sc xa && mO Y lo sc xl && mO Y hi sc xh
      | _ => false
    | _ => false
  | .rev a, sc, x => match x with
    | .Subscript xa xb _ => match xb with
      | .Slice none none (some (.UnaryOp .USub (.Constant (.int 1) _ _) _)) _ => mE Y a sc xa
      | _ => false
    | _ => false
  | .call f es, sc, x => match x with
    | .Call xf xs kw _ => match xf, kw with
      | .Name y _, [] => match Y.fn[f]? with
        | some (z, n) => decide (y = z) && decide (f < Y.lv) && decide (n = es.length) && glB sc y && nmB y && mL Y es sc xs
        | none => false
      | _, _ => false
    | _ => false
  | .blt f es, sc, x => match x with
    | .Call xf xs kw _ => match xf, kw with
      | .Name y _, [] => match f, es with
        | .lrange, [e] => match xs with
          | [.Call (.Name z _) [v] [] _] => decide (y = "list") && decide (z = "range") && glB sc "list" && glB sc "range" && okX v && mE Y e sc v
          | _ => false
        | .lrange, _ => false
        | f, es => decide (y = bfN f) && glB sc y && mL Y es sc xs && !xs.isEmpty
      | _, _ => false
    | _ => false
  | .isi a k, sc, x => match x with
    | .Call xf xs kw _ => match xf, kw, xs with
      | .Name y _, [], [v, .Name z _] => decide (y = "isinstance") && decide (z = PySem.Str.ofString (kdS k)) && !(kdS k == "") && glB sc "isinstance" && glB sc z && okX v && mE Y a sc v
      | _, _, _ => false
    | _ => false
  | .cmpr ow t it ifs e, sc, x => match x with
    | .ListComp xe gs scope _ => match gs with
      | [⟨tg, iter, xi, 0⟩] => blkC Y.N sc scope (ownNames Y ow) && (tgs t).all (fun i => ow.contains i) && okX iter && mI Y it sc tg iter && mTg Y (relS scope sc) false t tg && decide (ifs.length ≤ 1) && mLT Y ifs (relS scope sc) xi && mE Y e (relS scope sc) xe
      | _ => false
    | _ => false
  | .pop a none, sc, x => match x with
    | .Call xf xs kw cp => match xf, xs, kw with
      | .Attribute v y ap, [], [] => decide (y = "pop") && notCall0 v && (ap.endLine == cp.line) && mE Y a sc v
      | _, _, _ => false
    | _ => false
  | .pop a (some i), sc, x => match x with
    | .Call xf xs kw cp => match xf, xs, kw with
      | .Attribute v y ap, [w], [] => decide (y = "pop") && notCall0 v && (ap.endLine == cp.line) && okX w && mE Y a sc v && mE Y i sc w
      | _, _, _ => false
    | _ => false
  | .index a b, sc, x => match x with
    | .Call xf xs kw cp => match xf, xs, kw with
      | .Attribute v y ap, [w], [] => decide (y = "index") && notCall0 v && (ap.endLine == cp.line) && okX w && mE Y a sc v && mE Y b sc w
      | _, _, _ => false
    | _ => false
  | .fld _ _, _, _ => false
def mL (Y : Sy) : List E → Scope → List Expr → Bool
  | [], _, xs => xs.isEmpty
  | e :: es, sc, xs => match xs with
    | x :: xs => okX x && mE Y e sc x && mL Y es sc xs
    | _ => false
/-- tests -/
def mLT (Y : Sy) : List E → Scope → List Expr → Bool
  | [], _, xs => xs.isEmpty
  | e :: es, sc, xs => match xs with
    | x :: xs => mE Y e sc x && mLT Y es sc xs
    | _ => false
def mO (Y : Sy) : Option E → Scope → Option Expr → Bool
  | none, _, x => x.isNone
  | some e, sc, x => match x with
    | some x => mE Y e sc x
    | none => false
def mI (Y : Sy) : It → Scope → Expr → Expr → Bool
  | .seq e, sc, _, x => mE Y e sc x
  | .rng1 a, sc, _, x => match x with
    | .Call xf xs kw _ => match xf, xs, kw with
      | .Name y _, [xa], [] => decide (y = "range") && glB sc "range" && okX xa && mE Y a sc xa
      | _, _, _ => false
    | _ => false
  | .rng2 a b, sc, _, x => match x with
    | .Call xf xs kw _ => match xf, xs, kw with
      | .Name y _, [xa, xb], [] => decide (y = "range") && glB sc "range" && okX xa && okX xb && mE Y a sc xa && mE Y b sc xb
      | _, _, _ => false
    | _ => false
  | .rng3 a b c, sc, _, x => match x with
    | .Call xf xs kw _ => match xf, xs, kw with
      | .Name y _, [xa, xb, xc], [] => decide (y = "range") && glB sc "range" && okX xa && okX xb && okX xc && mE Y a sc xa && mE Y b sc xb && mE Y c sc xc
      | _, _, _ => false
    | _ => false
  | .zip a b, sc, tg, x => match x with
    | .Call xf xs kw _ => match xf, xs, kw with
      | .Name y _, [xa, xb], [] => isTupX tg && decide (y = "zip") && glB sc "zip" && okX xa && okX xb && mE Y a sc xa && mE Y b sc xb
      | _, _, _ => false
    | _ => false
  | .enum a, sc, tg, x => match x with
    | .Call xf xs kw _ => match xf, xs, kw with
      | .Name y _, [xa], [] => isTupX tg && decide (y = "enumerate") && glB sc "enumerate" && okX xa && mE Y a sc xa
      | _, _, _ => false
    | _ => false
end

/-! ### what is known of the world -/
def bltNames : List Str := ["len", "abs", "max", "min", "list", "tuple", "sorted", "int", "all", "isinstance", "bool", "str", "range", "zip", "enumerate"]
structure TbOk (Y : Sy) (B : Tb) (P : Program) (w : World) (K : Fg) (mg : Str → Option Value) (base : Heap) : Prop where
  calls : ∀ j x n, j < Y.lv → Y.fn[j]? = some (x, n) → ∃ f fd ps, mg x = some (.ref f) ∧ PySem.W.keepIn K (.ref f) = true ∧ Binds K fd ps [] ∧ FnOk P w K mg base CX0 Y.lv f fd ps (spV K n (B.C j))
  consts : ∀ i x d, Y.cn[i]? = some x → B.G i = some d → ∃ v u, mg x = some u ∧ RelV v u ∧ Rep K (fun _ => none) d v
  blts : ∀ x ∈ bltNames, mg x = none
structure XOk (Y : Sy) (B : Tb) (sc : Scope) (ac : Bool) (X : Cx) : Prop where
  sc : X.env.scope = sc
  N : X.N = Y.N
  nd : X.N.Nodup
  calm : X.calm = true
  un : X.A.units + 65 < cLine
  room : Room Y.lv X.A
  fn : ac = true → ∀ x, X.fn x = true
  tb : TbOk Y B X.prog X.w X.K X.mg X.base
section
variable {Y : Sy} {B : Tb} {sc : Scope} {ac : Bool} {X : Cx}
theorem star_of {x : Expr} {xs : List Expr} {env : Env} (h : okX x = true) : starEach (x :: xs) env = (false, eval x env) :: starEach xs env := by
  cases x <;> first | (cases h; done) | rfl
theorem fold_of {x : Expr} {env : Env} (h : okX x = true) (v : Value) : foldedSetIterable x env v = pure v := by
  cases x <;> first | (cases h; done) | rfl
theorem val_of {x : Expr} {env : Env} (h : valT x = true) (w : Sem Value) : isTrue x env w = (do let v ← w; standAt x.pos; holding [v] (truthy v)) := by
  cases x <;> first | (cases h; done) | rfl | skip
  rename_i op _ _
  cases op <;> first | (cases h; done) | rfl
theorem noswap_of {x : Expr} {t : Option Expr} {l : Nat} {env : Env} (h : isLC x = false) : swapsWith x t l env = pure false := by
  cases x <;> first | (cases h; done) | rfl
theorem gl_of (O : XOk Y B sc ac X) {x : Str} (h : glB sc x = true) : Gl X x := by
  show X.env.scope.names.lookup x = some .globalImplicit
  rw [O.sc]
  unfold glB at h
  exact of_decide_eq_true h
theorem vis_of (O : XOk Y B sc ac X) {x : Str} (h : visB sc x = true) : Vis X.env.scope x := by
  unfold visB at h
  rw [O.sc]
  unfold Vis
  split at h <;> simp_all
theorem tg_of (O : XOk Y B sc ac X) {x : Str} (h : tgB sc ac x = true) : L2.Loc X.env.scope x ∧ (X.fn x = true ∨ X.env.scope.names.lookup x = some .local) := by
  unfold tgB at h
  rw [O.sc]
  unfold L2.Loc
  split at h
  · rename_i e; exact ⟨.inl e, .inr e⟩
  · rename_i e; exact ⟨.inr e, .inl (O.fn h x)⟩
  · cases h
theorem nm_of {x : Str} (h : nmB x = true) : (x == ("__debug__" : Str)) = false ∧ (x == ("__classdict__" : Str)) = false ∧ x ≠ "__name__" := by
  unfold nmB at h
  simp only [Bool.and_eq_true, Bool.not_eq_true'] at h
  exact ⟨h.1.1, h.1.2, by simpa using h.2⟩
mutual
theorem g_of (O : XOk Y B sc ac X) : ∀ (t : Tg) (x : Expr), mTg Y sc ac t x = true → PG X x (tG X.K t)
  | .nm i, x, h => by
    unfold mTg at h
    split at h
    · simp only [Bool.and_eq_true, decide_eq_true_eq] at h
      obtain ⟨h1, h2⟩ := h
      obtain ⟨l1, l2⟩ := tg_of O h2
      exact g_nm O.nd (by rw [O.N]; exact h1) l1 l2
    · cases h
  | .tp ts, x, h => by
    unfold mTg at h
    split at h
    · obtain ⟨h1, h2, h3⟩ := gs_of O ts _ h
      exact g_tp O.calm h1 h2 h3
    · cases h
theorem gs_of (O : XOk Y B sc ac X) : ∀ (ts : List Tg) (xs : List Expr), mTgs Y sc ac ts xs = true → PGs X xs (tGs X.K ts) ∧ (assignEach xs X.env).length = ts.length ∧ (assignEach xs X.env).findIdx? (·.1) = none
  | [], xs, h => by
    unfold mTgs at h
    split at h
    · exact ⟨gs_nil, rfl, rfl⟩
    · cases h
  | t :: ts, xs, h => by
    unfold mTgs at h
    split at h
    · rename_i x xs
      simp only [Bool.and_eq_true] at h
      obtain ⟨⟨h0, h1⟩, h2⟩ := h
      obtain ⟨g1, g2, g3⟩ := gs_of O ts xs h2
      have e : assignEach (x :: xs) X.env = (false, assign x X.env) :: assignEach xs X.env := by cases x <;> first | (cases h0; done) | rfl
      refine ⟨gs_cons (g_of O t x h1) g1 (by rw [e]; rfl), by rw [e]; simp [g2], ?_⟩
      rw [e, List.findIdx?_cons]
      simp only [Bool.false_eq_true, if_false]
      rw [g3]; rfl
    · cases h
end
end
end DY
set_option Elab.async false
set_option linter.all false
set_option maxRecDepth 100000
/-! The matcher is right: expressions. -/
namespace DY
open PySem L2
structure All (X : Cx) (B : Tb) (e : E) (x : Expr) : Prop where
  pe : PE X x (tE B X.K e)
  pt : PT X x (tT B X.K e)
  pw : isBO x = true → PW X x (tT B X.K e)
  pm : PE X x (tM B X.K e)
section
variable {Y : Sy} {B : Tb} {sc : Scope} {ac : Bool} {X : Cx}
theorem All.val {e : E} {x : Expr} (hv : valT x = true) (hp : plainM e = true) (h : PE X x (tE B X.K e)) : All X B e x :=
  ⟨h, t_val h (val_of hv), (fun z => by cases x <;> first | (cases z; done) | cases hv), m_plain hp h⟩
theorem blt_mem (O : XOk Y B sc ac X) {x : Str} (h : x ∈ bltNames) : X.mg x = none := O.tb.blts x h
theorem bfN_mem (f : Bf) : bfN f ∈ bltNames := by cases f <;> decide
theorem kd_boot {k : Kd} (h : kdS k ≠ "") : PySem.Str.ofString (kdS k) ∈ bltNames ∧ bootBuiltins (PySem.Str.ofString (kdS k)) = some (.type (kdS k)) ∧ PySem.Str.ofString (kdS k) ≠ "__name__" ∧ (PySem.Str.ofString (kdS k) == ("__debug__" : Str)) = false := by
  cases k <;> first | exact absurd rfl h | exact ⟨by decide, by rfl, by decide, by decide⟩
theorem star_any {xs : List Expr} {es : List E} {sc : Scope} {p : Pos} {env : Env} (h : mL Y es sc xs = true) : (backTo p (starEach xs env)).any (·.1) = false := by
  induction es generalizing xs with
  | nil =>
    unfold mL at h
    cases xs with
    | nil => rfl
    | cons _ _ => cases h
  | cons e es ih =>
    unfold mL at h
    split at h
    · rename_i x xs
      simp only [Bool.and_eq_true] at h
      rw [star_of h.1.1]
      have := ih h.2
      unfold backTo at this ⊢
      rw [List.map_cons, List.any_cons]
      rw [this]
      rfl
    · cases h
theorem mL_len {es : List E} {xs : List Expr} {sc : Scope} (h : mL Y es sc xs = true) : xs.length = es.length := by
  induction es generalizing xs with
  | nil =>
    unfold mL at h
    cases xs with
    | nil => rfl
    | cons _ _ => cases h
  | cons e es ih =>
    unfold mL at h
    split at h
    · rename_i x xs
      simp only [Bool.and_eq_true] at h
      rw [List.length_cons, List.length_cons, ih h.2]
    · cases h
theorem mL_cons {es : List E} {x : Expr} {xs : List Expr} {sc : Scope} (h : mL Y es sc (x :: xs) = true) : okX x = true ∧ ∃ es', mL Y es' sc xs = true := by
  cases es with
  | nil => unfold mL at h; cases h
  | cons e es =>
    unfold mL at h
    simp only [Bool.and_eq_true] at h
    exact ⟨h.1.1, es, h.2⟩
/-- a comprehension's parts -/
structure LcOk (X : Cx) (B : Tb) (t : Tg) (it : It) (ifs : List E) (e : E) (own : List (Str × Nat)) (xe tg iter : Expr) (xi : List Expr) (scope : Scope) : Prop where
  hi : PI X tg iter (tI B X.K it)
  ok : BlkOk X.N X.env.scope scope own
  hg : ∀ (s : Shared) (H : Hp) (C : Addr) (cl : List (Str × Addr)) (fp : List Addr), PG (X.blk s H scope (compEnvC scope cl C X.env) fp) tg (tG X.K t)
  ht : ∀ (s : Shared) (H : Hp) (C : Addr) (cl : List (Str × Addr)) (fp : List Addr), PTs (X.blk s H scope (compEnvC scope cl C X.env) fp) xi (tTs B X.K ifs)
  he : ∀ (s : Shared) (H : Hp) (C : Addr) (cl : List (Str × Addr)) (fp : List Addr), PE (X.blk s H scope (compEnvC scope cl C X.env) fp) xe (tE B X.K e)
  hs : ∀ x, foldedSetIterable iter X.env x = pure x
theorem XOk.blk (O : XOk Y B sc ac X) (s : Shared) (H : Hp) (scope : Scope) (C : Addr) (cl : List (Str × Addr)) (fp : List Addr) : XOk Y B (relS scope sc) false (X.blk s H scope (compEnvC scope cl C X.env) fp) :=
  ⟨by rw [← O.sc]; rfl, O.N, O.nd, O.calm, O.un, O.room, (fun h => by cases h), O.tb⟩
theorem own_ix {ow : List Nat} : (ownNames Y ow).map (·.2) = ow := by
  unfold ownNames
  rw [List.map_map]
  exact List.map_id ow
mutual
theorem e_of : ∀ (e : E) (sc : Scope) (ac : Bool) (X : Cx) (O : XOk Y B sc ac X) (x : Expr), mE Y e sc x = true → All X B e x
  | .var i, sc, ac, X, O, x, h => by
    unfold mE at h
    split at h
    · simp only [Bool.and_eq_true, decide_eq_true_eq] at h
      obtain ⟨⟨h1, h2⟩, h3⟩ := h
      obtain ⟨n1, n2, _⟩ := nm_of h3
      have hp := s_var (B := B) (pos := by assumption) (by rw [O.N]; exact h1) (vis_of O h2) n1 n2
      exact ⟨hp, t_val hp (val_of rfl), (fun z => by cases z), m_var (by rw [O.N]; exact h1) (vis_of O h2) n1 n2⟩
    · cases h
  | .glb i, sc, ac, X, O, x, h => by
    unfold mE at h
    split at h
    · rename_i y p
      simp only [Bool.and_eq_true, decide_eq_true_eq] at h
      obtain ⟨⟨h1, h2⟩, h3⟩ := h
      obtain ⟨n1, n2, _⟩ := nm_of h3
      cases hG : B.G i with
      | none =>
        refine All.val rfl rfl ⟨fun _ _ σ H Q _ ⟨H0, F0, ρ, FH, T, I, h⟩ => ?_⟩
        simp only [ev, hG] at h
        exact h.elim
      | some d =>
        obtain ⟨v, u, m1, m2, m3⟩ := O.tb.consts i y d h1 hG
        exact All.val rfl rfl (s_const (d := d) (pe_glob (gl_of O h2) m1 m2 n1) (fun ρ => by simp only [ev, hG]; rfl) m3)
    · cases h
  | .non, sc, ac, X, O, x, h => by
    unfold mE at h
    split at h
    · exact All.val rfl rfl (s_const (d := .non) pe_non (fun ρ => by simp only [ev]) rfl)
    · cases h
  | .bl b, sc, ac, X, O, x, h => by
    unfold mE at h
    split at h
    · rw [beq_iff_eq] at h
      subst h
      exact All.val rfl rfl (s_const (d := .bl b) pe_bl (fun ρ => by simp only [ev]) rfl)
    · cases h
  | .int i, sc, ac, X, O, x, h => by
    unfold mE at h
    split at h
    · rw [beq_iff_eq] at h
      subst h
      exact All.val rfl rfl (s_const (d := .int i) pe_int (fun ρ => by simp only [ev]) rfl)
    · cases h
  | .str s, sc, ac, X, O, x, h => by
    unfold mE at h
    split at h
    · simp only [Bool.and_eq_true, decide_eq_true_eq] at h
      obtain ⟨h1, h2⟩ := h
      subst h1
      exact All.val rfl rfl (s_const (d := .str s) pe_str (fun ρ => by simp only [ev]) ⟨rfl, h2⟩)
    · cases h
  | .dct0, sc, ac, X, O, x, h => by unfold mE at h; cases h
  | .tup es, sc, ac, X, O, x, h => by
    unfold mE at h
    split at h
    · obtain ⟨l1, l2, l3⟩ := l_of es sc ac X O _ h
      exact ⟨s_tup l1, t_val (s_tup l1) (val_of rfl), (fun z => by cases z), m_tup l3 (s_tup l1)⟩
    · cases h
  | .lst es, sc, ac, X, O, x, h => by
    unfold mE at h
    split at h
    · obtain ⟨l1, l2, l3⟩ := l_of es sc ac X O _ h
      exact All.val rfl rfl (s_lst l1)
    · cases h
  | .bin o a b, sc, ac, X, O, x, h => by
    unfold mE at h
    split at h
    · simp only [Bool.and_eq_true, decide_eq_true_eq] at h
      obtain ⟨⟨h1, h2⟩, h3⟩ := h
      subst h1
      exact All.val rfl rfl (s_bin (e_of a sc ac X O _ h2).pe (e_of b sc ac X O _ h3).pe)
    · cases h
  | .neg a, sc, ac, X, O, x, h => by
    unfold mE at h
    split at h
    · exact All.val rfl rfl (s_neg (e_of a sc ac X O _ h).pe)
    · cases h
  | .not a, sc, ac, X, O, x, h => by
    unfold mE at h
    split at h
    · have r := e_of a sc ac X O _ h
      exact ⟨s_not r.pe, t_not r.pt, (fun z => by cases z), m_plain rfl (s_not r.pe)⟩
    · cases h
  | .and a b, sc, ac, X, O, x, h => by
    unfold mE at h
    split at h
    · split at h
      · rename_i v w
        simp only [Bool.and_eq_true] at h
        have ra := e_of a sc ac X O _ h.1
        have rb := e_of b sc ac X O _ h.2
        have pw := PW.imp (pw_and (pos := by assumption) ra.pt (pw_and1 rb.pt)) fun σ H Q h => tAnd_of h
        exact ⟨s_and ra.pe (pe_one rb.pe), pw.pt, fun _ => pw, m_plain rfl (s_and ra.pe (pe_one rb.pe))⟩
      · rename_i v w z r
        simp only [Bool.and_eq_true] at h
        have ra := e_of a sc ac X O _ h.1
        have rb := e_of b sc ac X O _ h.2
        have pw := PW.imp (pw_and ra.pt (rb.pw rfl)) fun σ H Q h => tAnd_of h
        exact ⟨s_and ra.pe rb.pe, pw.pt, fun _ => pw, m_plain rfl (s_and ra.pe rb.pe)⟩
      · cases h
    · cases h
  | .or a b, sc, ac, X, O, x, h => by
    unfold mE at h
    split at h
    · split at h
      · rename_i v w
        simp only [Bool.and_eq_true] at h
        have ra := e_of a sc ac X O _ h.1
        have rb := e_of b sc ac X O _ h.2
        have pw := PW.imp (pw_or (pos := by assumption) ra.pt (pw_or1 rb.pt)) fun σ H Q h => tOr_of h
        exact ⟨s_or ra.pe (pe_one rb.pe), pw.pt, fun _ => pw, m_plain rfl (s_or ra.pe (pe_one rb.pe))⟩
      · rename_i v w z r
        simp only [Bool.and_eq_true] at h
        have ra := e_of a sc ac X O _ h.1
        have rb := e_of b sc ac X O _ h.2
        have pw := PW.imp (pw_or ra.pt (rb.pw rfl)) fun σ H Q h => tOr_of h
        exact ⟨s_or ra.pe rb.pe, pw.pt, fun _ => pw, m_plain rfl (s_or ra.pe rb.pe)⟩
      · cases h
    · cases h
  | .cmp o a b, sc, ac, X, O, x, h => by
    unfold mE at h
    split at h
    · split at h
      · simp only [Bool.and_eq_true, decide_eq_true_eq, Bool.not_eq_true'] at h
        obtain ⟨⟨⟨h1, h2⟩, h3⟩, h4⟩ := h
        subst h1
        have ra := (e_of a sc ac X O _ h3).pe
        have rb := (e_of b sc ac X O _ h4).pe
        exact ⟨s_cmp O.un ra rb h2, t_cmp O.un ra rb h2, (fun z => by cases z), m_plain rfl (s_cmp O.un ra rb h2)⟩
      · cases h
    · cases h
  | .chn o p a b c, sc, ac, X, O, x, h => by
    unfold mE at h
    split at h
    · split at h
      · simp only [Bool.and_eq_true, decide_eq_true_eq, Bool.not_eq_true'] at h
        obtain ⟨⟨⟨⟨⟨h1, h2⟩, h3⟩, h4⟩, h5⟩, h6⟩ := h
        subst h1 h2
        have ra := (e_of a sc ac X O _ h4).pe
        have rb := (e_of b sc ac X O _ h5).pe
        have rc := (e_of c sc ac X O _ h6).pe
        exact ⟨s_chn O.un ra rb rc h3, t_chn O.un ra rb rc h3, (fun z => by cases z), m_plain rfl (s_chn O.un ra rb rc h3)⟩
      · cases h
    · cases h
  | .ix a b, sc, ac, X, O, x, h => by
    unfold mE at h
    split at h
    · simp only [Bool.and_eq_true] at h
      obtain ⟨⟨h1, h2⟩, h3⟩ := h
      exact All.val rfl rfl (s_ix O.un (e_of a sc ac X O _ h2).pe (e_of b sc ac X O _ h3).pe h1)
    · cases h
  | .sl a lo hi, sc, ac, X, O, x, h => by
    unfold mE at h
    split at h
    · split at h
      · simp only [Bool.and_eq_true] at h
        obtain ⟨⟨h1, h2⟩, h3⟩ := h
        exact All.val rfl rfl (s_sl (e_of a sc ac X O _ h1).pe (o_of lo sc ac X O _ h2) (o_of hi sc ac X O _ h3))
      · cases h
    · cases h
  | .rev a, sc, ac, X, O, x, h => by
    unfold mE at h
    split at h
    · split at h
      · exact All.val rfl rfl (s_rev (e_of a sc ac X O _ h).pe)
      · cases h
    · cases h
  | .call f es, sc, ac, X, O, x, h => by
    unfold mE at h
    split at h
    · rename_i xf xs kw pos
      split at h
      · split at h
        · rename_i z n hf
          simp only [Bool.and_eq_true, decide_eq_true_eq] at h
          obtain ⟨⟨⟨⟨⟨h1, h2⟩, h3⟩, h4⟩, h5⟩, h6⟩ := h
          subst h1 h3
          obtain ⟨fa, fd, ps, c1, c2, c3, c4⟩ := O.tb.calls f _ _ h2 hf
          obtain ⟨l1, l2, l3⟩ := l_of es sc ac X O _ h6
          obtain ⟨n1, n2, n3⟩ := nm_of h5
          have hx : Passes CX0 X (fun _ _ _ => False) := fun _ _ _ _ _ _ _ h => h.elim
          refine All.val rfl rfl ?_
          cases xs with
          | nil => 
            have : es = [] := List.length_eq_zero_iff.mp (mL_len h6).symm
            subst this
            refine PE.imp (pe_call0 c4 O.room (gl_of O h4) c1 c2 c3 .nil hx n1) fun σ H Q h => ?_
            have := tCall_of (E := fun _ _ _ => False) h
            obtain ⟨H0, F0, ρ, FH, T, I, h⟩ := this
            exact h [] H FH (Same.refl _) I rfl
          | cons x0 xs0 =>
            have h6' := h6
            obtain ⟨h8, es1, h9⟩ := mL_cons h6'
            exact PE.imp (pe_call c4 O.room (gl_of O h4) c1 c2 c3 .nil hx l2 n1 (star_of h8) (star_any h9)) fun σ H Q h => tCall_of h
        · cases h
      · cases h
    · cases h
  | .blt f es, sc, ac, X, O, x, h => by
    unfold mE at h
    split at h
    · rename_i xf xs kw pos
      split at h
      · split at h
        · split at h
          · simp only [Bool.and_eq_true, decide_eq_true_eq] at h
            obtain ⟨⟨⟨⟨⟨h1, h2⟩, h3⟩, h4⟩, h5⟩, h6⟩ := h
            subst h1 h2
            exact All.val rfl rfl (s_lrange O.calm (gl_of O h3) (blt_mem O (by decide)) (gl_of O h4) (blt_mem O (by decide)) (e_of _ sc ac X O _ h6).pe (star_of h5))
          · cases h
        · cases h
        · rename_i _ _ hn1 hn2
          simp only [Bool.and_eq_true, decide_eq_true_eq] at h
          obtain ⟨⟨⟨h1, h2⟩, h3⟩, h4⟩ := h
          subst h1
          have hl : isLrange f = false := by
            cases f <;> first | rfl | exact (hn1 rfl).elim
          obtain ⟨l1, l2, l3⟩ := l_of _ sc ac X O _ h3
          cases xs with
          | nil => cases h4
          | cons x0 xs0 =>
            have h6' := h3
            obtain ⟨h8, es1, h9⟩ := mL_cons h6'
            exact All.val rfl rfl (s_blt hl O.calm (gl_of O h2) (blt_mem O (bfN_mem f)) l2 (star_of h8) (star_any h9))
      · cases h
    · cases h
  | .isi a k, sc, ac, X, O, x, h => by
    unfold mE at h
    split at h
    · split at h
      · simp only [Bool.and_eq_true, decide_eq_true_eq, Bool.not_eq_true', beq_eq_false_iff_ne] at h
        obtain ⟨⟨⟨⟨⟨⟨h1, h2⟩, h3⟩, h4⟩, h5⟩, h6⟩, h7⟩ := h
        subst h1 h2
        obtain ⟨k1, k2, k3, k4⟩ := kd_boot h3
        exact All.val rfl rfl (s_isi h3 k2 k3 k4 (gl_of O h4) (blt_mem O (by decide)) (gl_of O h5) (blt_mem O k1) (e_of a sc ac X O _ h7).pe (star_of h6))
      · cases h
    · cases h
  | .cmpr ow t it ifs e, sc, ac, X, O, x, h => by
    unfold mE at h
    split at h
    · split at h
      · simp only [Bool.and_eq_true, decide_eq_true_eq] at h
        obtain ⟨⟨⟨⟨⟨⟨⟨h1, h2⟩, h3⟩, h4⟩, h5⟩, h6⟩, h7⟩, h8⟩ := h
        have hsub : ∀ i, i ∈ tgs t → i ∈ ow := fun i hi => by simpa using List.all_eq_true.mp h2 i hi
        have hp := pe_lc (own := ownNames Y ow) (pos := by assumption) (g := tG X.K t) (tt := tTs B X.K ifs) (te := tE B X.K e) O.calm O.nd (i_of it sc ac X O _ _ h4) (blkOk_by (by rw [O.N, O.sc]; exact h1)) (fun s H C cl fp => g_of (O.blk s H _ C cl fp) t _ h5)
          (fun s H C cl fp => lt_of ifs (relS _ sc) false _ (O.blk s H _ C cl fp) _ h7 h6) (fun s H C cl fp => (e_of e (relS _ sc) false _ (O.blk s H _ C cl fp) _ h8).pe) (fun v => fold_of h3 v)
        exact All.val rfl rfl (PE.imp hp fun σ H Q h => by rw [own_ix]; exact tLc_of hsub h)
      · cases h
    · cases h
  | .pop a none, sc, ac, X, O, x, h => by
    unfold mE at h
    split at h
    · split at h
      · simp only [Bool.and_eq_true, decide_eq_true_eq] at h
        obtain ⟨⟨⟨h1, h2⟩, h3⟩, h4⟩ := h
        subst h1
        exact All.val rfl rfl (s_pop (e_of a sc ac X O _ h4).pe h2 h3)
      · cases h
    · cases h
  | .pop a (some i), sc, ac, X, O, x, h => by
    unfold mE at h
    split at h
    · split at h
      · simp only [Bool.and_eq_true, decide_eq_true_eq] at h
        obtain ⟨⟨⟨⟨⟨h1, h2⟩, h3⟩, h4⟩, h5⟩, h6⟩ := h
        subst h1
        exact All.val rfl rfl (s_popAt (e_of a sc ac X O _ h5).pe (e_of i sc ac X O _ h6).pe h2 h3 (star_of h4))
      · cases h
    · cases h
  | .index a b, sc, ac, X, O, x, h => by
    unfold mE at h
    split at h
    · split at h
      · simp only [Bool.and_eq_true, decide_eq_true_eq] at h
        obtain ⟨⟨⟨⟨⟨h1, h2⟩, h3⟩, h4⟩, h5⟩, h6⟩ := h
        subst h1
        exact All.val rfl rfl (s_index O.un (e_of a sc ac X O _ h5).pe (e_of b sc ac X O _ h6).pe h2 h3 (star_of h4))
      · cases h
    · cases h
  | .fld a f, sc, ac, X, O, x, h => by unfold mE at h; cases h
theorem l_of : ∀ (es : List E) (sc : Scope) (ac : Bool) (X : Cx) (O : XOk Y B sc ac X) (xs : List Expr), mL Y es sc xs = true → PA X xs (tAF B X.K es) ∧ PA X xs (tAA B X.K es) ∧ PA X xs (tAM B X.K es)
  | [], sc, ac, X, O, xs, h => by
    unfold mL at h
    cases xs with
    | nil => exact ⟨af_nil, aa_nil, am_nil⟩
    | cons _ _ => cases h
  | e :: es, sc, ac, X, O, xs, h => by
    unfold mL at h
    split at h
    · simp only [Bool.and_eq_true] at h
      obtain ⟨⟨h1, h2⟩, h3⟩ := h
      have r := e_of e sc ac X O _ h2
      obtain ⟨l1, l2, l3⟩ := l_of es sc ac X O _ h3
      exact ⟨af_cons r.pe l1 (star_of h1), aa_cons r.pe l2 (star_of h1), am_cons r.pm l3 (star_of h1)⟩
    · cases h
theorem lt_of : ∀ (es : List E) (sc : Scope) (ac : Bool) (X : Cx) (O : XOk Y B sc ac X) (xs : List Expr), mLT Y es sc xs = true → es.length ≤ 1 → PTs X xs (tTs B X.K es)
  | [], sc, ac, X, O, xs, h, _ => by
    unfold mLT at h
    cases xs with
    | nil => exact ts_nil
    | cons _ _ => cases h
  | e :: es, sc, ac, X, O, xs, h, hl => by
    have : es = [] := List.length_eq_zero_iff.mp (by simp only [List.length_cons] at hl; omega)
    subst this
    unfold mLT at h
    split at h
    · simp only [Bool.and_eq_true] at h
      obtain ⟨h1, h2⟩ := h
      unfold mLT at h2
      rename_i x xs
      cases xs with
      | nil => exact ts_one (e_of e sc ac X O _ h1).pt
      | cons _ _ => cases h2
    · cases h
theorem o_of : ∀ (e : Option E) (sc : Scope) (ac : Bool) (X : Cx) (O : XOk Y B sc ac X) (x : Option Expr), mO Y e sc x = true → PO X x (tO B X.K e)
  | none, sc, ac, X, O, x, h => by
    unfold mO at h
    cases x with
    | none => exact o_none
    | some _ => cases h
  | some e, sc, ac, X, O, x, h => by
    unfold mO at h
    split at h
    · exact o_some (e_of e sc ac X O _ h).pe
    · cases h
theorem i_of : ∀ (it : It) (sc : Scope) (ac : Bool) (X : Cx) (O : XOk Y B sc ac X) (tg x : Expr), mI Y it sc tg x = true → PI X tg x (tI B X.K it)
  | .seq e, sc, ac, X, O, tg, x, h => by
    unfold mI at h
    exact i_seq (e_of e sc ac X O _ h).pe
  | .rng1 a, sc, ac, X, O, tg, x, h => by
    unfold mI at h
    split at h
    · split at h
      · simp only [Bool.and_eq_true, decide_eq_true_eq] at h
        obtain ⟨⟨⟨h1, h2⟩, h3⟩, h4⟩ := h
        subst h1
        exact i_rng1 (gl_of O h2) (blt_mem O (by decide)) (e_of a sc ac X O _ h4).pe (star_of h3)
      · cases h
    · cases h
  | .rng2 a b, sc, ac, X, O, tg, x, h => by
    unfold mI at h
    split at h
    · split at h
      · simp only [Bool.and_eq_true, decide_eq_true_eq] at h
        obtain ⟨⟨⟨⟨⟨h1, h2⟩, h3⟩, h4⟩, h5⟩, h6⟩ := h
        subst h1
        exact i_rng2 (gl_of O h2) (blt_mem O (by decide)) (e_of a sc ac X O _ h5).pe (e_of b sc ac X O _ h6).pe (by rw [star_of h3, star_of h4]; rfl) (star_of h4)
      · cases h
    · cases h
  | .rng3 a b c, sc, ac, X, O, tg, x, h => by
    unfold mI at h
    split at h
    · split at h
      · simp only [Bool.and_eq_true, decide_eq_true_eq] at h
        obtain ⟨⟨⟨⟨⟨⟨⟨h1, h2⟩, h3⟩, h4⟩, h5⟩, h6⟩, h7⟩, h8⟩ := h
        subst h1
        exact i_rng3 (gl_of O h2) (blt_mem O (by decide)) (e_of a sc ac X O _ h6).pe (e_of b sc ac X O _ h7).pe (e_of c sc ac X O _ h8).pe (by rw [star_of h3, star_of h4, star_of h5]; rfl) (by rw [star_of h4, star_of h5]; rfl) (star_of h5)
      · cases h
    · cases h
  | .zip a b, sc, ac, X, O, tg, x, h => by
    unfold mI at h
    split at h
    · split at h
      · simp only [Bool.and_eq_true, decide_eq_true_eq] at h
        obtain ⟨⟨⟨⟨⟨⟨h0, h1⟩, h2⟩, h3⟩, h4⟩, h5⟩, h6⟩ := h
        subst h1
        cases tg <;> first | (cases h0; done) | skip
        exact i_zip (gl_of O h2) (blt_mem O (by decide)) (e_of a sc ac X O _ h5).pe (e_of b sc ac X O _ h6).pe (by rw [star_of h3, star_of h4]; rfl) (star_of h4)
      · cases h
    · cases h
  | .enum a, sc, ac, X, O, tg, x, h => by
    unfold mI at h
    split at h
    · split at h
      · simp only [Bool.and_eq_true, decide_eq_true_eq] at h
        obtain ⟨⟨⟨⟨h0, h1⟩, h2⟩, h3⟩, h4⟩ := h
        subst h1
        cases tg <;> first | (cases h0; done) | skip
        exact i_enum (gl_of O h2) (blt_mem O (by decide)) (e_of a sc ac X O _ h4).pe (star_of h3)
      · cases h
    · cases h
end
end
end DY
set_option Elab.async false
set_option linter.all false
set_option maxRecDepth 100000
/-! The matcher is right: statements, defs. -/
namespace DY
open PySem L2
/-- name = [..] on one line -/
def swT (sc : Scope) (y : Str) (py : Pos) : Expr → Bool
  | .ListComp _ _ scope pos => decide (sc.kind = .function) && decide (sc.names.lookup y = some .local) && (py.line == pos.line) && !(scope.names.any fun (n, k) => n == y && (k == .local || k == .cell))
  | _ => false
def notTupX : Expr → Bool
  | .Tuple .. => false
  | _ => true
mutual
def mS (Y : Sy) : S → Scope → Stmt → Bool
  | .set t e, sc, st => match st with
    | .Assign tgs x pos => match tgs with
      | [tg] => match t, tg with
        | .nm i, .Name y py => decide (Y.N[i]? = some y) && tgB sc true y && mE Y e sc x && (!isLC x || swT sc y py x || decide (sc.names.lookup y = some .cell))
        | .tp ts, .Tuple xs _ _ => mTgs Y sc true ts xs && mE Y e sc x && !isLC x && notTupX x
        | _, _ => false
      | _ => false
    | _ => false
  | .par i j a b, sc, st => match st with
    | .Assign [.Tuple [.Name x px, .Name y py] _ _] (.Tuple [xa, xb] _ _) _ => decide (Y.N[i]? = some x) && decide (Y.N[j]? = some y) && !(x == y) && decide (i ≠ j) && decide (sc.names.lookup x = some .local) && decide (sc.names.lookup y = some .local) && decide (sc.kind = .function)
        && (py.line == px.line) && okX xa && okX xb && !([xa, xb].all (foldedForSure 8)) && !([xa, xb].all (constantsAlone 8)) && mE Y a sc xa && mE Y b sc xb
    | _ => false
  | .setIx x k e, sc, st => match st with
    | .Assign [.Subscript xx xk _] xe _ => mE Y x sc xx && mE Y k sc xk && mE Y e sc xe && !isLC xe && noSlice xk
    | _ => false
  | .setKy _ _ _, _, _ => false
  | .app x e, sc, st => match st with
    | .Expr (.Call (.Attribute xx y ap) [xe] [] cp) _ => decide (y = "append") && notCall0 xx && (ap.endLine == cp.line) && okX xe && mE Y x sc xx && mE Y e sc xe
    | _ => false
  | .appK _ _ _, _, _ => false
  | .ext x e, sc, st => match st with
    | .Expr (.Call (.Attribute xx y ap) [xe] [] cp) _ => decide (y = "extend") && notCall0 xx && (ap.endLine == cp.line) && okX xe && mE Y x sc xx && mE Y e sc xe
    | _ => false
  | .clr x, sc, st => match st with
    | .Expr (.Call (.Attribute xx y ap) [] [] cp) _ => decide (y = "clear") && notCall0 xx && (ap.endLine == cp.line) && mE Y x sc xx
    | _ => false
  | .drop e, sc, st => match st with
    | .Expr x _ => !isLC x && mE Y e sc x
    | _ => false
  | .ret e, sc, st => match st with
    | .Return (some x) _ => mE Y e sc x
    | _ => false
  | .ite c a b, sc, st => match st with
    | .If xc xa xb _ => mE Y c sc xc && mSs Y a sc xa && mSs Y b sc xb
    | _ => false
  | .loop t it body, sc, st => match st with
    | .For tg iter xb [] _ => okX iter && mI Y it sc tg iter && mTg Y sc true t tg && mSs Y body sc xb
    | _ => false
  | .whl _ c body, sc, st => match st with
    | .While xc xb [] _ => mE Y c sc xc && mSs Y body sc xb
    | _ => false
  | .raise _ _, _, _ => true
  | .tryX _ _ _ _, _, _ => false
  | .pass, _, st => match st with
    | .Pass _ => true
    | .Expr (.Constant (.str _) _ _) _ => true
    | _ => false
def mSs (Y : Sy) : List S → Scope → List Stmt → Bool
  | [], _, xs => xs.isEmpty
  | s :: ss, sc, xs => match xs with
    | x :: xs => mS Y s sc x && mSs Y ss sc xs
    | _ => false
end
section
variable {Y : Sy} {B : Tb} {sc : Scope} {X : Cx}
theorem swap_cell {x : Expr} {y : Str} {py : Pos} {l : Nat} {env : Env} (h : env.scope.names.lookup y = some .cell) : swapsWith x (some (.Name y py)) l env = pure false := by
  have hk : env.kindOf y = some .cell := h
  cases x <;> first | rfl | (unfold swapsWith; simp only [hk]; rw [Bool.and_assoc, Bool.and_assoc]; rw [show (some NameKind.cell == some NameKind.local) = false from rfl, Bool.false_and, Bool.and_false])
theorem sole_of {x t : Expr} {l : Nat} {env : Env} (h : isLC x = false) : swapsWithSole [t] x l env = pure false := by
  unfold swapsWithSole
  exact noswap_of h
theorem swaps_none {tg x : Expr} {env : Env} (h : notTupX x = true) : swappedStores [tg] x env = pure none := by
  cases x <;> first | (cases h; done) | (unfold swappedStores; cases tg <;> rfl)
theorem lc_ps {i : Nat} {y : Str} {py pos : Pos} {e : E} {x : Expr} (O : XOk Y B sc true X) (hi : Y.N[i]? = some y) (hm : mE Y e sc x = true) (hs : swT sc y py x = true) : PS X (.Assign [.Name y py] x pos) (tS B X.K (.set (.nm i) e)) := by
  cases x <;> first | (cases hs; done) | skip
  rename_i xe gs scope p
  simp only [swT, Bool.and_eq_true, decide_eq_true_eq, Bool.not_eq_true'] at hs
  obtain ⟨⟨⟨hk, hl⟩, hln⟩, hany⟩ := hs
  cases e <;> first | (unfold mE at hm; cases hm; done) | (rename_i a i; cases i <;> (unfold mE at hm; cases hm; done)) | skip
  rename_i ow t it ifs e
  unfold mE at hm
  simp only at hm
  split at hm
  · simp only [Bool.and_eq_true, decide_eq_true_eq] at hm
    obtain ⟨⟨⟨⟨⟨⟨⟨h1, h2⟩, h3⟩, h4⟩, h5⟩, h6⟩, h7⟩, h8⟩ := hm
    have hsub : ∀ i, i ∈ tgs t → i ∈ ow := fun i hi => by simpa using List.all_eq_true.mp h2 i hi
    have hp := ps_setLc (own := ownNames Y ow) (pos := p) (spos := pos) (py := py) (i := i) (g := tG X.K t) (tt := tTs B X.K ifs) (te := tE B X.K e) O.calm O.nd (by rw [O.N]; exact hi) (by rw [O.sc]; exact hl)
      (sw_true (by rw [O.sc]; exact hk) (by rw [O.sc]; exact hl) hln hany) (i_of it sc true X O _ _ h4) (blkOk_by (by rw [O.N, O.sc]; exact h1)) (fun s H C cl fp => g_of (O.blk s H _ C cl fp) t _ h5)
      (fun s H C cl fp => lt_of ifs (relS _ sc) false _ (O.blk s H _ C cl fp) _ h7 h6) (fun s H C cl fp => (e_of e (relS _ sc) false _ (O.blk s H _ C cl fp) _ h8).pe) (fun v => fold_of h3 v)
    refine PS.imp hp fun D σ H h => ?_
    have := setNm h
    rw [own_ix]
    exact tLc_of hsub this
  · cases hm
theorem par_swap {x y : Str} {px py pt : Pos} {kt k2 : Nat} {pt2 : Pos} {a b : Expr} {env : Env} (hk : env.scope.kind = .function) (hx : env.scope.names.lookup x = some .local) (hy : env.scope.names.lookup y = some .local) (hxy : (x == y) = false) (hl : (py.line == px.line) = true)
    (ha : okX a = true) (hb : okX b = true) (h1 : [a, b].all (foldedForSure 8) = false) (h2 : [a, b].all (constantsAlone 8) = false) :
    swappedStores [.Tuple [.Name x px, .Name y py] kt pt] (.Tuple [a, b] k2 pt2) env = pure (some [x, y]) := by
  have kx : env.kindOf x = some .local := hx
  have ky : env.kindOf y = some .local := hy
  have hb2 : env.blockKind = .function := by unfold Env.blockKind; rw [hk]; rfl
  have hst : ([a, b].any fun | .Starred .. => true | _ => false) = false := by
    cases a <;> cases b <;> first | (cases ha; done) | (cases hb; done) | rfl
  have hne : x ≠ y := by simpa using hxy
  have he : List.eraseDups [x, y] = [x, y] := by
    have : (y == x) = false := by simpa using fun z => hne z.symm
    simp [List.eraseDups_cons, this]
  have h1' : (List.all [a, b] (foldedForSure 8)) = false := h1
  unfold swappedStores
  simp only [hb2, hst, h1, h2, List.head?_cons, Option.map_some, Option.getD_some, Expr.pos, List.filterMap_cons, List.filterMap_nil, kx, ky, hl, he]
  simp [hl, kx, ky, he]
  intro h
  exfalso
  rcases h with h | h
  · cases a <;> first | (cases ha; done) | (cases h; done)
  · cases b <;> first | (cases hb; done) | (cases h; done)
theorem st_setIx {x k e : E} {xx xk xe : Expr} {sp pos : Pos} (rx : PE X xx (tE B X.K x)) (rk : PE X xk (tE B X.K k)) (re : PE X xe (tE B X.K e)) (hxk : noSlice xk = true) (hs : swapsWithSole [.Subscript xx xk sp] xe pos.line X.env = pure false) :
    PS X (.Assign [.Subscript xx xk sp] xe pos) (tS B X.K (.setIx x k e)) := by
  refine PS.imp (ps_asg re (pg_sub rx rk set_list (fun v => by cases xk <;> first | (cases hxk; done) | rfl)) hs (by cases xe <;> rfl)) fun Dn σ H ⟨H0, F0, ρ, FH, I, h⟩ => ?_
  simp only [ex, Gs_bnd, Gs_lift] at h
  refine go I h fun u1 ρ1 x1 H1 FH1 h s1 I1 p1 => go I1 h fun u2 ρ2 x2 H2 FH2 h s2 I2 p2 => go I2 h fun u3 ρ3 x3 H3 FH3 h s3 I3 p3 => ?_
  obtain ⟨i, e1, ⟨d, ρ4⟩, e2, h⟩ := h
  have ei := I3.int p3 e1
  obtain ⟨F4, s4, I4, r4⟩ := InvA.frz (T := []) (InvA.dropV I3.dropV) ((p1.mono s2).mono s3) e2
  simp only at h
  cases e3 : look ρ4 u2 with
  | none => rw [e3] at h; exact h.elim
  | some b =>
    rw [e3] at h
    cases b <;> first | exact (show False from h).elim | skip
    rename_i ds
    simp only [Gs_lift] at h
    obtain ⟨n, e4, ρ5, e5, hf⟩ := h
    obtain ⟨j, p, rfl⟩ := wrt_pl e5
    obtain ⟨b, xs, ex, hH, r, wr⟩ := InvA.ownL (T := []) I4 ((p2.mono s3).mono s4) e3
    exact ⟨b, xs, i, n, ex, ei, hH, by rw [r.len]; exact e4, hf _ _ _ ((s1.trans s2).trans (s3.trans s4)) (wr _ _ ρ5 (r.set n r4) e5)⟩
mutual
theorem st_of (O : XOk Y B sc true X) (hp : PassesOwn (model X.prog X.w) X.A X.env X.xe) : ∀ (s : S) (st : Stmt), mS Y s sc st = true → PS X st (tS B X.K s)
  | .set t e, st, h => by
    unfold mS at h
    split at h
    · split at h
      · split at h
        · simp only [Bool.and_eq_true, decide_eq_true_eq, Bool.or_eq_true, Bool.not_eq_true'] at h
          obtain ⟨⟨⟨h1, h2⟩, h3⟩, h4⟩ := h
          obtain ⟨l1, l2⟩ := tg_of O h2
          have r := (e_of e sc true X O _ h3).pe
          rcases h4 with (h4 | h4) | h4
          · exact st_set O.nd (by rw [O.N]; exact h1) l1 r (noswap_of h4) l2
          · exact lc_ps O h1 h3 h4
          · exact st_set O.nd (by rw [O.N]; exact h1) l1 r (swap_cell (by rw [O.sc]; exact h4)) l2
        · simp only [Bool.and_eq_true, Bool.not_eq_true'] at h
          obtain ⟨⟨⟨h1, h2⟩, h3⟩, h4⟩ := h
          obtain ⟨g1, g2, g3⟩ := gs_of O _ _ h1
          have r := (e_of e sc true X O _ h2).pe
          exact st_asg ⟨_, rfl⟩ r (g_tp O.calm g1 g2 g3) (sole_of h3) (swaps_none h4) (ps_asg r (g_tp O.calm g1 g2 g3) (sole_of h3) (swaps_none h4))
        · cases h
      · cases h
    · cases h
  | .par i j a b, st, h => by
    unfold mS at h
    split at h
    · simp only [Bool.and_eq_true, decide_eq_true_eq, Bool.not_eq_true'] at h
      obtain ⟨⟨⟨⟨⟨⟨⟨⟨⟨⟨⟨⟨⟨h1, h2⟩, h3⟩, h4⟩, h5⟩, h6⟩, h7⟩, h8⟩, h9⟩, h10⟩, h11⟩, h12⟩, h13⟩, h14⟩ := h
      have ra := (e_of a sc true X O _ h13).pe
      have rb := (e_of b sc true X O _ h14).pe
      exact st_par (ps_par O.calm O.nd (by rw [O.N]; exact h1) (by rw [O.N]; exact h2) h4 (by rw [O.sc]; exact h5) (by rw [O.sc]; exact h6) (af_cons ra (af_cons rb af_nil (star_of h10)) (star_of h9))
        (par_swap (by rw [O.sc]; exact h7) (by rw [O.sc]; exact h5) (by rw [O.sc]; exact h6) h3 h8 h9 h10 h11 h12) (by rfl))
    · cases h
  | .setIx x k e, st, h => by
    unfold mS at h
    split at h
    · simp only [Bool.and_eq_true, Bool.not_eq_true'] at h
      obtain ⟨⟨⟨⟨h1, h2⟩, h3⟩, h4⟩, h5⟩ := h
      have rx := (e_of x sc true X O _ h1).pe
      have rk := (e_of k sc true X O _ h2).pe
      have re := (e_of e sc true X O _ h3).pe
      exact st_setIx rx rk re h5 (sole_of h4)
    · cases h
  | .setKy _ _ _, _, h => by unfold mS at h; cases h
  | .app x e, st, h => by
    unfold mS at h
    split at h
    · simp only [Bool.and_eq_true, decide_eq_true_eq] at h
      obtain ⟨⟨⟨⟨⟨h1, h2⟩, h3⟩, h4⟩, h5⟩, h6⟩ := h
      subst h1
      exact st_app (e_of x sc true X O _ h5).pe (e_of e sc true X O _ h6).pe h2 h3 (star_of h4)
    · cases h
  | .appK _ _ _, _, h => by unfold mS at h; cases h
  | .ext x e, st, h => by
    unfold mS at h
    split at h
    · simp only [Bool.and_eq_true, decide_eq_true_eq] at h
      obtain ⟨⟨⟨⟨⟨h1, h2⟩, h3⟩, h4⟩, h5⟩, h6⟩ := h
      subst h1
      exact st_ext (e_of x sc true X O _ h5).pe (e_of e sc true X O _ h6).pe h2 h3 (star_of h4)
    · cases h
  | .clr x, st, h => by
    unfold mS at h
    split at h
    · simp only [Bool.and_eq_true, decide_eq_true_eq] at h
      obtain ⟨⟨⟨h1, h2⟩, h3⟩, h4⟩ := h
      subst h1
      exact st_clr (e_of x sc true X O _ h4).pe h2 h3
    · cases h
  | .drop e, st, h => by
    unfold mS at h
    split at h
    · simp only [Bool.and_eq_true, Bool.not_eq_true'] at h
      exact st_drop (e_of e sc true X O _ h.2).pe (noswap_of h.1)
    · cases h
  | .ret e, st, h => by
    unfold mS at h
    split at h
    · exact st_ret (e_of e sc true X O _ h).pm
    · cases h
  | .ite c a b, st, h => by
    unfold mS at h
    split at h
    · simp only [Bool.and_eq_true] at h
      obtain ⟨⟨h1, h2⟩, h3⟩ := h
      exact st_ite (e_of c sc true X O _ h1).pt (sts_of O hp a _ h2) (sts_of O hp b _ h3)
    · cases h
  | .loop t it body, st, h => by
    unfold mS at h
    split at h
    · simp only [Bool.and_eq_true] at h
      obtain ⟨⟨⟨h1, h2⟩, h3⟩, h4⟩ := h
      exact st_for hp O.calm (i_of it sc true X O _ _ h2) (g_of O t _ h3) (sts_of O hp body _ h4) (fun v => fold_of h1 v)
    · cases h
  | .whl m c body, st, h => by
    unfold mS at h
    split at h
    · simp only [Bool.and_eq_true] at h
      exact st_whl hp (e_of c sc true X O _ h.1).pt (sts_of O hp body _ h.2)
    · cases h
  | .raise _ _, st, _ => st_raise
  | .tryX _ _ _ _, _, h => by unfold mS at h; cases h
  | .pass, st, h => by
    unfold mS at h
    split at h
    · exact st_pass
    · exact st_doc
    · cases h
theorem sts_of (O : XOk Y B sc true X) (hp : PassesOwn (model X.prog X.w) X.A X.env X.xe) : ∀ (ss : List S) (sts : List Stmt), mSs Y ss sc sts = true → PSs X sts (tSs B X.K ss)
  | [], sts, h => by
    unfold mSs at h
    cases sts with
    | nil => exact ss_nil
    | cons _ _ => cases h
  | s :: ss, sts, h => by
    unfold mSs at h
    split at h
    · simp only [Bool.and_eq_true] at h
      exact ss_cons (st_of O hp s _ h.1) (sts_of O hp ss _ h.2)
    · cases h
end
end
/-! ### defs -/
section
variable {P : Program} {w : World} {K : Fg} {mg : Str → Option Value} {base : Heap} {Y : Sy} {B : Tb}
theorem InvA.clear {H0 F0 FH H : Hp} {ρ : Ev} {T : List (V × AV)} {σ : L2.St} (I : InvA K H0 F0 ρ FH T σ H) : InvA K H0 F0 [] FH T [] H := by
  obtain ⟨ow, O⟩ := I.own
  exact ⟨I.sub, I.tup, I.ext, I.fsub, I.fnew, rfl, ow, ⟨O.out, fun i a e => by simp at e, O.tmps⟩⟩
theorem start_inv {FH H : Hp} {N : List Str} {ds : List D} {vs : List V} (s : Same FH H) (st : ∀ b o, H b = some o → still o → FH b = some o) (r : RepL K FH ds vs) :
    InvA K H FH (ds.map (fun d => some (.fz d)) ++ List.replicate (N.length - ds.length) none) FH [] (L2.start N vs) H := by
  refine ⟨s, st, Same.refl _, Same.refl _, fun b o e => .inr (.inl e), by unfold L2.start; simp [r.len], fun _ => none, ⟨(fun a x e => by cases e), fun i a e => ?_, trivial⟩⟩
  by_cases hi : i < ds.length
  · rw [List.getElem?_append_left (by simpa using hi), List.getElem?_map] at e
    cases hd : ds[i]? with
    | none => rw [hd] at e; cases e
    | some d =>
      rw [hd] at e
      cases e
      obtain ⟨v, h1, h2⟩ := r.get hd
      refine ⟨v, ?_, h2⟩
      unfold L2.start
      rw [List.getElem?_append_left (by rw [List.length_map, r.len]; exact hi), List.getElem?_map, h1]
      rfl
  · rw [List.getElem?_append_right (by simpa using hi), List.getElem?_replicate] at e
    split at e <;> cases e
theorem def_ok {x qual : Str} {params : Arguments} {body : List Stmt} {scope : Scope} {f : Addr} {fd : FuncData} {ps : List Str} {ss : List S} (F : FunD K x qual params body scope [] [] f fd) (S : FnScope Y.N ps scope)
    (hm : mSs Y ss scope body = true) (T : TbOk Y B P w K mg base) : FnOk P w K mg base CX0 (Y.lv + 1) f fd ps (spV K ps.length (run B.C B.G B.above Y.N.length ss)) := by
  refine F.ok S (fun vs H Q E h => h.1) fun cdv A outer s H vs Q E hr h => ?_
  obtain ⟨hn, FH, ds, av, sF, st, r, hF, hq⟩ := h
  have O : XOk Y B scope true (cxOf CX0 P w K mg base Y.N qual scope f cdv A outer s H E) := ⟨rfl, rfl, S.nd, rfl, (by have := hr.un; show (A.deeper (PyProof.Rows.envOfC qual scope s.heap.objs.size f cdv)).units + 65 < cLine; omega), hr, fun _ _ => rfl, T⟩
  refine ⟨_, sts_of O PassesOwn.leaving ss body hm, H, FH, _, FH, start_inv sF st r, ?_⟩
  unfold run at hF
  cases e : exs B.C B.G B.above ss (ds.map (fun d => some (.fz d)) ++ List.replicate (Y.N.length - ds.length) none) with
  | er x r => rw [e] at hF; cases hF
  | no => rw [e] at hF; cases hF
  | ok o =>
    rw [e] at hF
    cases o with
    | nx ρ' =>
      cases hF
      intro σ' H' F' s' J
      exact hq .non H' F' (InvA.clear (InvA.push J rfl))
    | rt a =>
      cases hF
      intro v σ' ρ' H' F' s' J
      exact hq v H' F' (InvA.clear J)
end
end DY
set_option Elab.async false
set_option linter.all false
set_option maxRecDepth 100000
/-! All defs of a text together. -/
namespace DY
open PySem L2
section
variable {G : Nat → Option D} {above : Hier} {Ds : List Df}
structure DOk (K : Fg) (mg : Str → Option Value) (fnT : List (Str × Nat)) (cn : List Str) (i : Nat) (d : Df) (f : Addr) (fd : FuncData) : Prop where
  ex : ∃ (x qual : Str) (params : Arguments) (body : List Stmt) (scope : Scope), fnT[i]? = some (x, d.ps.length) ∧ mg x = some (.ref f) ∧ FunD K x qual params body scope [] [] f fd ∧ FnScope d.N d.ps scope ∧ mSs ⟨d.N, fnT, cn, i⟩ d.body scope body = true
  kp : PySem.W.keepIn K (.ref f) = true
  bi : Binds K fd d.ps []
theorem all_ok {P : Program} {w : World} {K : Fg} {mg : Str → Option Value} {base : Heap} {fnT : List (Str × Nat)} {cn : List Str} (hl : fnT.length = Ds.length)
    (hd : ∀ i d, Ds[i]? = some d → ∃ f fd, DOk K mg fnT cn i d f fd) (hc : ∀ i x d, cn[i]? = some x → G i = some d → ∃ v u, mg x = some u ∧ RelV v u ∧ Rep K (fun _ => none) d v) (hb : ∀ x ∈ bltNames, mg x = none) :
    ∀ i d, Ds[i]? = some d → ∀ f fd, DOk K mg fnT cn i d f fd → FnOk P w K mg base CX0 (i + 1) f fd d.ps (spV K d.ps.length (Fn G above Ds i)) := by
  intro i
  induction i using Nat.strongRecOn with
  | ind i ih =>
    intro d h f fd D
    obtain ⟨x, qual, params, body, scope, e1, e2, F, S, m⟩ := D.ex
    rw [Fn_at h]
    refine def_ok (Y := ⟨d.N, fnT, cn, i⟩) (B := ⟨Cs G above Ds i, G, above, fnT, cn⟩) F S m ⟨fun j y n hj hy => ?_, hc, hb⟩
    have hj : j < i := hj
    have hjl : j < Ds.length := by rw [← hl]; exact (List.getElem?_eq_some_iff.mp hy).1
    obtain ⟨g, gd, D'⟩ := hd j _ (List.getElem?_eq_getElem hjl)
    have r := ih j hj _ (List.getElem?_eq_getElem hjl) g gd D'
    obtain ⟨x', q', p', b', s', k1, k2, _⟩ := D'.ex
    have e3 : (x', Ds[j].ps.length) = (y, n) := Option.some.inj (k1.symm.trans hy)
    cases e3
    refine ⟨g, gd, Ds[j].ps, k2, D'.kp, D'.bi, ?_⟩
    have r2 := r.mono (show j + 1 ≤ i from hj)
    rw [← Cs_Fn (i := i) hj] at r2
    exact r2
/-- the law's own promise, at a script -/
theorem law_sp {K : Fg} {F : List D → R AV} {H : Hp} {a : Addr} {ns : List Int} {E : XK} (hS : SqL K H a (ns.map V.int)) (h : F [.scr ns] = .ok (.fz (.bl true))) : spV K 1 F [.ref a] H (fun v _ => v = .bl true) E := by
  refine ⟨rfl, H, [.scr ns], _, Same.refl _, fun _ _ e _ => e, ⟨.ref a, [], rfl, ⟨a, rfl, hS⟩, rfl⟩, h, fun v H' FH' J => ?_⟩
  obtain ⟨ow, O⟩ := J.own
  exact O.tmps.1
end
end DY
set_option Elab.async false
set_option linter.all false
set_option maxRecDepth 100000
/-! Numbers: bounds, fractions. -/
namespace DY
/-- fewer than n bits -/
def Bt (n : Nat) (x : Int) : Prop := x.natAbs < 2 ^ n
theorem Bt.le {m n : Nat} {x : Int} (h : Bt m x) (hl : m ≤ n) : Bt n x := Nat.lt_of_lt_of_le h (Nat.pow_le_pow_right (by omega) hl)
theorem Bt.mul {m n : Nat} {x y : Int} (h : Bt m x) (g : Bt n y) : Bt (m + n) (x * y) := by
  unfold Bt at *
  rw [Int.natAbs_mul, Nat.pow_add]
  exact Nat.mul_lt_mul'' h g
theorem Bt.add {m n : Nat} {x y : Int} (h : Bt m x) (g : Bt n y) : Bt (max m n + 1) (x + y) := by
  have h1 : Bt (max m n) x := h.le (by omega)
  have h2 : Bt (max m n) y := g.le (by omega)
  unfold Bt at *
  rw [Nat.pow_succ]
  omega
theorem Bt.neg {m : Nat} {x : Int} (h : Bt m x) : Bt m (-x) := by unfold Bt at *; rwa [Int.natAbs_neg]
theorem Bt.sub {m n : Nat} {x y : Int} (h : Bt m x) (g : Bt n y) : Bt (max m n + 1) (x - y) := Bt.add h g.neg
theorem Bt.of_abs {m : Nat} {x y : Int} (h : Bt m x) (hy : y.natAbs ≤ x.natAbs) : Bt m y := Nat.lt_of_le_of_lt hy h
theorem Bt.log {m : Nat} {x : Int} (h : Bt m x) (h0 : 0 < m) : x.natAbs.log2 < m := by
  by_cases hx : x.natAbs = 0
  · rw [hx]; simpa using h0
  · exact (Nat.log2_lt hx).mpr h
theorem mulOk_of {m n : Nat} {x y : Int} (h : Bt m x) (g : Bt n y) (hl : m + n + 2 ≤ 1000000) : mulOk x y := by
  have h1 := (h.le (show m ≤ m + 1 by omega)).log (by omega)
  have h2 := (g.le (show n ≤ n + 1 by omega)).log (by omega)
  unfold mulOk
  omega
theorem divOk_of {n : Nat} {y : Int} (g : Bt n y) (hl : n < 9000) (h0 : y ≠ 0) : divOk y := by
  have h2 := (g.le (show n ≤ n + 1 by omega)).log (by omega)
  exact ⟨h0, by omega⟩

/-! ### the greatest divisor -/
theorem gcd_fmod (a b : Int) : Int.gcd b (a.fmod b) = Int.gcd a b := by
  have h : a.fmod b = a - b * a.fdiv b := by
    have := Int.mul_fdiv_add_fmod a b
    omega
  rw [h, Int.gcd_comm a b]
  have : a - b * a.fdiv b = a + b * (-(a.fdiv b)) := by rw [Int.mul_neg]; omega
  rw [this]
  exact Int.gcd_add_mul_left_right b a _
theorem fmod_abs (a b : Int) (h : b ≠ 0) : (a.fmod b).natAbs < b.natAbs := by
  have h1 := Int.emod_nonneg a h
  have h2 := Int.emod_lt a h
  rw [Int.fmod_eq_emod]
  split
  · omega
  · rename_i hc
    have h3 : a % b ≠ 0 := fun z => hc (.inr (Int.dvd_of_emod_eq_zero z))
    have h4 : ¬ 0 ≤ b := fun z => hc (.inl z)
    omega

/-! ### fractions -/
def rt (q : Rat) : D := .tup [.int q.num, .int q.den]
structure Bq (n : Nat) (q : Rat) : Prop where
  num : Bt n q.num
  den : Bt n q.den

theorem rt_divInt {t b : Int} (h : b ≠ 0) : rt (Rat.divInt t b) = .tup [.int (t.fdiv (if b < 0 then -(Int.gcd t b : Int) else (Int.gcd t b : Int))), .int (b.fdiv (if b < 0 then -(Int.gcd t b : Int) else (Int.gcd t b : Int)))] := by
  have hg : (Int.gcd t b : Int) ≠ 0 := by
    intro z
    have : Int.gcd t b = 0 := by exact_mod_cast z
    exact h (Int.gcd_eq_zero_iff.mp this).2
  have hg0 : (0 : Int) < Int.gcd t b := by omega
  have d1 : (Int.gcd t b : Int) ∣ t := Int.gcd_dvd_left t b
  have d2 : (Int.gcd t b : Int) ∣ b := Int.gcd_dvd_right t b
  obtain ⟨x, hx⟩ := d1
  obtain ⟨y, hy⟩ := d2
  generalize hG : (Int.gcd t b : Int) = g at *
  have n1 : (Rat.divInt t b).num = b.sign * t / g := by rw [Rat.num_divInt, Int.gcd_comm b t, hG]
  have n2 : ((Rat.divInt t b).den : Int) = (b.natAbs : Int) / g := by
    rw [Rat.den_divInt, if_neg h, Int.gcd_comm b t, ← hG]
    exact Int.natCast_ediv _ _
  have f1 : ∀ z : Int, (g * z).fdiv g = z := fun z => Int.mul_fdiv_cancel_left z hg
  have f2 : ∀ z : Int, (g * z).fdiv (-g) = -z := fun z => by
    have := Int.mul_fdiv_cancel_left (-z) (a := -g) (by omega)
    rw [Int.neg_mul_neg] at this
    exact this
  unfold rt
  rw [n1, n2]
  by_cases hb : b < 0
  · rw [if_pos hb, Int.sign_eq_neg_one_of_neg hb]
    have e1 : -1 * t = g * (-x) := by rw [hx, Int.mul_neg]; omega
    have e2 : (b.natAbs : Int) = g * (-y) := by rw [Int.mul_neg, ← hy]; omega
    rw [e1, e2, Int.mul_ediv_cancel_left _ hg, Int.mul_ediv_cancel_left _ hg]
    have e3 : t.fdiv (-g) = -x := by rw [hx]; exact f2 x
    have e4 : b.fdiv (-g) = -y := by rw [hy]; exact f2 y
    rw [e3, e4]
  · rw [if_neg hb, Int.sign_eq_one_of_pos (by omega)]
    have e1 : 1 * t = g * x := by rw [hx]; omega
    have e2 : (b.natAbs : Int) = g * y := by rw [← hy]; omega
    rw [e1, e2, Int.mul_ediv_cancel_left _ hg, Int.mul_ediv_cancel_left _ hg]
    have e3 : t.fdiv g = x := by rw [hx]; exact f1 x
    have e4 : b.fdiv g = y := by rw [hy]; exact f1 y
    rw [e3, e4]
theorem Bq.divInt {m n : Nat} {t b : Int} (ht : Bt m t) (hb : Bt n b) (h : b ≠ 0) : Bq (max m n) (Rat.divInt t b) := by
  have hg : 0 < Int.gcd b t := Nat.pos_of_ne_zero fun z => h (Int.gcd_eq_zero_iff.mp z).1
  constructor
  · refine (ht.le (show m ≤ max m n by omega)).of_abs ?_
    rw [Rat.num_divInt, Int.natAbs_ediv_of_dvd (Int.dvd_trans (Int.gcd_dvd_right b t) (Int.dvd_mul_left _ _))]
    refine Nat.le_trans (Nat.div_le_self _ _) ?_
    rw [Int.natAbs_mul, Int.natAbs_sign_of_ne_zero h, Nat.one_mul]
    exact Nat.le_refl _
  · refine (hb.le (show n ≤ max m n by omega)).of_abs ?_
    rw [Rat.den_divInt, if_neg h, Int.natAbs_natCast]
    exact Nat.div_le_self _ _
section
variable {m n : Nat} {p q : Rat}
theorem den0 (q : Rat) : (q.den : Int) ≠ 0 := by have := q.den_pos; omega
theorem add_rt : Rat.divInt (p.num * q.den + q.num * p.den) (p.den * q.den) = p + q := by
  rw [Rat.add_def', ← Int.natCast_mul, Rat.divInt_ofNat]
theorem sub_rt : Rat.divInt (p.num * q.den - q.num * p.den) (p.den * q.den) = p - q := by
  rw [Rat.sub_def', ← Int.natCast_mul, Rat.divInt_ofNat]
theorem mul_rt : Rat.divInt (p.num * q.num) (p.den * q.den) = p * q := by
  rw [Rat.mul_def', ← Int.natCast_mul, Rat.divInt_ofNat]
theorem div_rt : Rat.divInt (p.num * q.den) (p.den * q.num) = p / q := by
  rw [Rat.div_def, Rat.inv_def, ← Rat.divInt_mul_divInt, Rat.num_divInt_den]
theorem Bq.le {m n : Nat} {q : Rat} (h : Bq m q) (hl : m ≤ n) : Bq n q := ⟨h.num.le hl, h.den.le hl⟩
theorem Bq.add (hp : Bq m p) (hq : Bq n q) : Bq (m + n + 1) (p + q) := by
  rw [← add_rt]
  exact (Bq.divInt ((hp.num.mul hq.den).add (hq.num.mul hp.den)) (hp.den.mul hq.den) (Int.mul_ne_zero (den0 p) (den0 q))).le (by omega)
theorem Bq.sub (hp : Bq m p) (hq : Bq n q) : Bq (m + n + 1) (p - q) := by
  rw [← sub_rt]
  exact (Bq.divInt ((hp.num.mul hq.den).sub (hq.num.mul hp.den)) (hp.den.mul hq.den) (Int.mul_ne_zero (den0 p) (den0 q))).le (by omega)
theorem Bq.mul (hp : Bq m p) (hq : Bq n q) : Bq (m + n) (p * q) := by
  rw [← mul_rt]
  exact (Bq.divInt (hp.num.mul hq.num) (hp.den.mul hq.den) (Int.mul_ne_zero (den0 p) (den0 q))).le (by omega)
theorem Bq.div (hp : Bq m p) (hq : Bq n q) (h : q ≠ 0) : Bq (m + n) (p / q) := by
  rw [← div_rt]
  exact (Bq.divInt (hp.num.mul hq.den) (hp.den.mul hq.num) (Int.mul_ne_zero (den0 p) (fun z => h (Rat.num_eq_zero.mp z)))).le (by omega)
theorem Bq.int {x : Int} (h : Bt n x) : Bq (n + 1) (x : Rat) := ⟨by rw [Rat.num_intCast]; exact h.le (by omega), by rw [Rat.den_intCast]; unfold Bt; rw [Nat.pow_succ]; have := Nat.one_le_two_pow (n := n); omega⟩
theorem rt_int (x : Int) : rt (x : Rat) = .tup [.int x, .int 1] := by unfold rt; rw [Rat.num_intCast, Rat.den_intCast]; rfl
end

/-! ### loops -/
def body1 (C : Nat → List D → R AV) (G : Nat → Option D) (above : Hier) (t : Tg) (body : List S) : D → Ev → R Out := fun d ρ => match asg t d ρ with
  | some ρ' => exs C G above body ρ'
  | none => .no
theorem ex_loop {C : Nat → List D → R AV} {G : Nat → Option D} {above : Hier} {t : Tg} {it : It} {body : List S} {ρ ρ1 : Ev} {ds : List D} (h : evI C G above it ρ = .ok (ds, ρ1)) : ex C G above (.loop t it body) ρ = loopL (body1 C G above t body) ds ρ1 := by
  simp only [ex]; rw [h]; rfl
theorem loop_find {α : Type} {f : D → Ev → R Out} {g : α → D} {p : α → Bool} {r : α → AV} {ok : α → Prop} (I : Ev → Prop)
    (h1 : ∀ a ρ, ok a → I ρ → p a = true → f (g a) ρ = .ok (.rt (r a))) (h2 : ∀ a ρ, ok a → I ρ → p a = false → ∃ ρ', f (g a) ρ = .ok (.nx ρ') ∧ I ρ') :
    ∀ (xs : List α) (ρ : Ev), (∀ a ∈ xs, ok a) → I ρ → (∀ a, xs.find? p = some a → loopL f (xs.map g) ρ = .ok (.rt (r a))) ∧ (xs.find? p = none → ∃ ρ', loopL f (xs.map g) ρ = .ok (.nx ρ') ∧ I ρ')
  | [], ρ, _, i => ⟨fun a h => by simp at h, fun _ => ⟨ρ, rfl, i⟩⟩
  | x :: xs, ρ, ho, i => by
    rw [List.map_cons, List.find?_cons]
    cases hp : p x with
    | true =>
      refine ⟨fun a h => ?_, fun h => by simp at h⟩
      simp only [Option.some.injEq] at h
      subst h
      simp only [loopL]
      rw [h1 x ρ (ho x (by simp)) i hp]
    | false =>
      obtain ⟨ρ', e, i'⟩ := h2 x ρ (ho x (by simp)) i hp
      obtain ⟨q1, q2⟩ := loop_find I h1 h2 xs ρ' (fun a ha => ho a (by simp [ha])) i'
      refine ⟨fun a h => ?_, fun h => ?_⟩
      · simp only [loopL]; rw [e]; exact q1 a h
      · obtain ⟨ρ2, k1, k2⟩ := q2 h
        exact ⟨ρ2, by simp only [loopL]; rw [e]; exact k1, k2⟩
theorem loop_fold {α β : Type} {f : D → Ev → R Out} {g : α → D} {ok : α → Prop} (st : β → Ev → Prop) (step : β → α → β)
    (h : ∀ b a ρ, ok a → st b ρ → ∃ ρ', f (g a) ρ = .ok (.nx ρ') ∧ st (step b a) ρ') : ∀ (xs : List α) (b : β) (ρ : Ev), (∀ a ∈ xs, ok a) → st b ρ → ∃ ρ', loopL f (xs.map g) ρ = .ok (.nx ρ') ∧ st (xs.foldl step b) ρ'
  | [], b, ρ, _, i => ⟨ρ, rfl, i⟩
  | x :: xs, b, ρ, ho, i => by
    obtain ⟨ρ1, e, i1⟩ := h b x ρ (ho x (by simp)) i
    obtain ⟨ρ2, k1, k2⟩ := loop_fold st step h xs (step b x) ρ1 (fun a ha => ho a (by simp [ha])) i1
    exact ⟨ρ2, by rw [List.map_cons]; simp only [loopL]; rw [e]; exact k1, k2⟩

theorem loop_foldi {α β : Type} {f : D → Ev → R Out} {g : α → D} {ok : α → Prop} (N : Nat) (st : Nat → β → Ev → Prop) (step : β → α → β)
    (h : ∀ i b a ρ, i < N → ok a → st i b ρ → ∃ ρ', f (g a) ρ = .ok (.nx ρ') ∧ st (i + 1) (step b a) ρ') : ∀ (xs : List α) (i : Nat) (b : β) (ρ : Ev), i + xs.length = N → (∀ a ∈ xs, ok a) → st i b ρ → ∃ ρ', loopL f (xs.map g) ρ = .ok (.nx ρ') ∧ st N (xs.foldl step b) ρ'
  | [], i, b, ρ, hn, _, s => ⟨ρ, rfl, by have : i = N := by simpa using hn
                                         subst this; exact s⟩
  | x :: xs, i, b, ρ, hn, ho, s => by
    rw [List.length_cons] at hn
    obtain ⟨ρ1, e, i1⟩ := h i b x ρ (by omega) (ho x (by simp)) s
    obtain ⟨ρ2, k1, k2⟩ := loop_foldi N st step h xs (i + 1) (step b x) ρ1 (by omega) (fun a ha => ho a (by simp [ha])) i1
    exact ⟨ρ2, by rw [List.map_cons]; simp only [loopL]; rw [e]; exact k1, k2⟩
theorem foldl_pick {α β : Type} (c : α → Bool) (k : α → β) : ∀ (xs : List α) (b : List β), xs.foldl (fun b a => if c a then b ++ [k a] else b) b = b ++ (xs.filter c).map k
  | [], b => by simp
  | x :: xs, b => by
    rw [List.foldl_cons, foldl_pick c k xs, List.filter_cons]
    cases c x <;> simp
theorem strsOf_map : ∀ ss : List (List Nat), strsOf (ss.map .str) = some ss
  | [] => rfl
  | s :: ss => by simp [strsOf, strsOf_map ss]
theorem line_big {n : Nat} (h : n < 100) : n < line := by unfold line; omega

theorem rt_neg {t b : Int} (h : b < 0) : rt (Rat.divInt t b) = .tup [.int ((-t).fdiv (Int.gcd t b)), .int ((-b).fdiv (Int.gcd t b))] := by
  rw [rt_divInt (by omega), if_pos h]
  have f : ∀ x g : Int, x.fdiv (-g) = (-x).fdiv g := fun x g => by
    have := Int.neg_fdiv_neg (-x) g
    rw [Int.neg_neg] at this
    exact this
  rw [f, f]
theorem rt_pos {t b : Int} (h : 0 < b) : rt (Rat.divInt t b) = .tup [.int (t.fdiv (Int.gcd t b)), .int (b.fdiv (Int.gcd t b))] := by
  rw [rt_divInt (by omega), if_neg (by omega)]
theorem num_lt0 (q : Rat) : q.num < 0 ↔ q < 0 := by
  rw [Rat.lt_iff]
  simp
theorem den_lt (q : Rat) : (q.den : Int) < q.num ↔ 1 < q := by
  rw [Rat.lt_iff]
  simp

section
variable {C : Nat → List D → R AV} {G : Nat → Option D} {above : Hier}
def stepK (C : Nat → List D → R AV) (G : Nat → Option D) (above : Hier) (t : Tg) (ifs : List E) (e : E) (ρ3 : Ev) (d : D) : Option (Option D) := (asg t d ρ3).bind fun ρ4 => match evT C G above ifs ρ4 with
  | .ok (true, ρ5) => match ev C G above e ρ5 with
    | .ok (v, ρ6) => (DY.frz ρ6 v).map fun r => some r.1
    | _ => none
  | .ok (false, _) => some none
  | _ => none
theorem ev_cmpr {ow : List Nat} {t : Tg} {it : It} {ifs : List E} {e : E} {ρ ρ1 ρ2 ρ3 : Ev} {ds ys : List D} (h : evI C G above it ρ = .ok (ds, ρ1)) (h2 : DY.frzS ρ1 ((varsL ifs ++ e.vars).filter fun i => !ow.contains i) = ρ2) (h3 : DY.wipe (DY.aside ρ2) ow = ρ3)
    (hc : compL (stepK C G above t ifs e ρ3) ds = some ys) (hl : ys.length ≤ line) : ev C G above (.cmpr ow t it ifs e) ρ = .ok (.av (.ol ys), ρ2) := by
  have : ev C G above (.cmpr ow t it ifs e) ρ = match evI C G above it ρ with
    | .ok (ds, ρ1) => (match compL (stepK C G above t ifs e (DY.wipe (DY.aside (DY.frzS ρ1 ((varsL ifs ++ e.vars).filter fun i => !ow.contains i))) ow)) ds with
      | some ys => if ys.length ≤ line then .ok (.av (.ol ys), DY.frzS ρ1 ((varsL ifs ++ e.vars).filter fun i => !ow.contains i)) else .no
      | none => .no)
    | .er x ρ' => .er x ρ'
    | .no => .no := by rw [ev]; rfl
  rw [this, h]
  simp only
  rw [h2, h3, hc]
  simp only
  rw [if_pos hl]
theorem compL_pick {α : Type} {f : D → Option (Option D)} {g : α → D} {c : α → Bool} {k : α → D} : ∀ {xs : List α}, (∀ a ∈ xs, f (g a) = some (if c a then some (k a) else none)) → compL f (xs.map g) = some ((xs.filter c).map k)
  | [], _ => rfl
  | x :: xs, h => by
    have ih := compL_pick (xs := xs) fun a ha => h a (by simp [ha])
    rw [List.map_cons, List.filter_cons]
    unfold compL
    rw [h x (by simp)]
    cases c x with
    | true => simp [ih]
    | false => simpa using ih
theorem ev_ix0 {a : E} {ρ ρ' : Ev} {y : D} {ys : List D} (h : ev C G above a ρ = .ok (.av (.ol (y :: ys)), ρ')) : ev C G above (.ix a (.int 0)) ρ = .ok (.av (.fz y), ρ') := by
  rw [ev, h]
  simp only [bndP, ev, lift, intOf, DY.peek, look, AV.erase, Option.map_some, ixP]
  rfl
theorem ex_set {i : Nat} {e : E} {ρ ρ' : Ev} {a : AV} (h : ev C G above e ρ = .ok (.av a, ρ')) : ex C G above (.set (.nm i) e) ρ = .ok (.nx (ρ'.set i (some a))) := by
  rw [ex, h]; rfl
theorem ex_setT {ts : List Tg} {e : E} {ρ ρ' ρ2 : Ev} {d : D} (h : ev C G above e ρ = .ok (.av (.fz d), ρ')) (h2 : asg (.tp ts) d ρ' = some ρ2) : ex C G above (.set (.tp ts) e) ρ = .ok (.nx ρ2) := by
  rw [ex]
  · rw [h]
    simp only [bndS, liftS, DY.frz, AV.erase, h2]
  · intro i z; cases z
theorem find_head {α : Type} {p : α → Bool} {xs : List α} {a : α} (h : xs.find? p = some a) : ∃ r, xs.filter p = a :: r := by
  induction xs with
  | nil => simp at h
  | cons x xs ih =>
    rw [List.find?_cons] at h
    rw [List.filter_cons]
    cases hp : p x with
    | true => rw [hp] at h; simp at h; subst h; exact ⟨xs.filter p, by simp⟩
    | false => rw [hp] at h; simp; exact ih h
end

theorem compL_ex {α : Type} {f : D → Option (Option D)} {g : α → D} {ok : α → Prop} : ∀ (l : List Nat), (∀ k ∈ l, ∃ a : α, f (.int (0 + (k : Int))) = some (some (g a)) ∧ ok a) →
    ∃ as : List α, compL f (l.map fun (k : Nat) => D.int (0 + (k : Int))) = some (as.map g) ∧ as.length = l.length ∧ ∀ a ∈ as, ok a
  | [], _ => ⟨[], rfl, rfl, fun a h => by cases h⟩
  | k :: l, h => by
    obtain ⟨a, h1, h2⟩ := h k (by simp)
    obtain ⟨as, e1, e2, e3⟩ := compL_ex (g := g) (ok := ok) l fun j hj => h j (by simp [hj])
    refine ⟨a :: as, ?_, by simp [e2], fun b hb => ?_⟩
    · rw [List.map_cons]
      unfold compL
      rw [h1]
      simp only
      rw [e1]
      rfl
    · rcases List.mem_cons.mp hb with z | z
      · subst z; exact h2
      · exact e3 b z
end DY
set_option Elab.async false
set_option linter.all false
set_option maxRecDepth 100000
/-! Triples, plates, points. -/
namespace DY
structure T3 where
  x : Int
  y : Int
  z : Int
  deriving DecidableEq
structure Pl where
  c : T3
  s : T3
  o : T3
  deriving DecidableEq
structure R3 where
  x : Rat
  y : Rat
  z : Rat
def t3 (a : T3) : D := .tup [.int a.x, .int a.y, .int a.z]
def pl (p : Pl) : D := .tup [t3 p.c, t3 p.s, t3 p.o]
def r3 (p : R3) : D := .tup [rt p.x, rt p.y, rt p.z]
def T3.dot (a b : T3) : Int := a.x * b.x + a.y * b.y + a.z * b.z
def T3.cross (a b : T3) : T3 := ⟨a.y * b.z - a.z * b.y, a.z * b.x - a.x * b.z, a.x * b.y - a.y * b.x⟩
def Pl.front (p : Pl) : T3 := p.s.cross p.o
def R3.sub (p : R3) (a : T3) : R3 := ⟨p.x - a.x, p.y - a.y, p.z - a.z⟩
def R3.dot (p : R3) (a : T3) : Rat := 0 + p.x * a.x + p.y * a.y + p.z * a.z
def T3.rat (a : T3) : R3 := ⟨a.x, a.y, a.z⟩
def Pl.at (p : Pl) (s t : Rat) : R3 := ⟨p.c.x + (s * p.s.x + t * p.o.x), p.c.y + (s * p.s.y + t * p.o.y), p.c.z + (s * p.s.z + t * p.o.z)⟩
structure B3 (n : Nat) (a : T3) : Prop where
  x : Bt n a.x
  y : Bt n a.y
  z : Bt n a.z
structure BP (n : Nat) (p : Pl) : Prop where
  c : B3 n p.c
  s : B3 n p.s
  o : B3 n p.o
structure BR (n : Nat) (p : R3) : Prop where
  x : Bq n p.x
  y : Bq n p.y
  z : Bq n p.z
section
variable {m n : Nat} {a b : T3} {p : Pl} {q : R3}
theorem B3.le (h : B3 m a) (hl : m ≤ n) : B3 n a := ⟨h.x.le hl, h.y.le hl, h.z.le hl⟩
theorem BR.le (h : BR m q) (hl : m ≤ n) : BR n q := ⟨h.x.le hl, h.y.le hl, h.z.le hl⟩
theorem B3.dot (h : B3 m a) (g : B3 n b) : Bt (m + n + 2) (a.dot b) := (((h.x.mul g.x).add (h.y.mul g.y)).add (h.z.mul g.z)).le (by omega)
theorem B3.cross (h : B3 m a) (g : B3 n b) : B3 (m + n + 1) (a.cross b) :=
  ⟨((h.y.mul g.z).sub (h.z.mul g.y)).le (by omega), ((h.z.mul g.x).sub (h.x.mul g.z)).le (by omega), ((h.x.mul g.y).sub (h.y.mul g.x)).le (by omega)⟩
theorem BP.front (h : BP m p) : B3 (2 * m + 1) p.front := (h.s.cross h.o).le (by omega)
theorem BR.sub (h : BR m q) (g : B3 n a) : BR (m + n + 2) (q.sub a) := ⟨(h.x.sub (.int g.x)).le (by omega), (h.y.sub (.int g.y)).le (by omega), (h.z.sub (.int g.z)).le (by omega)⟩
theorem Bq.zero : Bq 1 0 := ⟨by unfold Bt; decide, by unfold Bt; decide⟩
theorem BR.dot (h : BR m q) (g : B3 n a) : Bq (3 * (m + n) + 10) (q.dot a) :=
  ((((Bq.zero.add (h.x.mul (.int g.x))).add (h.y.mul (.int g.y))).add (h.z.mul (.int g.z)))).le (by omega)
theorem B3.rat (h : B3 m a) : BR (m + 1) a.rat := ⟨.int h.x, .int h.y, .int h.z⟩
theorem BP.at {s t : Rat} {k : Nat} (h : BP m p) (hs : Bq k s) (ht : Bq k t) : BR (2 * k + 3 * m + 6) (p.at s t) :=
  ⟨((Bq.int h.c.x).add ((hs.mul (.int h.s.x)).add (ht.mul (.int h.o.x)))).le (by omega), ((Bq.int h.c.y).add ((hs.mul (.int h.s.y)).add (ht.mul (.int h.o.y)))).le (by omega), ((Bq.int h.c.z).add ((hs.mul (.int h.s.z)).add (ht.mul (.int h.o.z)))).le (by omega)⟩
end
/-- where the line from a point along d meets a plate -/
def Pl.s1 (p : Pl) (q : R3) (d : T3) : Rat := (q.sub p.c).dot (p.o.cross d) / (p.front.dot d : Int)
def Pl.t1 (p : Pl) (q : R3) (d : T3) : Rat := (q.sub p.c).dot (d.cross p.s) / (p.front.dot d : Int)
def meet (p : Pl) (q : R3) (d : T3) : Option (Rat × Rat) := if p.front.dot d = 0 then none else some (p.s1 q d, p.t1 q d)
def place : Option (Rat × Rat) → D
  | none => .non
  | some (s, t) => .tup [rt s, rt t]
def on1 (s : Rat) : Bool := !(decide (s < 0) || decide (1 < s))
def onPl (s t : Rat) : Bool := on1 s && on1 t
def beyond (p : Pl) (q : R3) (d : T3) : Bool := if 0 < p.front.dot d then decide ((q.sub p.c).dot p.front < 0) else decide (0 < (q.sub p.c).dot p.front)
def hides (p : Pl) (q : R3) (d : T3) : Bool := match meet p q d with
  | none => false
  | some (s, t) => onPl s t && beyond p q d

/-! ### a yard -/
structure Th where
  nm : List Nat
  p : Pl
  tip : Option T3
def thD (t : Th) : D := .tup (.str t.nm :: pl t.p :: (match t.tip with | some a => [t3 a] | none => []))
def rowD (r : Int × T3) : D := .tup [.int r.1, t3 r.2]
structure Yd where
  sun : List (Int × T3)
  walls : List Th
  dials : List Th
def ydD (y : Yd) : D := .tup [.lst (y.sun.map rowD), .lst (y.walls.map thD), .lst (y.dials.map thD)]
def sunAt (sun : List (Int × T3)) (h : Int) : Option T3 := (sun.find? fun r => r.1 == h).map (·.2)
def dialAt (y : Yd) (nm : List Nat) : Option Th := y.dials.find? fun t => t.nm == nm
def hid (y : Yd) (nm : List Nat) (q : R3) (d : T3) : List (List Nat) := ((y.walls ++ y.dials).filter fun t => !(t.nm == nm) && hides t.p q d).map (·.nm)

structure ThOk (n : Nat) (t : Th) : Prop where
  p : BP n t.p
  tip : ∀ a, t.tip = some a → B3 n a
structure YdOk (n : Nat) (y : Yd) : Prop where
  sun : ∀ r ∈ y.sun, B3 n r.2
  walls : ∀ t ∈ y.walls, ThOk n t
  dials : ∀ t ∈ y.dials, ThOk n t ∧ ∃ a, t.tip = some a
  few : y.walls.length + y.dials.length < 60
theorem sunAt_mem {sun : List (Int × T3)} {h : Int} {d : T3} (e : sunAt sun h = some d) : ∃ r ∈ sun, r.2 = d := by
  unfold sunAt at e
  simp only [Option.map_eq_some_iff] at e
  obtain ⟨r, e1, e2⟩ := e
  exact ⟨r, List.mem_of_find?_eq_some e1, e2⟩

/-! ### the laws' own words -/
def T3.on (a b : T3) (k : Int) : T3 := ⟨a.x + k * b.x, a.y + k * b.y, a.z + k * b.z⟩
theorem B3.on {m n k : Nat} {a b : T3} {x : Int} (h : B3 m a) (g : B3 n b) (hx : Bt k x) : B3 (m + n + k + 1) (a.on b x) :=
  ⟨(h.x.add (hx.mul g.x)).le (by omega), (h.y.add (hx.mul g.y)).le (by omega), (h.z.add (hx.mul g.z)).le (by omega)⟩
def placesL (p : Pl) (a : T3) (x : Int) (d : T3) : Option (Rat × Rat) := if (p.s.cross p.o).dot d = 0 then none else
  some (Rat.divInt (a.dot (p.o.cross d)) ((p.s.cross p.o).dot d * x), Rat.divInt (a.dot (d.cross p.s)) ((p.s.cross p.o).dot d * x))
def hidesL (p : Pl) (a : T3) (x : Int) (d : T3) : Bool := match placesL p (a.on p.c (0 - x)) x d with
  | none => false
  | some (s, t) => onPl s t && decide ((a.on p.c (0 - x)).dot (p.s.cross p.o) * (p.s.cross p.o).dot d < 0)
end DY
set_option Elab.async false
set_option linter.all false
set_option maxRecDepth 100000
/-! The laws' determinants and the program's fractions. -/
namespace DY
theorem dot_scaled {t c v : T3} {x : Int} (hx : x ≠ 0) : ((R3.mk (t.x / x : Rat) (t.y / x) (t.z / x)).sub c).dot v = ((t.on c (0 - x)).dot v : Int) / (x : Rat) := by
  have h0 : (x : Rat) ≠ 0 := by exact_mod_cast hx
  have hi : (x : Rat) * (x : Rat)⁻¹ = 1 := Rat.mul_inv_cancel _ h0
  unfold R3.sub R3.dot T3.dot T3.on
  push_cast
  simp only [Rat.div_def]
  generalize (x : Rat)⁻¹ = i at *
  grind
theorem ratio_scaled {a b x : Int} (hx : x ≠ 0) (hb : b ≠ 0) : ((a : Rat) / (x : Rat)) / (b : Rat) = Rat.divInt a (b * x) := by
  have h0 : (x : Rat) ≠ 0 := by exact_mod_cast hx
  have h1 : (b : Rat) ≠ 0 := by exact_mod_cast hb
  rw [Rat.divInt_eq_div]
  push_cast
  simp only [Rat.div_def]
  rw [Rat.inv_mul_rev]
  grind
theorem meet_scaled {p : Pl} {t : T3} {x : Int} {d : T3} (hx : x ≠ 0) : meet p ⟨t.x / x, t.y / x, t.z / x⟩ d = placesL p (t.on p.c (0 - x)) x d := by
  unfold meet placesL Pl.front
  by_cases h : (p.s.cross p.o).dot d = 0
  · rw [if_pos h, if_pos h]
  · rw [if_neg h, if_neg h]
    unfold Pl.s1 Pl.t1 Pl.front
    rw [dot_scaled hx, dot_scaled hx, ratio_scaled hx h, ratio_scaled hx h]
theorem sign_scaled {a x : Int} (hx : 0 < x) : (((a : Rat) / (x : Rat) < 0) ↔ a < 0) ∧ ((0 < (a : Rat) / (x : Rat)) ↔ 0 < a) := by
  have h0 : (0 : Rat) < (x : Rat) := Rat.intCast_pos.mpr hx
  constructor
  · rw [Rat.div_lt_iff h0, Rat.zero_mul]
    exact_mod_cast Iff.rfl
  · rw [Rat.lt_div_iff h0, Rat.zero_mul]
    exact_mod_cast Iff.rfl
theorem hides_scaled {p : Pl} {t : T3} {x : Int} {d : T3} (hx : 0 < x) : hides p ⟨t.x / x, t.y / x, t.z / x⟩ d = hidesL p t x d := by
  have hx0 : x ≠ 0 := by omega
  unfold hides hidesL
  rw [meet_scaled hx0]
  cases e : placesL p (t.on p.c (0 - x)) x d with
  | none => rfl
  | some st =>
    obtain ⟨s, u⟩ := st
    have hF : (p.s.cross p.o).dot d ≠ 0 := by
      unfold placesL at e
      split at e
      · cases e
      · assumption
    simp only
    congr 1
    unfold beyond Pl.front
    rw [dot_scaled hx0]
    obtain ⟨q1, q2⟩ := sign_scaled (a := (t.on p.c (0 - x)).dot (p.s.cross p.o)) hx
    generalize (t.on p.c (0 - x)).dot (p.s.cross p.o) = g at *
    generalize (p.s.cross p.o).dot d = f at *
    by_cases hf : 0 < f
    · rw [if_pos hf]
      rw [decide_eq_decide, q1]
      constructor
      · intro h; exact Int.mul_neg_of_neg_of_pos h hf
      · intro h
        rcases Int.lt_trichotomy g 0 with k | k | k
        · exact k
        · subst k; omega
        · have := Int.mul_pos k hf; omega
    · rw [if_neg hf]
      rw [decide_eq_decide, q2]
      have hf2 : f < 0 := by omega
      constructor
      · intro h; exact Int.mul_neg_of_pos_of_neg h hf2
      · intro h
        rcases Int.lt_trichotomy g 0 with k | k | k
        · have := Int.mul_pos_of_neg_of_neg k hf2; omega
        · subst k; omega
        · exact k
/-- the shadow's point over one bottom -/
def topL (p : Pl) (s t : Rat) : T3 := (((T3.mk 0 0 0).on p.c (s.den * t.den)).on p.s (s.num * t.den)).on p.o (t.num * s.den)
theorem at_scaled (p : Pl) (s t : Rat) : p.at s t = ⟨(topL p s t).x / ((s.den * t.den : Int) : Rat), (topL p s t).y / ((s.den * t.den : Int) : Rat), (topL p s t).z / ((s.den * t.den : Int) : Rat)⟩ := by
  have hs : ((s.den : Int) : Rat) ≠ 0 := by exact_mod_cast den0 s
  have ht : ((t.den : Int) : Rat) ≠ 0 := by exact_mod_cast den0 t
  have es : (s.num : Rat) = s * (s.den : Int) := by
    have := Rat.num_divInt_den s
    rw [Rat.divInt_eq_div] at this
    have h2 : (s.num : Rat) / ((s.den : Int) : Rat) * ((s.den : Int) : Rat) = s * ((s.den : Int) : Rat) := by rw [this]
    rw [Rat.div_mul_cancel hs] at h2
    exact h2
  have et : (t.num : Rat) = t * (t.den : Int) := by
    have := Rat.num_divInt_den t
    rw [Rat.divInt_eq_div] at this
    have h2 : (t.num : Rat) / ((t.den : Int) : Rat) * ((t.den : Int) : Rat) = t * ((t.den : Int) : Rat) := by rw [this]
    rw [Rat.div_mul_cancel ht] at h2
    exact h2
  have hb : ((s.den * t.den : Int) : Rat) ≠ 0 := by
    have := Int.mul_ne_zero (den0 s) (den0 t)
    exact_mod_cast this
  unfold Pl.at topL T3.on
  have key : ∀ c a b : Int, (c : Rat) + (s * a + t * b) = ((0 + (s.den * t.den : Int) * c + s.num * t.den * a + t.num * s.den * b : Int) : Rat) / ((s.den * t.den : Int) : Rat) := by
    intro c a b
    have : ((0 + (s.den * t.den : Int) * c + s.num * t.den * a + t.num * s.den * b : Int) : Rat) = ((c : Rat) + (s * a + t * b)) * ((s.den * t.den : Int) : Rat) := by
      push_cast
      push_cast at es et
      rw [es, et]
      grind
    rw [this, Rat.mul_div_cancel hb]
  rw [key, key, key]
end DY
set_option Elab.async false
set_option linter.all false
set_option maxRecDepth 100000
/-! What the laws draw: bounds, names, suns, plates. -/
namespace DY
theorem Bt.lit_ (n : Nat) (x : Int) (h : x.natAbs < 2 ^ n) : Bt n x := h
theorem fmod_bd {a b : Int} (hb : 0 < b) : 0 ≤ a.fmod b ∧ a.fmod b < b := by
  have h1 := Int.emod_nonneg a (show b ≠ 0 by omega)
  have h2 := Int.emod_lt_of_pos a hb
  rw [Int.fmod_eq_emod_of_nonneg a (by omega)]
  exact ⟨h1, h2⟩
theorem atZ_in {α : Type} {xs : List α} {i : Int} (h0 : 0 ≤ i) (h1 : i < xs.length) : ∃ x, atZ xs i = some x ∧ x ∈ xs := by
  unfold atZ
  rw [if_pos h0]
  have hi : i.toNat < xs.length := by omega
  exact ⟨xs[i.toNat], List.getElem?_eq_getElem hi, List.getElem_mem hi⟩
theorem atZ_map {α β : Type} {xs : List α} {f : α → β} {i : Int} {x : α} (h0 : 0 ≤ i) (h : atZ xs i = some x) : atZ (xs.map f) i = some (f x) := by
  unfold atZ at h ⊢
  rw [if_pos h0] at h ⊢
  rw [List.getElem?_map, h]; rfl
theorem atZ_nat {α : Type} {xs : List α} {k : Nat} : atZ xs (k : Int) = xs[k]? := by
  unfold atZ
  rw [if_pos (by omega)]; rfl
structure A3 (M : Nat) (a : T3) : Prop where
  x : a.x.natAbs ≤ M
  y : a.y.natAbs ≤ M
  z : a.z.natAbs ≤ M
theorem A3.b3 {M n : Nat} {a : T3} (h : A3 M a) (hm : M < 2 ^ n) : B3 n a := ⟨Nat.lt_of_le_of_lt h.x hm, Nat.lt_of_le_of_lt h.y hm, Nat.lt_of_le_of_lt h.z hm⟩
theorem A3.le {M N : Nat} {a : T3} (h : A3 M a) (hl : M ≤ N) : A3 N a := ⟨Nat.le_trans h.x hl, Nat.le_trans h.y hl, Nat.le_trans h.z hl⟩
theorem abs_on {x y k : Int} {M L N : Nat} (hx : x.natAbs ≤ M) (hy : y.natAbs ≤ L) (hk : k.natAbs ≤ N) : (x + k * y).natAbs ≤ M + N * L := by
  have h1 : (k * y).natAbs ≤ N * L := by rw [Int.natAbs_mul]; exact Nat.mul_le_mul hk hy
  have := Int.natAbs_add_le x (k * y)
  omega
theorem A3.on {M L N : Nat} {a b : T3} {k : Int} (h : A3 M a) (g : A3 L b) (hk : k.natAbs ≤ N) : A3 (M + N * L) (a.on b k) := ⟨abs_on h.x g.x hk, abs_on h.y g.y hk, abs_on h.z g.z hk⟩
theorem abs_cr {a b c d : Int} {M L : Nat} (ha : a.natAbs ≤ M) (hb : b.natAbs ≤ L) (hc : c.natAbs ≤ M) (hd : d.natAbs ≤ L) : (a * b - c * d).natAbs ≤ 2 * (M * L) := by
  have h1 : (a * b).natAbs ≤ M * L := by rw [Int.natAbs_mul]; exact Nat.mul_le_mul ha hb
  have h2 : (c * d).natAbs ≤ M * L := by rw [Int.natAbs_mul]; exact Nat.mul_le_mul hc hd
  omega
theorem A3.cross {M L : Nat} {a b : T3} (h : A3 M a) (g : A3 L b) : A3 (2 * (M * L)) (a.cross b) := ⟨abs_cr h.y g.z h.z g.y, abs_cr h.z g.x h.x g.z, abs_cr h.x g.y h.y g.x⟩
theorem dvs : divOk 2 = True ∧ divOk 3 = True ∧ divOk 4 = True ∧ divOk 7 = True ∧ divOk 9 = True ∧ divOk 20 = True ∧ divOk 26 = True ∧ divOk 30 = True ∧ divOk 60 = True ∧ divOk 63 = True ∧ divOk 100 = True ∧ divOk 120 = True ∧ divOk 300 = True ∧ divOk 441 = True ∧ divOk 2000 = True ∧ divOk 2205 = True ∧ divOk 3600 = True ∧ divOk 10000 = True ∧ divOk 14400 = True := by
  refine ⟨?_, ?_, ?_, ?_, ?_, ?_, ?_, ?_, ?_, ?_, ?_, ?_, ?_, ?_, ?_, ?_, ?_, ?_, ?_⟩ <;> simp only [eq_iff_iff, iff_true] <;> decide
theorem pick2 {a b i : Int} (h : i = 0 ∨ i = 1) {M : Nat} (ha : a.natAbs ≤ M) (hb : b.natAbs ≤ M) : ∃ c : Int, c.natAbs ≤ M ∧ atZ [D.int a, D.int b] i = some (.int c) := by
  rcases h with j | j
  · exact ⟨a, ha, by rw [j]; rfl⟩
  · exact ⟨b, hb, by rw [j]; rfl⟩
theorem thin_t3 (a : T3) : thinD (t3 a) = true := rfl
theorem thin_pl (p : Pl) : thinD (pl p) = true := rfl
theorem depth_t3 (a : T3) : depth (t3 a) = 1 := rfl
theorem depth_pl (p : Pl) : depth (pl p) = 2 := rfl
theorem depth_map {α : Type} {f : α → D} {n : Nat} (h : ∀ a, depth (f a) ≤ n) : ∀ xs : List α, depthL (xs.map f) ≤ n
  | [] => Nat.zero_le _
  | x :: xs => by rw [List.map_cons]; unfold depthL; have := h x; have := depth_map h xs; omega
theorem eqDs_map_nil {α : Type} {f : α → D} : ∀ xs : List α, eqDs (xs.map f) [] = xs.isEmpty
  | [] => rfl
  | _ :: _ => rfl

/-! ### names -/
def ABC : List Nat := [97, 98, 99, 100, 101, 102, 103, 104, 105, 106, 107, 108, 109, 110, 111, 112, 113, 114, 115, 116, 117, 118, 119, 120, 121, 122]
theorem ABC_at {i : Int} (h0 : 0 ≤ i) (h1 : i < 26) : atZ ABC i = some (97 + i.toNat) := by
  have e : ABC = (List.range 26).map (97 + ·) := by decide
  have hi : i = (i.toNat : Int) := by omega
  rw [hi, atZ_nat, e, List.getElem?_map, List.getElem?_range (by omega)]
  rfl
/-- x .. two letters .. q -/
def nameS (a i j b : Int) : List Nat := (List.replicate a.toNat [120]).flatten ++ [97 + i.toNat, 97 + j.toNat] ++ (List.replicate b.toNat [113]).flatten
theorem len_flat1 {c : Nat} : ∀ n : Nat, (List.replicate n [c]).flatten.length = n
  | 0 => rfl
  | n + 1 => by rw [List.replicate_succ, List.flatten_cons, List.length_append, len_flat1 n]; simp; omega
theorem flat_mem {c d : Nat} : ∀ n : Nat, d ∈ (List.replicate n [c]).flatten → d = c
  | 0, h => by simp at h
  | n + 1, h => by
    rw [List.replicate_succ, List.flatten_cons] at h
    rcases List.mem_append.mp h with h | h
    · simpa using h
    · exact flat_mem n h
structure NmOk (s : List Nat) : Prop where
  l0 : 1 ≤ s.length
  l8 : s.length ≤ 8
  abc : ∀ c ∈ s, 97 ≤ c ∧ c ≤ 122
theorem nameS_ok {a i j b : Int} (ha : 0 ≤ a ∧ a < 5) (hi : 0 ≤ i ∧ i < 26) (hj : 0 ≤ j ∧ j < 26) (hb : 0 ≤ b ∧ b < 3) : NmOk (nameS a i j b) := by
  have l : (nameS a i j b).length = a.toNat + 2 + b.toNat := by
    unfold nameS
    rw [List.length_append, List.length_append, len_flat1, len_flat1]; rfl
  refine ⟨by omega, by omega, fun c hc => ?_⟩
  unfold nameS at hc
  rcases List.mem_append.mp hc with h | h
  · rcases List.mem_append.mp h with h | h
    · have := flat_mem _ h; omega
    · simp at h; omega
  · have := flat_mem _ h; omega
theorem nameS_inj {a i j i' j' b : Int} (h : nameS a i j b = nameS a i' j' b) (hi : 0 ≤ i) (hj : 0 ≤ j) (hi' : 0 ≤ i') (hj' : 0 ≤ j') : i = i' ∧ j = j' := by
  unfold nameS at h
  rw [List.append_assoc, List.append_assoc] at h
  have h1 := List.append_cancel_left h
  simp at h1
  omega
/-! ### suns -/
structure SunOk (sun : List (Int × T3)) : Prop where
  dir : ∀ r ∈ sun, A3 5 r.2
  nz : ∀ r ∈ sun, r.2 ≠ ⟨0, 0, 0⟩
  hr : ∀ r ∈ sun, 0 ≤ r.1 ∧ r.1 ≤ 9999
  up : sun.Pairwise fun a b => a.1 < b.1
theorem sunAt_of : ∀ {sun : List (Int × T3)}, sun.Pairwise (fun a b => a.1 < b.1) → ∀ r ∈ sun, sunAt sun r.1 = some r.2
  | [], _, r, h => by cases h
  | s :: sun, hp, r, h => by
    unfold sunAt
    rw [List.find?_cons]
    rcases List.mem_cons.mp h with h | h
    · subst h; simp
    · have h1 := (List.pairwise_cons.mp hp).1 r h
      have h2 : (s.1 == r.1) = false := by simp; omega
      rw [h2]
      exact sunAt_of (List.pairwise_cons.mp hp).2 r h
def dlD (x : Pl × T3 × T3) : D := .tup [pl x.1, t3 x.2.1, t3 x.2.2]
theorem depth_dl (ds : List (Pl × T3 × T3)) : depthL (ds.map dlD) ≤ 3 := depth_map (f := dlD) (fun a => Nat.le_of_eq (show depth (dlD a) = 3 from rfl)) ds
def T3.sub (a b : T3) : T3 := ⟨a.x - b.x, a.y - b.y, a.z - b.z⟩
theorem eq0_T3 {a : T3} : (a.x == 0 && (a.y == 0 && a.z == 0)) = decide (a = ⟨0, 0, 0⟩) := by
  obtain ⟨x, y, z⟩ := a
  rw [Bool.eq_iff_iff]
  simp
theorem cross_pos {a : T3} (h : a ≠ ⟨0, 0, 0⟩) : 0 < a.dot a := by
  obtain ⟨x, y, z⟩ := a
  unfold T3.dot
  simp only
  have sq : ∀ t : Int, 0 ≤ t * t := fun t => by
    rcases Int.le_total 0 t with k | k
    · exact Int.mul_nonneg k k
    · exact Int.mul_nonneg_of_nonpos_of_nonpos k k
  have hx := sq x; have hy := sq y; have hz := sq z
  have s0 : ∀ t : Int, t ≠ 0 → 0 < t * t := fun t ht => by
    rcases Int.lt_trichotomy t 0 with k | k | k
    · exact Int.mul_pos_of_neg_of_neg k k
    · exact absurd k ht
    · exact Int.mul_pos k k
  by_cases h1 : x = 0
  · by_cases h2 : y = 0
    · have h3 : z ≠ 0 := fun h3 => h (by rw [h1, h2, h3])
      have := s0 z h3; omega
    · have := s0 y h2; omega
  · have := s0 x h1; omega
theorem cross_scaled (a b : T3) (m : Int) : ((T3.mk 0 0 0).on a m).cross ((T3.mk 0 0 0).on b m) = ⟨m * m * (a.cross b).x, m * m * (a.cross b).y, m * m * (a.cross b).z⟩ := by
  unfold T3.on T3.cross
  congr 1 <;> grind
theorem scaled_ne {a : T3} {m : Int} (h : a ≠ ⟨0, 0, 0⟩) (hm : 0 < m) : T3.mk (m * m * a.x) (m * m * a.y) (m * m * a.z) ≠ ⟨0, 0, 0⟩ := by
  intro e
  have hm0 : m * m ≠ 0 := Int.mul_ne_zero (by omega) (by omega)
  simp only [T3.mk.injEq] at e
  apply h
  obtain ⟨x, y, z⟩ := a
  simp only [T3.mk.injEq]
  exact ⟨(Int.mul_eq_zero.mp e.1).resolve_left hm0, (Int.mul_eq_zero.mp e.2.1).resolve_left hm0, (Int.mul_eq_zero.mp e.2.2).resolve_left hm0⟩
/-- a tip drawn ahead of its plate -/
theorem dial_ahead {o t c d : T3} {a b q m : Int} : (((T3.mk 0 0 0).on o m).cross ((T3.mk 0 0 0).on t m)).dot ((((c.on o a).on t b).on d q).sub c) = m * m * (q * (o.cross t).dot d) := by
  unfold T3.on T3.cross T3.dot T3.sub
  grind
end DY
namespace DY
structure DlOk (p : Pl) (tip : T3) : Prop where
  c : A3 6 p.c
  s : A3 8 p.s
  o : A3 8 p.o
  tp : A3 74 tip
  ahead : 0 < p.front.dot (tip.sub p.c)
  front : p.front ≠ ⟨0, 0, 0⟩
structure WlOk (p : Pl) : Prop where
  c : A3 77 p.c
  s : A3 6 p.s
  o : A3 6 p.o
  front : p.front ≠ ⟨0, 0, 0⟩
theorem cross_anti {a b : T3} (h : b.cross a = ⟨0, 0, 0⟩) : a.cross b = ⟨0, 0, 0⟩ := by
  unfold T3.cross at *
  simp only [T3.mk.injEq] at *
  grind
theorem cross_anti_dot {a b d : T3} : (b.cross a).dot d = -((a.cross b).dot d) := by
  unfold T3.cross T3.dot
  grind
theorem sun_nil : SunOk [] := ⟨fun r h => (by cases h), fun r h => (by cases h), fun r h => (by cases h), .nil⟩
theorem sun_more {b : List (Int × T3)} {hr : Int} {d : T3} (h : SunOk b) (h1 : 0 ≤ hr ∧ hr ≤ 9999) (h2 : ∀ r ∈ b, r.1 < hr) (h3 : A3 5 d) (h4 : d ≠ ⟨0, 0, 0⟩) : SunOk (b ++ [(hr, d)]) := by
  refine ⟨fun r m => ?_, fun r m => ?_, fun r m => ?_, ?_⟩
  · rcases List.mem_append.mp m with m | m
    · exact h.dir r m
    · rw [List.mem_singleton.mp m]; exact h3
  · rcases List.mem_append.mp m with m | m
    · exact h.nz r m
    · rw [List.mem_singleton.mp m]; exact h4
  · rcases List.mem_append.mp m with m | m
    · exact h.hr r m
    · rw [List.mem_singleton.mp m]; exact h1
  · rw [List.pairwise_append]
    exact ⟨h.up, List.pairwise_singleton _ _, fun a ha b hb => by rw [List.mem_singleton.mp hb]; exact h2 a ha⟩
end DY
set_option Elab.async false
set_option linter.all false
set_option maxRecDepth 100000
/-! Yards as drawn: things with names by number. -/
namespace DY
/-- walls and dials with their names, by number -/
def yardW (nm : Int → List Nat) (ps : List Pl) : List Th := ps.mapIdx fun k p => ⟨nm k, p, none⟩
def yardD (nm : Int → List Nat) (ds : List (Pl × T3 × T3)) : List Th := ds.mapIdx fun k x => ⟨nm (20 + k), x.1, some x.2.1⟩
theorem compL_range {f : D → Option (Option D)} {g : Nat → D} : ∀ {l : List Nat}, (∀ k ∈ l, f (.int (0 + (k : Int))) = some (some (g k))) → compL f (l.map fun (k : Nat) => D.int (0 + (k : Int))) = some (l.map g)
  | [], _ => rfl
  | k :: l, h => by
    rw [List.map_cons, List.map_cons]
    unfold compL
    rw [h k (by simp)]
    simp only
    rw [compL_range fun j hj => h j (by simp [hj])]
    rfl
theorem range_idx {α β γ : Type} {g : Nat → γ} {F : Nat → α → β} {h : β → γ} {xs : List α} (e : ∀ k (hk : k < xs.length), g k = h (F k xs[k])) : (List.range xs.length).map g = (xs.mapIdx F).map h := by
  apply List.ext_getElem
  · simp
  · intro k h1 h2
    have hk : k < xs.length := by simpa using h1
    simp [e k hk]
theorem len_yardW {nm ps} : (yardW nm ps).length = ps.length := by simp [yardW]
theorem len_yardD {nm ds} : (yardD nm ds).length = ds.length := by simp [yardD]
theorem mem_yardW {nm ps t} (h : t ∈ yardW nm ps) : ∃ (k : Nat) (p : Pl), k < ps.length ∧ p ∈ ps ∧ t = ⟨nm k, p, none⟩ := by
  unfold yardW at h
  rw [List.mem_mapIdx] at h
  obtain ⟨k, hk, e⟩ := h
  exact ⟨k, _, hk, List.getElem_mem hk, e.symm⟩
theorem mem_yardD {nm ds t} (h : t ∈ yardD nm ds) : ∃ (k : Nat) (x : Pl × T3 × T3), k < ds.length ∧ x ∈ ds ∧ t = ⟨nm (20 + k), x.1, some x.2.1⟩ := by
  unfold yardD at h
  rw [List.mem_mapIdx] at h
  obtain ⟨k, hk, e⟩ := h
  exact ⟨k, _, hk, List.getElem_mem hk, e.symm⟩
theorem DlOk.th {p : Pl} {a : T3} {nm : List Nat} (h : DlOk p a) : ThOk 7 ⟨nm, p, some a⟩ :=
  ⟨⟨h.c.b3 (by decide), h.s.b3 (by decide), h.o.b3 (by decide)⟩, fun b e => by cases e; exact h.tp.b3 (by decide)⟩
theorem WlOk.th {p : Pl} {nm : List Nat} (h : WlOk p) : ThOk 7 ⟨nm, p, none⟩ :=
  ⟨⟨h.c.b3 (by decide), h.s.b3 (by decide), h.o.b3 (by decide)⟩, fun b e => by cases e⟩
end DY
set_option Elab.async false
set_option linter.all false
set_option maxRecDepth 100000
/-! Plain data is equal to itself; finding. -/
namespace DY
mutual
def plainD : D → Bool
  | .tup ds => plainL ds
  | .lst ds => plainL ds
  | .dct _ => false
  | .exc _ _ => false
  | .scr _ => false
  | _ => true
def plainL : List D → Bool
  | [] => true
  | d :: ds => plainD d && plainL ds
end
mutual
theorem eqD_refl : ∀ d, plainD d = true → eqD d d = true
  | .non, _ => by simp [eqD]
  | .bl b, _ => by simp [eqD]
  | .int i, _ => by simp [eqD]
  | .str s, _ => by simp [eqD]
  | .tup ds, h => by unfold plainD at h; unfold eqD; exact eqDs_refl ds h
  | .lst ds, h => by unfold plainD at h; unfold eqD; exact eqDs_refl ds h
  | .dct _, h => by unfold plainD at h; cases h
  | .exc _ _, h => by unfold plainD at h; cases h
  | .scr _, h => by unfold plainD at h; cases h
theorem eqDs_refl : ∀ ds, plainL ds = true → eqDs ds ds = true
  | [], _ => rfl
  | d :: ds, h => by
    unfold plainL at h
    rw [Bool.and_eq_true] at h
    unfold eqDs
    rw [eqD_refl d h.1, eqDs_refl ds h.2]; rfl
end
theorem plain_map {α : Type} {f : α → D} (h : ∀ a, plainD (f a) = true) : ∀ xs : List α, plainL (xs.map f) = true
  | [] => rfl
  | x :: xs => by rw [List.map_cons]; unfold plainL; rw [h x, plain_map h xs]; rfl
theorem plain_row (r : Int × T3) : plainD (rowD r) = true := rfl
theorem plain_th (t : Th) : plainD (thD t) = true := by
  obtain ⟨nm, p, tip⟩ := t
  cases tip <;> rfl
theorem plain_yd (y : Yd) : plainD (ydD y) = true := by
  unfold ydD
  simp only [plainD, plainL, plain_map plain_row, plain_map plain_th, Bool.and_self]
theorem eq_yd (y : Yd) : eqD (ydD y) (ydD y) = true := eqD_refl _ (plain_yd y)
theorem depth_th (t : Th) : depth (thD t) = 3 := by
  obtain ⟨nm, p, tip⟩ := t
  cases tip <;> rfl
theorem depth_yd (y : Yd) : depth (ydD y) ≤ 5 := by
  unfold ydD
  have h1 := depth_map (f := rowD) (n := 2) (fun a => Nat.le_of_eq (show depth (rowD a) = 2 from rfl)) y.sun
  have h2 := depth_map (f := thD) (n := 3) (fun a => Nat.le_of_eq (depth_th a)) y.walls
  have h3 := depth_map (f := thD) (n := 3) (fun a => Nat.le_of_eq (depth_th a)) y.dials
  simp only [depth, depthL]
  omega
theorem sunAt_some {sun : List (Int × T3)} {r : Int × T3} (h : r ∈ sun) : ∃ d, sunAt sun r.1 = some d := by
  unfold sunAt
  cases e : sun.find? fun s => s.1 == r.1 with
  | none =>
    have := List.find?_eq_none.mp e r h
    simp at this
  | some s => exact ⟨s.2, rfl⟩
theorem dialAt_some {y : Yd} {t : Th} (h : t ∈ y.dials) : ∃ t', dialAt y t.nm = some t' ∧ t' ∈ y.dials := by
  unfold dialAt
  cases e : y.dials.find? fun s => s.nm == t.nm with
  | none =>
    have := List.find?_eq_none.mp e t h
    simp at this
  | some s => exact ⟨s, rfl, List.mem_of_find?_eq_some e⟩
end DY
set_option Elab.async false
set_option linter.all false
set_option maxRecDepth 100000
/-! What is told of a dial, and how it hangs on the other plates. -/
namespace DY
theorem depth_strs : ∀ ss : List (List Nat), depthL (ss.map .str) = 0
  | [] => rfl
  | s :: ss => by simp [depthL, depth, depth_strs ss]
theorem eqDs_nil : ∀ ss : List (List Nat), eqDs (ss.map .str) [] = ss.isEmpty
  | [] => rfl
  | _ :: _ => rfl
theorem sort_ne {ss : List (List Nat)} (h : ¬ ss = []) : (sortS ss).isEmpty = false := by
  cases e : sortS ss with
  | nil =>
    have := (sortS_perm ss).length_eq
    rw [e] at this
    exact absurd (List.length_eq_zero_iff.mp this.symm) h
  | cons _ _ => rfl
/-- what is told -/
inductive Td where
  | down
  | behind
  | off (s t : Rat)
  | hidden (ns : List (List Nat))
  | read (s t : Rat)
def tdA : Td → AV
  | .down => .fz (.tup [.str [100, 111, 119, 110]])
  | .behind => .fz (.tup [.str [98, 101, 104, 105, 110, 100]])
  | .off s t => .fz (.tup [.str [111, 102, 102], place (some (s, t))])
  | .hidden ns => .ot [.fz (.str [104, 105, 100, 100, 101, 110]), .ol (ns.map .str)]
  | .read s t => .fz (.tup [.str [114, 101, 97, 100], place (some (s, t))])
def tell (y : Yd) (t : Th) (a d : T3) : Td :=
  if ¬ 0 < d.z then .down else if ¬ 0 < t.p.front.dot d then .behind else
  if !onPl (t.p.s1 a.rat d) (t.p.t1 a.rat d) then .off (t.p.s1 a.rat d) (t.p.t1 a.rat d) else
  if hid y t.nm (t.p.at (t.p.s1 a.rat d) (t.p.t1 a.rat d)) d ≠ [] then .hidden (sortS (hid y t.nm (t.p.at (t.p.s1 a.rat d) (t.p.t1 a.rat d)) d)) else .read (t.p.s1 a.rat d) (t.p.t1 a.rat d)
theorem tell_few {n : Nat} {y : Yd} {t : Th} {a d : T3} {ns : List (List Nat)} (hy : YdOk n y) (e : tell y t a d = .hidden ns) : ns.length < 60 := by
  unfold tell at e
  split at e
  · cases e
  · split at e
    · cases e
    · split at e
      · cases e
      · split at e
        · cases e
          rw [(sortS_perm _).length_eq]
          unfold hid
          rw [List.length_map]
          refine Nat.lt_of_le_of_lt (List.length_filter_le _ _) ?_
          rw [List.length_append]
          exact hy.few
        · cases e

theorem sort_uniq {a b : List (List Nat)} (p : a.Perm b) (ha : a.Pairwise fun x y => leS x y = true) (hb : b.Pairwise fun x y => leS x y = true) : a = b :=
  p.eq_of_pairwise (fun x y _ _ h g => leS_anti x y h g) ha hb
theorem sort_perm {a b : List (List Nat)} (p : a.Perm b) : sortS a = sortS b :=
  sort_uniq ((sortS_perm a).trans (p.trans (sortS_perm b).symm)) (sortS_sorted a) (sortS_sorted b)
theorem sort_filter {a : List (List Nat)} (c : List Nat → Bool) : (sortS a).filter c = sortS (a.filter c) :=
  sort_uniq (((sortS_perm a).filter c).trans (sortS_perm _).symm) ((sortS_sorted a).filter c) (sortS_sorted _)
theorem sort_nil {a : List (List Nat)} : sortS a = [] ↔ a = [] := by
  constructor
  · intro h
    have := (sortS_perm a).length_eq
    rw [h] at this
    exact List.length_eq_zero_iff.mp this.symm
  · intro h; rw [h]; rfl
theorem plain_strs (ss : List (List Nat)) : plainL (ss.map .str) = true := plain_map (fun _ => rfl) ss
theorem plain_td (x : Td) : plainD (tdA x).erase = true := by
  cases x <;> simp only [tdA, AV.erase, eraseL, plainD, plainL, place, rt, Bool.and_self, plain_strs]
theorem depth_td (x : Td) : depth (tdA x).erase ≤ 3 := by
  cases x <;> simp [tdA, AV.erase, eraseL, depth, depthL, place, rt, depth_strs]
theorem eq_td (x : Td) : eqD (tdA x).erase (tdA x).erase = true := eqD_refl _ (plain_td x)
/-- what is told, by those that hide -/
def tellBy (h : R3 → List (List Nat)) (t : Th) (a d : T3) : Td :=
  if ¬ 0 < d.z then .down else if ¬ 0 < t.p.front.dot d then .behind else
  if !onPl (t.p.s1 a.rat d) (t.p.t1 a.rat d) then .off (t.p.s1 a.rat d) (t.p.t1 a.rat d) else
  if h (t.p.at (t.p.s1 a.rat d) (t.p.t1 a.rat d)) ≠ [] then .hidden (sortS (h (t.p.at (t.p.s1 a.rat d) (t.p.t1 a.rat d)))) else .read (t.p.s1 a.rat d) (t.p.t1 a.rat d)
theorem tell_by (y : Yd) (t : Th) (a d : T3) : tell y t a d = tellBy (fun q => hid y t.nm q d) t a d := rfl
theorem tellBy_perm {h h' : R3 → List (List Nat)} {t : Th} {a d : T3} (p : ∀ q, (h q).Perm (h' q)) : tellBy h t a d = tellBy h' t a d := by
  unfold tellBy
  have q := p (t.p.at (t.p.s1 a.rat d) (t.p.t1 a.rat d))
  rw [sort_perm q]
  have e : (h (t.p.at (t.p.s1 a.rat d) (t.p.t1 a.rat d)) ≠ []) = (h' (t.p.at (t.p.s1 a.rat d) (t.p.t1 a.rat d)) ≠ []) := by
    rw [ne_eq, ne_eq, ← sort_nil, sort_perm q, sort_nil]
  simp only [e]
/-- a dial found by its name -/
theorem dialAt_of {y : Yd} (h : (y.dials.map (·.nm)).Nodup) {t : Th} (m : t ∈ y.dials) : dialAt y t.nm = some t := by
  unfold dialAt
  generalize y.dials = l at *
  induction l with
  | nil => cases m
  | cons x xs ih =>
    rw [List.find?_cons]
    rw [List.map_cons, List.nodup_cons] at h
    rcases List.mem_cons.mp m with e | e
    · subst e; simp
    · have : (x.nm == t.nm) = false := by
        simp only [beq_eq_false_iff_ne, ne_eq]
        intro z
        exact h.1 (List.mem_map.mpr ⟨t, e, z.symm⟩)
      rw [this]
      exact ih h.2 e

theorem bare_not {t : Th} {a d : T3} {ns : List (List Nat)} : tellBy (fun _ => []) t a d ≠ .hidden ns := by
  unfold tellBy
  intro e
  split at e
  · cases e
  · split at e
    · cases e
    · split at e
      · cases e
      · simp at e
theorem tell_bare {h : R3 → List (List Nat)} {t : Th} {a d : T3} (n : ∀ ns, tellBy h t a d ≠ .hidden ns) : tellBy h t a d = tellBy (fun _ => []) t a d := by
  unfold tellBy at *
  split
  · rfl
  · split
    · rfl
    · split
      · rfl
      · rename_i h1 h2 h3
        simp only [h1, h2, h3, if_false] at n
        split
        · rename_i h4
          exact absurd (by rw [if_neg (by decide), if_pos h4]) (n _)
        · simp
/-- what is told without the plate of a name -/
def lessT (n : List Nat) (x b : Td) : Td := match x with
  | .hidden ns => if (ns.any fun s => s == n) then (if (ns.filter fun s => !(s == n)).isEmpty then b else .hidden (ns.filter fun s => !(s == n))) else .hidden ns
  | x => x
theorem tell_less {h : R3 → List (List Nat)} {t : Th} {a d : T3} (n : List Nat) : tellBy (fun q => (h q).filter fun s => !(s == n)) t a d = lessT n (tellBy h t a d) (tellBy (fun _ => []) t a d) := by
  unfold tellBy
  by_cases h1 : 0 < d.z
  · by_cases h2 : 0 < t.p.front.dot d
    · simp only [h1, h2, not_true, if_false]
      generalize t.p.s1 a.rat d = s
      generalize t.p.t1 a.rat d = u
      cases h3 : onPl s u with
      | false => simp [lessT]
      | true =>
        simp only [Bool.not_true, Bool.false_eq_true, if_false]
        generalize h (t.p.at s u) = l
        by_cases h4 : l = []
        · subst h4; simp [lessT]
        · rw [if_pos h4]
          unfold lessT
          simp only
          rw [sort_filter]
          by_cases h5 : ((sortS l).any fun s => s == n) = true
          · rw [if_pos h5]
            by_cases h6 : (l.filter fun s => !(s == n)) = []
            · rw [h6, if_neg (by simp)]; rfl
            · have h7 : (sortS (l.filter fun s => !(s == n))).isEmpty = false := sort_ne h6
              rw [if_pos h6, h7]; rfl
          · rw [if_neg h5]
            have h6 : (l.filter fun s => !(s == n)) = l := by
              rw [List.filter_eq_self]
              intro s hs
              have hs2 : s ∈ sortS l := (sortS_perm l).mem_iff.mpr hs
              simp only [Bool.not_eq_true', beq_eq_false_iff_ne, ne_eq]
              intro z
              subst z
              exact h5 (List.any_eq_true.mpr ⟨s, hs2, by simp⟩)
            rw [h6, if_pos h4]
    · simp [h1, h2, lessT]
  · simp [h1, lessT]
end DY
namespace DY
def hiddenS : List Nat := [104, 105, 100, 100, 101, 110]
/-- what is told is shared data, but where it is hidden -/
theorem td_cases (x : Td) : (∃ s r, tdA x = .fz (.tup (.str s :: r)) ∧ (tdA x).erase = .tup (.str s :: r) ∧ (s == hiddenS) = false ∧ ∀ ns, x ≠ .hidden ns) ∨ ∃ ns, x = .hidden ns := by
  cases x with
  | hidden ns => exact .inr ⟨ns, rfl⟩
  | down => exact .inl ⟨_, _, rfl, rfl, rfl, fun ns e => by cases e⟩
  | behind => exact .inl ⟨_, _, rfl, rfl, rfl, fun ns e => by cases e⟩
  | off s t => exact .inl ⟨_, _, rfl, rfl, rfl, fun ns e => by cases e⟩
  | read s t => exact .inl ⟨_, _, rfl, rfl, rfl, fun ns e => by cases e⟩
end DY
namespace DY
theorem eqDs_strs (ss : List (List Nat)) : eqDs (ss.map .str) (ss.map .str) = true := eqDs_refl _ (plain_strs ss)
end DY
set_option Elab.async false
set_option linter.all false
set_option maxRecDepth 100000
/-! Yards with fewer plates, names all unlike, slices. -/
namespace DY
theorem slice_cut {α : Type} (xs : List α) (k : Nat) (h : k ≤ xs.length) : slice xs none (some (k : Int)) ++ slice xs (some ((k : Int) + 1)) none = xs.eraseIdx k := by
  unfold slice cutZ
  simp only
  rw [if_neg (by omega), if_neg (by omega), List.eraseIdx_eq_take_drop_succ]
  simp only [Int.toNat_natCast, List.drop_zero, Nat.sub_zero]
  have e1 : ((k : Int) + 1).toNat = k + 1 := by omega
  rw [e1, Nat.min_eq_left h]
  congr 1
  by_cases h2 : k + 1 ≤ xs.length
  · rw [Nat.min_eq_left h2]
    exact List.take_of_length_le (by simp)
  · rw [Nat.min_eq_right (by omega), List.drop_eq_nil_of_le (by omega), List.drop_eq_nil_of_le (by omega)]
    simp
theorem eraseIdx_map {α β : Type} (f : α → β) (xs : List α) (k : Nat) : (xs.map f).eraseIdx k = (xs.eraseIdx k).map f := by
  rw [List.eraseIdx_eq_take_drop_succ, List.eraseIdx_eq_take_drop_succ, List.map_append, List.map_take, List.map_drop]
theorem erase_filter : ∀ {l : List Th} {k : Nat} {w : Th}, (l.map (·.nm)).Nodup → l[k]? = some w → l.eraseIdx k = l.filter fun t => !(t.nm == w.nm)
  | [], _, _, _, h => by simp at h
  | x :: xs, 0, w, hn, h => by
    simp only [List.getElem?_cons_zero, Option.some.injEq] at h
    subst h
    rw [List.map_cons, List.nodup_cons] at hn
    rw [List.eraseIdx_cons_zero, List.filter_cons]
    simp only [beq_self_eq_true, Bool.not_true, Bool.false_eq_true, if_false]
    rw [eq_comm, List.filter_eq_self]
    intro t ht
    simp only [Bool.not_eq_true', beq_eq_false_iff_ne, ne_eq]
    intro z
    exact hn.1 (List.mem_map.mpr ⟨t, ht, z⟩)
  | x :: xs, k + 1, w, hn, h => by
    rw [List.getElem?_cons_succ] at h
    rw [List.map_cons, List.nodup_cons] at hn
    rw [List.eraseIdx_cons_succ, List.filter_cons, erase_filter hn.2 h]
    have hw : w ∈ xs := List.mem_of_getElem? h
    have : (x.nm == w.nm) = false := by
      simp only [beq_eq_false_iff_ne, ne_eq]
      intro z
      exact hn.1 (List.mem_map.mpr ⟨w, hw, z.symm⟩)
    rw [this]; rfl
theorem hid_less {sun : List (Int × T3)} {W Dl : List Th} {k : Nat} {w : Th} {nm : List Nat} {q : R3} {d : T3} (hn : ((W ++ Dl).map (·.nm)).Nodup) (h : W[k]? = some w) :
    hid ⟨sun, W.eraseIdx k, Dl⟩ nm q d = (hid ⟨sun, W, Dl⟩ nm q d).filter fun s => !(s == w.nm) := by
  have hk : k < W.length := (List.getElem?_eq_some_iff.mp h).1
  unfold hid
  simp only
  rw [← List.eraseIdx_append_of_lt_length hk, erase_filter hn (w := w) (by rw [List.getElem?_append_left hk]; exact h), List.filter_map, List.filter_filter, List.filter_filter]
  congr 1
  apply List.filter_congr
  intro t _
  simp only [Function.comp]
  rw [Bool.and_comm]
theorem hid_rev {sun sun' : List (Int × T3)} {W Dl : List Th} {nm : List Nat} {q : R3} {d : T3} : (hid ⟨sun, W, Dl⟩ nm q d).Perm (hid ⟨sun', W.reverse, Dl.reverse⟩ nm q d) := by
  unfold hid
  exact ((((List.reverse_perm W).append (List.reverse_perm Dl)).filter _).map _).symm
theorem hid_one {sun : List (Int × T3)} {t : Th} {q : R3} {d : T3} : hid ⟨sun, [], [t]⟩ t.nm q d = [] := by
  unfold hid
  simp
theorem names_W {nm ps} : (yardW nm ps).map (·.nm) = (List.range ps.length).map fun (k : Nat) => nm (k : Int) := by
  apply List.ext_getElem
  · simp [yardW]
  · intro k h1 h2
    simp [yardW]
theorem names_D {nm ds} : (yardD nm ds).map (·.nm) = (List.range ds.length).map fun (k : Nat) => nm (20 + (k : Int)) := by
  apply List.ext_getElem
  · simp [yardD]
  · intro k h1 h2
    simp [yardD]
theorem range_nodup {f : Nat → List Nat} {n : Nat} (h : ∀ a b, a < n → b < n → f a = f b → a = b) : ((List.range n).map f).Nodup := by
  unfold List.Nodup
  rw [List.pairwise_map]
  refine List.Pairwise.imp_of_mem (fun {a b} ha hb hab e => hab (h a b (List.mem_range.mp ha) (List.mem_range.mp hb) e)) List.nodup_range
/-- unlike names of unlike numbers -/
def NmInj (nm : Int → List Nat) : Prop := ∀ a b : Int, 0 ≤ a → 0 ≤ b → a < 600 → b < 600 → nm a = nm b → a = b
theorem names_nodup {nm : Int → List Nat} (h : NmInj nm) {ps : List Pl} {ds : List (Pl × T3 × T3)} (h1 : ps.length ≤ 20) (h2 : ds.length ≤ 500) : ((yardW nm ps ++ yardD nm ds).map (·.nm)).Nodup := by
  rw [List.map_append, names_W, names_D, List.nodup_append]
  refine ⟨range_nodup fun a b ha hb e => by have := h a b (by omega) (by omega) (by omega) (by omega) e; omega,
    range_nodup fun a b ha hb e => by have := h (20 + a) (20 + b) (by omega) (by omega) (by omega) (by omega) e; omega, ?_⟩
  intro x hx y hy e
  obtain ⟨a, ha, ea⟩ := List.mem_map.mp hx
  obtain ⟨b, hb, eb⟩ := List.mem_map.mp hy
  have ha := List.mem_range.mp ha
  have hb := List.mem_range.mp hb
  have := h a (20 + b) (by omega) (by omega) (by omega) (by omega) (by rw [ea, eb, e])
  omega
theorem nodup_right {W Dl : List Th} (h : ((W ++ Dl).map (·.nm)).Nodup) : (Dl.map (·.nm)).Nodup := by
  rw [List.map_append, List.nodup_append] at h
  exact h.2.1
end DY
set_option Elab.async false
set_option linter.all false
set_option maxRecDepth 100000
namespace K37
open DY
/-! the defs of the text, in the small syntax -/
abbrev i_is_whole : Nat := 0
abbrev i_divisor_of : Nat := 1
abbrev i_ratio_of : Nat := 2
abbrev i_ratio_sum : Nat := 3
abbrev i_ratio_less : Nat := 4
abbrev i_ratio_times : Nat := 5
abbrev i_ratio_by : Nat := 6
abbrev i_is_under : Nat := 7
abbrev i_dot_of : Nat := 8
abbrev i_cross_of : Nat := 9
abbrev i_front_of : Nat := 10
abbrev i_point_of : Nat := 11
abbrev i_lies_on : Nat := 12
abbrev i_comes_from_ahead : Nat := 13
abbrev i_as_point : Nat := 14
abbrev i_point_less : Nat := 15
abbrev i_point_dot : Nat := 16
abbrev i_meeting_of : Nat := 17
abbrev i_shadow_of : Nat := 18
abbrev i_is_beyond : Nat := 19
abbrev i_hides_point : Nat := 20
abbrev i_direction_at : Nat := 21
abbrev i_is_up : Nat := 22
abbrev i_dial_of : Nat := 23
abbrev i_hiders : Nat := 24
abbrev i_told_at : Nat := 25
abbrev i__law_cell : Nat := 26
abbrev i__law_wide : Nat := 27
abbrev i__law_triple : Nat := 28
abbrev i__law_cross : Nat := 29
abbrev i__law_dot : Nat := 30
abbrev i__law_on : Nat := 31
abbrev i__law_pair : Nat := 32
abbrev i__law_sun : Nat := 33
abbrev i__law_dial : Nat := 34
abbrev i__law_fence : Nat := 35
abbrev i__law_name : Nat := 36
abbrev i__law_yard : Nat := 37
abbrev i__law_without : Nat := 38
abbrev i_law : Nat := 39
/-- is_whole(thing) -/
def b_is_whole : List S := [.ret (.and (.isi (.var 0) .int) (.not (.isi (.var 0) .bool)))]
def d_is_whole : Df := ⟨["thing"], ["thing"], b_is_whole⟩
/-- divisor_of(one, other) -/
def b_divisor_of : List S := [.whl 1 (.cmp .ne (.var 1) (.int 0)) [.par 0 1 (.var 1) (.bin .mod (.var 0) (.var 1))], .ret (.blt .abs [(.var 0)])]
def d_divisor_of : Df := ⟨["one", "other"], ["one", "other"], b_divisor_of⟩
/-- ratio_of(top, bottom, by) -/
def b_ratio_of : List S := [.ite (.or (.not (.call i_is_whole [(.var 0)])) (.or (.not (.call i_is_whole [(.var 1)])) (.cmp .eq (.var 1) (.int 0)))) [.raise 1 []] [], .set (.nm 2) (.call i_divisor_of [(.var 0), (.var 1)]), .ite (.cmp .lt (.var 1) (.int 0)) [.set (.nm 2) (.neg (.var 2))] [], .ret (.tup [(.bin .div (.var 0) (.var 2)), (.bin .div (.var 1) (.var 2))])]
def d_ratio_of : Df := ⟨["top", "bottom"], ["top", "bottom", "by"], b_ratio_of⟩
/-- ratio_sum(one, other) -/
def b_ratio_sum : List S := [.ret (.call i_ratio_of [(.bin .add (.bin .mul (.ix (.var 0) (.int 0)) (.ix (.var 1) (.int 1))) (.bin .mul (.ix (.var 1) (.int 0)) (.ix (.var 0) (.int 1)))), (.bin .mul (.ix (.var 0) (.int 1)) (.ix (.var 1) (.int 1)))])]
def d_ratio_sum : Df := ⟨["one", "other"], ["one", "other"], b_ratio_sum⟩
/-- ratio_less(one, other) -/
def b_ratio_less : List S := [.ret (.call i_ratio_of [(.bin .sub (.bin .mul (.ix (.var 0) (.int 0)) (.ix (.var 1) (.int 1))) (.bin .mul (.ix (.var 1) (.int 0)) (.ix (.var 0) (.int 1)))), (.bin .mul (.ix (.var 0) (.int 1)) (.ix (.var 1) (.int 1)))])]
def d_ratio_less : Df := ⟨["one", "other"], ["one", "other"], b_ratio_less⟩
/-- ratio_times(one, other) -/
def b_ratio_times : List S := [.ret (.call i_ratio_of [(.bin .mul (.ix (.var 0) (.int 0)) (.ix (.var 1) (.int 0))), (.bin .mul (.ix (.var 0) (.int 1)) (.ix (.var 1) (.int 1)))])]
def d_ratio_times : Df := ⟨["one", "other"], ["one", "other"], b_ratio_times⟩
/-- ratio_by(one, other) -/
def b_ratio_by : List S := [.ret (.call i_ratio_of [(.bin .mul (.ix (.var 0) (.int 0)) (.ix (.var 1) (.int 1))), (.bin .mul (.ix (.var 0) (.int 1)) (.ix (.var 1) (.int 0)))])]
def d_ratio_by : Df := ⟨["one", "other"], ["one", "other"], b_ratio_by⟩
/-- is_under(one, other) -/
def b_is_under : List S := [.ret (.cmp .lt (.bin .mul (.ix (.var 0) (.int 0)) (.ix (.var 1) (.int 1))) (.bin .mul (.ix (.var 1) (.int 0)) (.ix (.var 0) (.int 1))))]
def d_is_under : Df := ⟨["one", "other"], ["one", "other"], b_is_under⟩
/-- dot_of(one, other) -/
def b_dot_of : List S := [.ret (.bin .add (.bin .add (.bin .mul (.ix (.var 0) (.int 0)) (.ix (.var 1) (.int 0))) (.bin .mul (.ix (.var 0) (.int 1)) (.ix (.var 1) (.int 1)))) (.bin .mul (.ix (.var 0) (.int 2)) (.ix (.var 1) (.int 2))))]
def d_dot_of : Df := ⟨["one", "other"], ["one", "other"], b_dot_of⟩
/-- cross_of(one, other, a, b, c, d, e, f) -/
def b_cross_of : List S := [.set (.tp [(.nm 2), (.nm 3), (.nm 4)]) (.var 0), .set (.tp [(.nm 5), (.nm 6), (.nm 7)]) (.var 1), .ret (.tup [(.bin .sub (.bin .mul (.var 3) (.var 7)) (.bin .mul (.var 4) (.var 6))), (.bin .sub (.bin .mul (.var 4) (.var 5)) (.bin .mul (.var 2) (.var 7))), (.bin .sub (.bin .mul (.var 2) (.var 6)) (.bin .mul (.var 3) (.var 5)))])]
def d_cross_of : Df := ⟨["one", "other"], ["one", "other", "a", "b", "c", "d", "e", "f"], b_cross_of⟩
/-- front_of(plate) -/
def b_front_of : List S := [.ret (.call i_cross_of [(.ix (.var 0) (.int 1)), (.ix (.var 0) (.int 2))])]
def d_front_of : Df := ⟨["plate"], ["plate"], b_front_of⟩
/-- point_of(plate, place, found, axis, along, across) -/
abbrev L_point_of_1 : List S := [.set (.nm 4) (.call i_ratio_times [(.ix (.var 1) (.int 0)), (.call i_ratio_of [(.ix (.ix (.var 0) (.int 1)) (.var 3)), (.int 1)])]), .set (.nm 5) (.call i_ratio_times [(.ix (.var 1) (.int 1)), (.call i_ratio_of [(.ix (.ix (.var 0) (.int 2)) (.var 3)), (.int 1)])]), .app (.var 2) (.call i_ratio_sum [(.call i_ratio_of [(.ix (.ix (.var 0) (.int 0)) (.var 3)), (.int 1)]), (.call i_ratio_sum [(.var 4), (.var 5)])])]
def b_point_of : List S := [.set (.nm 2) (.lst []), .loop (.nm 3) (.rng1 (.int 3)) L_point_of_1, .ret (.blt .tuple [(.var 2)])]
def d_point_of : Df := ⟨["plate", "place"], ["plate", "place", "found", "axis", "along", "across"], b_point_of⟩
/-- lies_on(place, one) -/
abbrev L_lies_on_1 : List S := [.ite (.or (.call i_is_under [(.var 1), (.tup [(.int 0), (.int 1)])]) (.call i_is_under [(.tup [(.int 1), (.int 1)]), (.var 1)])) [.ret (.bl false)] []]
def b_lies_on : List S := [.loop (.nm 1) (.seq (.var 0)) L_lies_on_1, .ret (.bl true)]
def d_lies_on : Df := ⟨["place"], ["place", "one"], b_lies_on⟩
/-- comes_from_ahead(plate, direction) -/
def b_comes_from_ahead : List S := [.ret (.cmp .gt (.call i_dot_of [(.call i_front_of [(.var 0)]), (.var 1)]) (.int 0))]
def d_comes_from_ahead : Df := ⟨["plate", "direction"], ["plate", "direction"], b_comes_from_ahead⟩
/-- as_point(triple) -/
def b_as_point : List S := [.ret (.tup [(.tup [(.ix (.var 0) (.int 0)), (.int 1)]), (.tup [(.ix (.var 0) (.int 1)), (.int 1)]), (.tup [(.ix (.var 0) (.int 2)), (.int 1)])])]
def d_as_point : Df := ⟨["triple"], ["triple"], b_as_point⟩
/-- point_less(one, other, here, there) -/
def b_point_less : List S := [.ret (.blt .tuple [(.cmpr [2, 3] (.tp [(.nm 2), (.nm 3)]) (.zip (.var 0) (.var 1)) [] (.call i_ratio_less [(.var 2), (.tup [(.var 3), (.int 1)])]))])]
def d_point_less : Df := ⟨["one", "other"], ["one", "other", "here", "there"], b_point_less⟩
/-- point_dot(point, triple, found, here, there) -/
abbrev L_point_dot_1 : List S := [.set (.nm 2) (.call i_ratio_sum [(.var 2), (.call i_ratio_times [(.var 3), (.tup [(.var 4), (.int 1)])])])]
def b_point_dot : List S := [.set (.nm 2) (.tup [(.int 0), (.int 1)]), .loop (.tp [(.nm 3), (.nm 4)]) (.zip (.var 0) (.var 1)) L_point_dot_1, .ret (.var 2)]
def d_point_dot : Df := ⟨["point", "triple"], ["point", "triple", "found", "here", "there"], b_point_dot⟩
/-- meeting_of(plate, point, direction, corner, side, other, bottom, gap, s, t) -/
def b_meeting_of : List S := [.set (.tp [(.nm 3), (.nm 4), (.nm 5)]) (.var 0), .set (.nm 6) (.call i_dot_of [(.call i_front_of [(.var 0)]), (.var 2)]), .ite (.cmp .eq (.var 6) (.int 0)) [.ret .non] [], .set (.nm 7) (.call i_point_less [(.var 1), (.var 3)]), .set (.nm 8) (.call i_ratio_by [(.call i_point_dot [(.var 7), (.call i_cross_of [(.var 5), (.var 2)])]), (.tup [(.var 6), (.int 1)])]), .set (.nm 9) (.call i_ratio_by [(.call i_point_dot [(.var 7), (.call i_cross_of [(.var 2), (.var 4)])]), (.tup [(.var 6), (.int 1)])]), .ret (.tup [(.var 8), (.var 9)])]
def d_meeting_of : Df := ⟨["plate", "point", "direction"], ["plate", "point", "direction", "corner", "side", "other", "bottom", "gap", "s", "t"], b_meeting_of⟩
/-- shadow_of(plate, tip, direction) -/
def b_shadow_of : List S := [.ite (.not (.call i_comes_from_ahead [(.var 0), (.var 2)])) [.ret .non] [], .ret (.call i_meeting_of [(.var 0), (.call i_as_point [(.var 1)]), (.var 2)])]
def d_shadow_of : Df := ⟨["plate", "tip", "direction"], ["plate", "tip", "direction"], b_shadow_of⟩
/-- is_beyond(plate, point, direction, front, height) -/
def b_is_beyond : List S := [.set (.nm 3) (.call i_front_of [(.var 0)]), .set (.nm 4) (.call i_point_dot [(.call i_point_less [(.var 1), (.ix (.var 0) (.int 0))]), (.var 3)]), .ite (.cmp .gt (.call i_dot_of [(.var 3), (.var 2)]) (.int 0)) [.ret (.call i_is_under [(.var 4), (.tup [(.int 0), (.int 1)])])] [], .ret (.call i_is_under [(.tup [(.int 0), (.int 1)]), (.var 4)])]
def d_is_beyond : Df := ⟨["plate", "point", "direction"], ["plate", "point", "direction", "front", "height"], b_is_beyond⟩
/-- hides_point(plate, point, direction, place) -/
def b_hides_point : List S := [.set (.nm 3) (.call i_meeting_of [(.var 0), (.var 1), (.var 2)]), .ret (.and (.cmp .notN (.var 3) .non) (.and (.call i_lies_on [(.var 3)]) (.call i_is_beyond [(.var 0), (.var 1), (.var 2)])))]
def d_hides_point : Df := ⟨["plate", "point", "direction"], ["plate", "point", "direction", "place"], b_hides_point⟩
/-- direction_at(sun, hour, told, direction) -/
abbrev L_direction_at_1 : List S := [.ite (.cmp .eq (.var 2) (.var 1)) [.ret (.var 3)] []]
def b_direction_at : List S := [.loop (.tp [(.nm 2), (.nm 3)]) (.seq (.var 0)) L_direction_at_1, .raise 2 [(.var 1)]]
def d_direction_at : Df := ⟨["sun", "hour"], ["sun", "hour", "told", "direction"], b_direction_at⟩
/-- is_up(sun, hour) -/
def b_is_up : List S := [.ret (.cmp .gt (.ix (.call i_direction_at [(.var 0), (.var 1)]) (.int 2)) (.int 0))]
def d_is_up : Df := ⟨["sun", "hour"], ["sun", "hour"], b_is_up⟩
/-- dial_of(yard, name, dial) -/
abbrev L_dial_of_1 : List S := [.ite (.cmp .eq (.ix (.var 2) (.int 0)) (.var 1)) [.ret (.var 2)] []]
def b_dial_of : List S := [.loop (.nm 2) (.seq (.ix (.var 0) (.int 2))) L_dial_of_1, .raise 3 []]
def d_dial_of : Df := ⟨["yard", "name"], ["yard", "name", "dial"], b_dial_of⟩
/-- hiders(yard, name, point, direction, found, thing) -/
abbrev L_hiders_1 : List S := [.ite (.and (.cmp .ne (.ix (.var 5) (.int 0)) (.var 1)) (.call i_hides_point [(.ix (.var 5) (.int 1)), (.var 2), (.var 3)])) [.app (.var 4) (.ix (.var 5) (.int 0))] []]
def b_hiders : List S := [.set (.nm 4) (.lst []), .loop (.nm 5) (.seq (.bin .add (.ix (.var 0) (.int 1)) (.ix (.var 0) (.int 2)))) L_hiders_1, .ret (.blt .sorted [(.var 4)])]
def d_hiders : Df := ⟨["yard", "name", "point", "direction"], ["yard", "name", "point", "direction", "found", "thing"], b_hiders⟩
/-- told_at(yard, hour, name, direction, told, plate, tip, place, names) -/
def b_told_at : List S := [.set (.nm 3) (.call i_direction_at [(.ix (.var 0) (.int 0)), (.var 1)]), .set (.tp [(.nm 4), (.nm 5), (.nm 6)]) (.call i_dial_of [(.var 0), (.var 2)]), .ite (.not (.call i_is_up [(.ix (.var 0) (.int 0)), (.var 1)])) [.ret (.tup [(.str [100, 111, 119, 110])])] [], .ite (.not (.call i_comes_from_ahead [(.var 5), (.var 3)])) [.ret (.tup [(.str [98, 101, 104, 105, 110, 100])])] [], .set (.nm 7) (.call i_shadow_of [(.var 5), (.var 6), (.var 3)]), .ite (.not (.call i_lies_on [(.var 7)])) [.ret (.tup [(.str [111, 102, 102]), (.var 7)])] [], .set (.nm 8) (.call i_hiders [(.var 0), (.var 2), (.call i_point_of [(.var 5), (.var 7)]), (.var 3)]), .ite (.cmp .ne (.var 8) (.lst [])) [.ret (.tup [(.str [104, 105, 100, 100, 101, 110]), (.var 8)])] [], .ret (.tup [(.str [114, 101, 97, 100]), (.var 7)])]
def d_told_at : Df := ⟨["yard", "hour", "name"], ["yard", "hour", "name", "direction", "told", "plate", "tip", "place", "names"], b_told_at⟩
/-- _law_cell(script, k, number) -/
def b__law_cell : List S := [.ite (.cmp .lt (.var 1) (.blt .len [(.var 0)])) [.ret (.ix (.var 0) (.var 1))] [], .set (.nm 2) (.bin .add (.bin .add (.bin .mul (.bin .mul (.var 1) (.var 1)) (.int 48271)) (.bin .mul (.int 7919) (.var 1))) (.int 11)), .ite (.cmp .gt (.blt .len [(.var 0)]) (.int 0)) [.set (.nm 2) (.bin .add (.var 2) (.bin .mul (.bin .mod (.ix (.var 0) (.bin .mod (.bin .mul (.var 1) (.int 7)) (.blt .len [(.var 0)]))) (.int 2147483647)) (.bin .add (.bin .mul (.var 1) (.var 1)) (.int 69621))))] [], .ret (.bin .add (.bin .mul (.bin .mod (.bin .mul (.var 2) (.var 2)) (.int 2147483629)) (.int 982451653)) (.var 2))]
def d__law_cell : Df := ⟨["script", "k"], ["script", "k", "number"], b__law_cell⟩
/-- _law_wide(script, k, cell, mixed) -/
def b__law_wide : List S := [.set (.nm 2) (.call i__law_cell [(.var 0), (.var 1)]), .ite (.and (.cmp .lt (.var 1) (.blt .len [(.var 0)])) (.cmp .ge (.var 2) (.bin .pow (.int 10) (.int 18)))) [.ret (.bin .mod (.var 2) (.bin .mul (.bin .pow (.int 10) (.int 60)) (.bin .pow (.int 10) (.int 60))))] [], .set (.nm 3) (.bin .add (.bin .add (.bin .mod (.var 2) (.int 2147483629)) (.int 48271)) (.bin .mul (.var 1) (.var 1))), .ret (.bin .div (.bin .pow (.bin .add (.bin .mul (.var 3) (.int 982451653)) (.int 7)) (.int 7)) (.int 1000003))]
def d__law_wide : Df := ⟨["script", "k"], ["script", "k", "cell", "mixed"], b__law_wide⟩
/-- _law_triple(number, most, size) -/
def b__law_triple : List S := [.set (.nm 2) (.bin .add (.bin .mul (.int 2) (.var 1)) (.int 1)), .ret (.tup [(.bin .sub (.bin .mod (.var 0) (.var 2)) (.var 1)), (.bin .sub (.bin .mod (.bin .div (.var 0) (.var 2)) (.var 2)) (.var 1)), (.bin .sub (.bin .mod (.bin .div (.var 0) (.bin .pow (.var 2) (.int 2))) (.var 2)) (.var 1))])]
def d__law_triple : Df := ⟨["number", "most"], ["number", "most", "size"], b__law_triple⟩
/-- _law_cross(one, other, a, b, c, d, e, f) -/
def b__law_cross : List S := [.set (.tp [(.nm 2), (.nm 3), (.nm 4)]) (.var 0), .set (.tp [(.nm 5), (.nm 6), (.nm 7)]) (.var 1), .ret (.tup [(.bin .sub (.bin .mul (.var 3) (.var 7)) (.bin .mul (.var 4) (.var 6))), (.bin .sub (.bin .mul (.var 4) (.var 5)) (.bin .mul (.var 2) (.var 7))), (.bin .sub (.bin .mul (.var 2) (.var 6)) (.bin .mul (.var 3) (.var 5)))])]
def d__law_cross : Df := ⟨["one", "other"], ["one", "other", "a", "b", "c", "d", "e", "f"], b__law_cross⟩
/-- _law_dot(one, other) -/
def b__law_dot : List S := [.ret (.bin .add (.bin .add (.bin .mul (.ix (.var 0) (.int 0)) (.ix (.var 1) (.int 0))) (.bin .mul (.ix (.var 0) (.int 1)) (.ix (.var 1) (.int 1)))) (.bin .mul (.ix (.var 0) (.int 2)) (.ix (.var 1) (.int 2))))]
def d__law_dot : Df := ⟨["one", "other"], ["one", "other"], b__law_dot⟩
/-- _law_on(one, other, many) -/
def b__law_on : List S := [.ret (.tup [(.bin .add (.ix (.var 0) (.int 0)) (.bin .mul (.var 2) (.ix (.var 1) (.int 0)))), (.bin .add (.ix (.var 0) (.int 1)) (.bin .mul (.var 2) (.ix (.var 1) (.int 1)))), (.bin .add (.ix (.var 0) (.int 2)) (.bin .mul (.var 2) (.ix (.var 1) (.int 2))))])]
def d__law_on : Df := ⟨["one", "other", "many"], ["one", "other", "many"], b__law_on⟩
/-- _law_pair(number, most, one, other) -/
def b__law_pair : List S := [.set (.nm 2) (.call i__law_triple [(.var 0), (.var 1)]), .set (.nm 3) (.call i__law_triple [(.bin .div (.var 0) (.bin .pow (.bin .add (.bin .mul (.int 2) (.var 1)) (.int 1)) (.int 3))), (.var 1)]), .ite (.cmp .eq (.call i__law_cross [(.var 2), (.var 3)]) (.tup [(.int 0), (.int 0), (.int 0)])) [.ret (.tup [(.tup [(.var 1), (.int 0), (.int 0)]), (.tup [(.int 0), (.var 1), (.int 0)])])] [], .ret (.tup [(.var 2), (.var 3)])]
def d__law_pair : Df := ⟨["number", "most"], ["number", "most", "one", "other"], b__law_pair⟩
/-- _law_sun(script, many, found, hour, k, number, high, direction) -/
abbrev L__law_sun_1 : List S := [.set (.nm 5) (.call i__law_wide [(.var 0), (.bin .add (.int 2) (.var 4))]), .set (.nm 6) (.ix (.lst [(.bin .add (.bin .mod (.bin .div (.var 5) (.int 441)) (.int 4)) (.int 1)), (.bin .sub (.bin .mod (.bin .div (.var 5) (.int 441)) (.int 5)) (.int 3))]) (.bin .div (.bin .mod (.var 5) (.int 9)) (.int 7))), .set (.nm 7) (.tup [(.bin .sub (.bin .mod (.bin .div (.var 5) (.int 9)) (.int 7)) (.int 3)), (.bin .sub (.bin .mod (.bin .div (.var 5) (.int 63)) (.int 7)) (.int 3)), (.var 6)]), .ite (.cmp .eq (.var 7) (.tup [(.int 0), (.int 0), (.int 0)])) [.set (.nm 7) (.tup [(.int 0), (.int 0), (.int 1)])] [], .app (.var 2) (.tup [(.var 3), (.var 7)]), .set (.nm 3) (.bin .add (.bin .add (.var 3) (.int 1)) (.bin .mod (.bin .div (.var 5) (.int 2205)) (.int 5)))]
def b__law_sun : List S := [.set (.nm 2) (.lst []), .set (.nm 3) (.bin .mod (.call i__law_wide [(.var 0), (.int 1)]) (.int 24)), .loop (.nm 4) (.rng1 (.var 1)) L__law_sun_1, .ret (.var 2)]
def d__law_sun : Df := ⟨["script", "many"], ["script", "many", "found", "hour", "k", "number", "high", "direction"], b__law_sun⟩
/-- _law_dial(number, sun, many, one, two, direction, ahead, corner, a, b, point, tip) -/
def b__law_dial : List S := [.set (.nm 2) (.bin .add (.int 1) (.bin .mod (.var 0) (.int 4))), .set (.nm 0) (.bin .div (.var 0) (.int 4)), .set (.tp [(.nm 3), (.nm 4)]) (.call i__law_pair [(.bin .div (.var 0) (.int 2000)), (.int 2)]), .set (.nm 5) (.ix (.ix (.var 1) (.bin .mod (.var 0) (.blt .len [(.var 1)]))) (.int 1)), .set (.nm 6) (.call i__law_dot [(.call i__law_cross [(.var 3), (.var 4)]), (.var 5)]), .ite (.cmp .lt (.var 6) (.int 0)) [.par 3 4 (.var 4) (.var 3)] [], .ite (.cmp .eq (.var 6) (.int 0)) [.set (.nm 5) (.call i__law_cross [(.var 3), (.var 4)])] [], .set (.nm 0) (.bin .div (.var 0) (.bin .pow (.int 10) (.int 10))), .set (.nm 7) (.call i__law_triple [(.var 0), (.int 6)]), .set (.nm 0) (.bin .div (.var 0) (.bin .pow (.int 13) (.int 3))), .set (.nm 8) (.ix (.lst [(.bin .mod (.var 0) (.bin .add (.var 2) (.int 1))), (.bin .sub (.bin .mod (.var 0) (.bin .add (.var 2) (.int 3))) (.int 1))]) (.bin .div (.bin .mod (.bin .div (.var 0) (.int 30)) (.int 4)) (.int 3))), .set (.nm 9) (.ix (.lst [(.bin .mod (.bin .div (.var 0) (.int 120)) (.bin .add (.var 2) (.int 1))), (.bin .sub (.bin .mod (.bin .div (.var 0) (.int 120)) (.bin .add (.var 2) (.int 3))) (.int 1))]) (.bin .div (.bin .mod (.bin .div (.var 0) (.int 3600)) (.int 4)) (.int 3))), .set (.nm 10) (.call i__law_on [(.call i__law_on [(.var 7), (.var 3), (.var 8)]), (.var 4), (.var 9)]), .set (.nm 11) (.call i__law_on [(.var 10), (.var 5), (.bin .add (.int 1) (.bin .mod (.bin .div (.var 0) (.int 14400)) (.int 6)))]), .ret (.tup [(.tup [(.var 7), (.call i__law_on [(.tup [(.int 0), (.int 0), (.int 0)]), (.var 3), (.var 2)]), (.call i__law_on [(.tup [(.int 0), (.int 0), (.int 0)]), (.var 4), (.var 2)])]), (.var 11), (.var 10)])]
def d__law_dial : Df := ⟨["number", "sun"], ["number", "sun", "many", "one", "two", "direction", "ahead", "corner", "a", "b", "point", "tip"], b__law_dial⟩
/-- _law_fence(number, sun, dials, point, direction, many, one, two, met, i, j, corner) -/
def b__law_fence : List S := [.set (.nm 3) (.tup [(.int 0), (.int 0), (.int 1)]), .ite (.cmp .ne (.var 2) (.lst [])) [.set (.nm 3) (.ix (.ix (.var 2) (.bin .mod (.var 0) (.blt .len [(.var 2)]))) (.int 2))] [], .set (.nm 4) (.ix (.ix (.var 1) (.bin .mod (.bin .div (.var 0) (.int 60)) (.blt .len [(.var 1)]))) (.int 1)), .set (.nm 0) (.bin .div (.var 0) (.int 3600)), .set (.nm 5) (.bin .add (.int 1) (.bin .mod (.var 0) (.int 3))), .set (.tp [(.nm 6), (.nm 7)]) (.call i__law_pair [(.bin .div (.var 0) (.int 3)), (.int 2)]), .set (.nm 0) (.bin .div (.var 0) (.bin .pow (.int 10) (.int 6))), .set (.nm 8) (.call i__law_on [(.var 3), (.var 4), (.bin .sub (.bin .mod (.var 0) (.int 9)) (.int 1))]), .set (.nm 9) (.bin .sub (.bin .mod (.bin .div (.var 0) (.int 9)) (.bin .add (.var 5) (.int 2))) (.int 1)), .set (.nm 10) (.bin .sub (.bin .mod (.bin .div (.var 0) (.int 60)) (.bin .add (.var 5) (.int 2))) (.int 1)), .set (.nm 11) (.call i__law_on [(.call i__law_on [(.var 8), (.var 6), (.bin .sub (.int 0) (.var 9))]), (.var 7), (.bin .sub (.int 0) (.var 10))]), .ret (.tup [(.var 11), (.call i__law_on [(.tup [(.int 0), (.int 0), (.int 0)]), (.var 6), (.var 5)]), (.call i__law_on [(.tup [(.int 0), (.int 0), (.int 0)]), (.var 7), (.var 5)])])]
def d__law_fence : Df := ⟨["number", "sun", "dials"], ["number", "sun", "dials", "point", "direction", "many", "one", "two", "met", "i", "j", "corner"], b__law_fence⟩
/-- _law_name(script, k, letters, pad, middle) -/
def b__law_name : List S := [.set (.nm 2) (.str [97, 98, 99, 100, 101, 102, 103, 104, 105, 106, 107, 108, 109, 110, 111, 112, 113, 114, 115, 116, 117, 118, 119, 120, 121, 122]), .set (.nm 3) (.call i__law_wide [(.var 0), (.int 60)]), .set (.nm 4) (.bin .add (.ix (.var 2) (.bin .mod (.bin .add (.var 1) (.bin .div (.var 3) (.int 20))) (.int 26))) (.ix (.var 2) (.bin .div (.var 1) (.int 26)))), .ret (.bin .add (.bin .add (.bin .mul (.str [120]) (.bin .mod (.var 3) (.int 5))) (.var 4)) (.bin .mul (.str [113]) (.bin .mod (.bin .div (.var 3) (.int 4)) (.int 3))))]
def d__law_name : Df := ⟨["script", "k"], ["script", "k", "letters", "pad", "middle"], b__law_name⟩
/-- _law_yard(script, most_dials, most_walls, most_hours, shape, sun, dials, k, walls, named, faces) -/
abbrev L__law_yard_1 : List S := [.app (.var 6) (.call i__law_dial [(.call i__law_wide [(.var 0), (.bin .add (.int 20) (.var 7))]), (.var 5)])]
abbrev L__law_yard_2 : List S := [.app (.var 8) (.call i__law_fence [(.call i__law_wide [(.var 0), (.bin .add (.int 40) (.var 7))]), (.var 5), (.var 6)])]
def b__law_yard : List S := [.set (.nm 4) (.bin .div (.call i__law_wide [(.var 0), (.int 0)]) (.int 2)), .set (.nm 5) (.call i__law_sun [(.var 0), (.bin .add (.int 1) (.bin .mod (.var 4) (.var 3)))]), .set (.nm 6) (.lst []), .loop (.nm 7) (.rng1 (.bin .mod (.bin .div (.var 4) (.int 100)) (.bin .add (.var 1) (.int 1)))) L__law_yard_1, .set (.nm 8) (.lst []), .loop (.nm 7) (.rng1 (.bin .mod (.bin .div (.var 4) (.int 10000)) (.bin .add (.var 2) (.int 1)))) L__law_yard_2, .set (.nm 9) (.cmpr [7] (.nm 7) (.rng1 (.blt .len [(.var 8)])) [] (.tup [(.call i__law_name [(.var 0), (.var 7)]), (.ix (.var 8) (.var 7))])), .set (.nm 10) (.cmpr [7] (.nm 7) (.rng1 (.blt .len [(.var 6)])) [] (.tup [(.call i__law_name [(.var 0), (.bin .add (.int 20) (.var 7))]), (.ix (.ix (.var 6) (.var 7)) (.int 0)), (.ix (.ix (.var 6) (.var 7)) (.int 1))])), .ret (.tup [(.var 5), (.var 9), (.var 10)])]
def d__law_yard : Df := ⟨["script", "most_dials", "most_walls", "most_hours"], ["script", "most_dials", "most_walls", "most_hours", "shape", "sun", "dials", "k", "walls", "named", "faces"], b__law_yard⟩
/-- _law_without(found, name, bare, left, other) -/
def b__law_without : List S := [.ite (.or (.cmp .ne (.ix (.var 0) (.int 0)) (.str [104, 105, 100, 100, 101, 110])) (.cmp .notIn (.var 1) (.ix (.var 0) (.int 1)))) [.ret (.var 0)] [], .set (.nm 3) (.cmpr [4] (.nm 4) (.seq (.ix (.var 0) (.int 1))) [(.cmp .ne (.var 4) (.var 1))] (.var 4)), .ite (.cmp .eq (.var 3) (.lst [])) [.ret (.var 2)] [], .ret (.tup [(.str [104, 105, 100, 100, 101, 110]), (.var 3)])]
def d__law_without : Df := ⟨["found", "name", "bare"], ["found", "name", "bare", "left", "other"], b__law_without⟩
/-- law(script, sun, walls, dials, number, at, fewer, hour, direction, name, plate, tip, found, bare, due) -/
abbrev L_law_1 : List S := [.set (.nm 12) (.call i_told_at [(.tup [(.var 1), (.var 2), (.var 3)]), (.var 7), (.var 9)]), .ite (.cmp .ne (.call i_told_at [(.tup [(.var 1), (.rev (.var 2)), (.rev (.var 3))]), (.var 7), (.var 9)]) (.var 12)) [.ret (.bl false)] [], .ite (.cmp .ne (.call i_told_at [(.tup [(.lst [(.tup [(.var 7), (.var 8)])]), (.var 2), (.var 3)]), (.var 7), (.var 9)]) (.var 12)) [.ret (.bl false)] [], .set (.nm 13) (.call i_told_at [(.tup [(.var 1), (.lst []), (.lst [(.tup [(.var 9), (.var 10), (.var 11)])])]), (.var 7), (.var 9)]), .set (.nm 14) (.var 12), .ite (.cmp .ne (.var 2) (.lst [])) [.set (.nm 14) (.call i__law_without [(.var 12), (.ix (.ix (.var 2) (.var 5)) (.int 0)), (.var 13)])] [], .ite (.cmp .ne (.call i_told_at [(.var 6), (.var 7), (.var 9)]) (.var 14)) [.ret (.bl false)] [], .ite (.or (.cmp .eq (.ix (.var 13) (.int 0)) (.str [104, 105, 100, 100, 101, 110])) (.and (.cmp .ne (.ix (.var 12) (.int 0)) (.str [104, 105, 100, 100, 101, 110])) (.cmp .ne (.var 13) (.var 12)))) [.ret (.bl false)] []]
abbrev L_law_2 : List S := [.loop (.tp [(.nm 9), (.nm 10), (.nm 11)]) (.seq (.var 3)) L_law_1]
def b_law : List S := [.set (.tp [(.nm 1), (.nm 2), (.nm 3)]) (.call i__law_yard [(.var 0), (.int 5), (.int 5), (.int 8)]), .set (.nm 4) (.bin .div (.call i__law_wide [(.var 0), (.int 0)]) (.bin .pow (.int 10) (.int 10))), .set (.nm 5) (.int 0), .ite (.cmp .ne (.var 2) (.lst [])) [.set (.nm 5) (.bin .mod (.var 4) (.blt .len [(.var 2)]))] [], .set (.nm 6) (.tup [(.var 1), (.bin .add (.sl (.var 2) none (some (.var 5))) (.sl (.var 2) (some (.bin .add (.var 5) (.int 1))) none)), (.var 3)]), .loop (.tp [(.nm 7), (.nm 8)]) (.seq (.var 1)) L_law_2, .ret (.bl true)]
def d_law : Df := ⟨["script"], ["script", "sun", "walls", "dials", "number", "at", "fewer", "hour", "direction", "name", "plate", "tip", "found", "bare", "due"], b_law⟩
def Ds : List Df := [d_is_whole, d_divisor_of, d_ratio_of, d_ratio_sum, d_ratio_less, d_ratio_times, d_ratio_by, d_is_under, d_dot_of, d_cross_of, d_front_of, d_point_of, d_lies_on, d_comes_from_ahead, d_as_point, d_point_less, d_point_dot, d_meeting_of, d_shadow_of, d_is_beyond, d_hides_point, d_direction_at, d_is_up, d_dial_of, d_hiders, d_told_at, d__law_cell, d__law_wide, d__law_triple, d__law_cross, d__law_dot, d__law_on, d__law_pair, d__law_sun, d__law_dial, d__law_fence, d__law_name, d__law_yard, d__law_without, d_law]
def fnT : List (PySem.Str × Nat) := [(("is_whole" : PySem.Str), 1), (("divisor_of" : PySem.Str), 2), (("ratio_of" : PySem.Str), 2), (("ratio_sum" : PySem.Str), 2), (("ratio_less" : PySem.Str), 2), (("ratio_times" : PySem.Str), 2), (("ratio_by" : PySem.Str), 2), (("is_under" : PySem.Str), 2), (("dot_of" : PySem.Str), 2), (("cross_of" : PySem.Str), 2), (("front_of" : PySem.Str), 1), (("point_of" : PySem.Str), 2), (("lies_on" : PySem.Str), 1), (("comes_from_ahead" : PySem.Str), 2), (("as_point" : PySem.Str), 1), (("point_less" : PySem.Str), 2), (("point_dot" : PySem.Str), 2), (("meeting_of" : PySem.Str), 3), (("shadow_of" : PySem.Str), 3), (("is_beyond" : PySem.Str), 3), (("hides_point" : PySem.Str), 3), (("direction_at" : PySem.Str), 2), (("is_up" : PySem.Str), 2), (("dial_of" : PySem.Str), 2), (("hiders" : PySem.Str), 4), (("told_at" : PySem.Str), 3), (("_law_cell" : PySem.Str), 2), (("_law_wide" : PySem.Str), 2), (("_law_triple" : PySem.Str), 2), (("_law_cross" : PySem.Str), 2), (("_law_dot" : PySem.Str), 2), (("_law_on" : PySem.Str), 3), (("_law_pair" : PySem.Str), 2), (("_law_sun" : PySem.Str), 2), (("_law_dial" : PySem.Str), 2), (("_law_fence" : PySem.Str), 3), (("_law_name" : PySem.Str), 2), (("_law_yard" : PySem.Str), 4), (("_law_without" : PySem.Str), 3), (("law" : PySem.Str), 1)]
def cn : List PySem.Str := []
def G : Nat → Option D := fun i => ([] : List D)[i]?
def above : Hier := fun a b => a == b || ([(0, 0), (0, 100), (1, 1), (1, 0), (1, 100), (2, 2), (2, 0), (2, 100), (3, 3), (3, 0), (3, 100)] : List (Nat × Nat)).contains (a, b)
abbrev F (i : Nat) : List D → R AV := Fn G above Ds i
end K37
set_option Elab.async false
set_option linter.all false
set_option maxRecDepth 100000
set_option maxHeartbeats 1000000
namespace K37
open DY
theorem atZ_0 {α : Type} {x : α} {xs : List α} : atZ (x :: xs) 0 = some x := rfl
theorem atZ_1 {α : Type} {x y : α} {xs : List α} : atZ (x :: y :: xs) 1 = some y := rfl
theorem atZ_2 {α : Type} {x y z : α} {xs : List α} : atZ (x :: y :: z :: xs) 2 = some z := rfl
theorem line_1 : (0 + 1 ≤ line) = True := by simp [line]
theorem line_2 : (0 + 1 + 1 ≤ line) = True := by simp [line]
theorem line_3 : (0 + 1 + 1 + 1 ≤ line) = True := by simp [line]
theorem line_a : (0 < line) = True := by simp [line]
theorem line_b : (0 + 1 < line) = True := by simp [line]
theorem line_c : (0 + 1 + 1 < line) = True := by simp [line]
section
variable {C : Nat → List D → R AV} {s : S} {ss : List S} {ρ ρ' : Ev} {a : AV} {r : R Out} {n : Nat} {ds : List D}
theorem exs_step (h : ex C G above s ρ = .ok (.nx ρ')) (h' : exs C G above ss ρ' = r) : exs C G above (s :: ss) ρ = r := by
  simp only [exs]; rw [h]; exact h'
theorem exs_ret (h : ex C G above s ρ = .ok (.rt a)) : exs C G above (s :: ss) ρ = .ok (.rt a) := by
  simp only [exs]; rw [h]
theorem run_of (h : exs C G above ss (ds.map (fun d => some (.fz d)) ++ List.replicate (n - ds.length) none) = .ok (.rt a)) : DY.run C G above n ss ds = .ok a := by
  unfold DY.run; rw [h]
end
theorem pz20 : placeZ 2 0 = some 0 := rfl
theorem pz21 : placeZ 2 1 = some 1 := rfl
theorem pz30 : placeZ 3 0 = some 0 := rfl
theorem pz31 : placeZ 3 1 = some 1 := rfl
theorem pz32 : placeZ 3 2 = some 2 := rfl
theorem exs_two {C : Nat → List D → R AV} {a b : S} {l : List S} {ρ ρ' : Ev} {r : R Out} (h : exs C G above [a, b] ρ = .ok (.nx ρ')) (h' : exs C G above l ρ' = r) : exs C G above (a :: b :: l) ρ = r := by
  simp only [exs] at h ⊢
  cases e : ex C G above a ρ with
  | ok o =>
    rw [e] at h
    cases o with
    | nx ρ1 =>
      simp only at h ⊢
      cases e2 : ex C G above b ρ1 with
      | ok o2 =>
        rw [e2] at h
        cases o2 with
        | nx ρ2 => simp only at h ⊢; cases h; exact h'
        | rt a => cases h
      | er _ _ => rw [e2] at h; cases h
      | no => rw [e2] at h; cases h
    | rt a => cases h
  | er _ _ => rw [e] at h; cases h
  | no => rw [e] at h; cases h
theorem F_is_whole {i : Int} : F i_is_whole [.int i] = .ok (.fz (.bl true)) := by
  rw [show F i_is_whole = _ from Fn_at (d := d_is_whole) rfl]
  simp only [d_is_whole, b_is_whole, run, exs, ex, evB, evM, evML, ev, evF, evA, evO, evT, evI, bndP, bndS, lift, liftS, own, callP, peekL, frzL, DY.peek, look, DY.get, DY.shl, DY.frz, nav, DY.put, blOf, intOf, lstOf, AV.erase, eraseL, binD, cmpD, bltD, isiD, asg, asgL, thin, thinD, thinL, ixP, Option.map_some, Option.map_none, Option.bind_some, Option.bind_none, List.map_cons, List.map_nil, List.length_cons, List.length_nil, List.replicate, List.cons_append, List.nil_append, List.append_nil, List.getElem?_cons_zero, List.getElem?_cons_succ, List.getElem?_nil, List.set_cons_zero, List.set_cons_succ, Nat.sub_self, Nat.reduceSub, Nat.reduceAdd, Bool.not_true, Bool.not_false, if_true, if_false, Bool.false_eq_true, eqD, eqDs, depth, depthL, Nat.zero_le, and_self, and_true, true_and, atZ_0, atZ_1, atZ_2, line_2, line_3, reduceCtorEq, Bool.and_true, Bool.true_and, Bool.and_false, Bool.false_and, Bool.or_true, Bool.or_false, Bool.true_or, Bool.false_or, List.all_cons, List.all_nil, line_1, Nat.reduceLeDiff, Nat.max_self, Nat.zero_max, Nat.max_zero, Int.reduceNe, Int.reduceEq, pz20, pz21, pz30, pz31, pz32]
theorem whl_divisor (C : Nat → List D → R AV) : ∀ (n : Nat) (a b : Int), b.natAbs < n → ∃ g : Int, g.natAbs = Int.gcd a b ∧
    whileL (evB C G above (.cmp .ne (.var 1) (.int 0))) (exs C G above [.par 0 1 (.var 1) (.bin .mod (.var 0) (.var 1))]) n [some (.fz (.int a)), some (.fz (.int b))] = .ok (.nx [some (.fz (.int g)), some (.fz (.int 0))])
  | 0, a, b, h => by omega
  | n + 1, a, b, h => by
    by_cases hb : b = 0
    · subst hb
      refine ⟨a, by simp, ?_⟩
      simp only [whileL, run, exs, ex, evB, evM, evML, ev, evF, evA, evO, evT, evI, bndP, bndS, lift, liftS, own, callP, peekL, frzL, DY.peek, look, DY.get, DY.shl, DY.frz, nav, DY.put, blOf, intOf, lstOf, AV.erase, eraseL, binD, cmpD, bltD, isiD, asg, asgL, thin, thinD, thinL, ixP, Option.map_some, Option.map_none, Option.bind_some, Option.bind_none, List.map_cons, List.map_nil, List.length_cons, List.length_nil, List.replicate, List.cons_append, List.nil_append, List.append_nil, List.getElem?_cons_zero, List.getElem?_cons_succ, List.getElem?_nil, List.set_cons_zero, List.set_cons_succ, Nat.sub_self, Nat.reduceSub, Nat.reduceAdd, Bool.not_true, Bool.not_false, if_true, if_false, Bool.false_eq_true, eqD, eqDs, depth, depthL, Nat.zero_le, and_self, and_true, true_and, atZ_0, atZ_1, atZ_2, line_2, line_3, reduceCtorEq, Bool.and_true, Bool.true_and, Bool.and_false, Bool.false_and, Bool.or_true, Bool.or_false, Bool.true_or, Bool.false_or, List.all_cons, List.all_nil, line_1, Nat.reduceLeDiff, Nat.max_self, Nat.zero_max, Nat.max_zero, Int.reduceNe, Int.reduceEq, pz20, pz21, pz30, pz31, pz32, show ((0 : Int) == 0) = true from rfl]
    · obtain ⟨g, h1, h2⟩ := whl_divisor C n b (a.fmod b) (by have := fmod_abs a b hb; omega)
      refine ⟨g, h1.trans (gcd_fmod a b), ?_⟩
      rw [← h2]
      have hb2 : (b == 0) = false := by simpa using hb
      simp only [whileL, run, exs, ex, evB, evM, evML, ev, evF, evA, evO, evT, evI, bndP, bndS, lift, liftS, own, callP, peekL, frzL, DY.peek, look, DY.get, DY.shl, DY.frz, nav, DY.put, blOf, intOf, lstOf, AV.erase, eraseL, binD, cmpD, bltD, isiD, asg, asgL, thin, thinD, thinL, ixP, Option.map_some, Option.map_none, Option.bind_some, Option.bind_none, List.map_cons, List.map_nil, List.length_cons, List.length_nil, List.replicate, List.cons_append, List.nil_append, List.append_nil, List.getElem?_cons_zero, List.getElem?_cons_succ, List.getElem?_nil, List.set_cons_zero, List.set_cons_succ, Nat.sub_self, Nat.reduceSub, Nat.reduceAdd, Bool.not_true, Bool.not_false, if_true, if_false, Bool.false_eq_true, eqD, eqDs, depth, depthL, Nat.zero_le, and_self, and_true, true_and, atZ_0, atZ_1, atZ_2, line_2, line_3, reduceCtorEq, Bool.and_true, Bool.true_and, Bool.and_false, Bool.false_and, Bool.or_true, Bool.or_false, Bool.true_or, Bool.false_or, List.all_cons, List.all_nil, line_1, Nat.reduceLeDiff, Nat.max_self, Nat.zero_max, Nat.max_zero, Int.reduceNe, Int.reduceEq, pz20, pz21, pz30, pz31, pz32, hb2, ne_eq, hb, not_false_eq_true]
theorem F_divisor_of {a b : Int} : F i_divisor_of [.int a, .int b] = .ok (.fz (.int (Int.gcd a b))) := by
  rw [show F i_divisor_of = _ from Fn_at (d := d_divisor_of) rfl]
  obtain ⟨g, h1, h2⟩ := whl_divisor (Cs G above Ds i_divisor_of) (b.natAbs + 1) a b (by omega)
  have h3 : (if g < 0 then -g else g) = (Int.gcd a b : Int) := by omega
  refine run_of (exs_step h2 ?_)
  simp only [run, exs, ex, evB, evM, evML, ev, evF, evA, evO, evT, evI, bndP, bndS, lift, liftS, own, callP, peekL, frzL, DY.peek, look, DY.get, DY.shl, DY.frz, nav, DY.put, blOf, intOf, lstOf, AV.erase, eraseL, binD, cmpD, bltD, isiD, asg, asgL, thin, thinD, thinL, ixP, Option.map_some, Option.map_none, Option.bind_some, Option.bind_none, List.map_cons, List.map_nil, List.length_cons, List.length_nil, List.replicate, List.cons_append, List.nil_append, List.append_nil, List.getElem?_cons_zero, List.getElem?_cons_succ, List.getElem?_nil, List.set_cons_zero, List.set_cons_succ, Nat.sub_self, Nat.reduceSub, Nat.reduceAdd, Bool.not_true, Bool.not_false, if_true, if_false, Bool.false_eq_true, eqD, eqDs, depth, depthL, Nat.zero_le, and_self, and_true, true_and, atZ_0, atZ_1, atZ_2, line_2, line_3, reduceCtorEq, Bool.and_true, Bool.true_and, Bool.and_false, Bool.false_and, Bool.or_true, Bool.or_false, Bool.true_or, Bool.false_or, List.all_cons, List.all_nil, line_1, Nat.reduceLeDiff, Nat.max_self, Nat.zero_max, Nat.max_zero, Int.reduceNe, Int.reduceEq, pz20, pz21, pz30, pz31, pz32, h3]
theorem F_ratio_of {n : Nat} {t b : Int} (h : b ≠ 0) (hb : Bt n b) (hn : n < 8000) : F i_ratio_of [.int t, .int b] = .ok (.fz (rt (Rat.divInt t b))) := by
  have hg : (Int.gcd t b : Int) ≠ 0 := by
    intro z
    have : Int.gcd t b = 0 := by exact_mod_cast z
    exact h (Int.gcd_eq_zero_iff.mp this).2
  have hle : Int.gcd t b ≤ b.natAbs := Nat.le_of_dvd (by omega) (Int.gcd_dvd_natAbs_right t b)
  have ok1 : divOk (Int.gcd t b : Int) := divOk_of (hb.of_abs (by omega)) (by omega) hg
  have ok2 : divOk (-(Int.gcd t b : Int)) := divOk_of (hb.of_abs (by omega)) (by omega) (by omega)
  have hb2 : (b == 0) = false := by simpa using h
  rw [rt_divInt h, show F i_ratio_of = _ from Fn_at (d := d_ratio_of) rfl]
  by_cases h0 : b < 0
  · simp only [d_ratio_of, b_ratio_of, run, exs, ex, evB, evM, evML, ev, evF, evA, evO, evT, evI, bndP, bndS, lift, liftS, own, callP, peekL, frzL, DY.peek, look, DY.get, DY.shl, DY.frz, nav, DY.put, blOf, intOf, lstOf, AV.erase, eraseL, binD, cmpD, bltD, isiD, asg, asgL, thin, thinD, thinL, ixP, Option.map_some, Option.map_none, Option.bind_some, Option.bind_none, List.map_cons, List.map_nil, List.length_cons, List.length_nil, List.replicate, List.cons_append, List.nil_append, List.append_nil, List.getElem?_cons_zero, List.getElem?_cons_succ, List.getElem?_nil, List.set_cons_zero, List.set_cons_succ, Nat.sub_self, Nat.reduceSub, Nat.reduceAdd, Bool.not_true, Bool.not_false, if_true, if_false, Bool.false_eq_true, eqD, eqDs, depth, depthL, Nat.zero_le, and_self, and_true, true_and, atZ_0, atZ_1, atZ_2, line_2, line_3, reduceCtorEq, Bool.and_true, Bool.true_and, Bool.and_false, Bool.false_and, Bool.or_true, Bool.or_false, Bool.true_or, Bool.false_or, List.all_cons, List.all_nil, line_1, Nat.reduceLeDiff, Nat.max_self, Nat.zero_max, Nat.max_zero, Int.reduceNe, Int.reduceEq, pz20, pz21, pz30, pz31, pz32, Cs_Fn (show i_is_whole < i_ratio_of by decide), Cs_Fn (show i_divisor_of < i_ratio_of by decide), show ∀ t, Fn G above Ds i_is_whole [.int t] = _ from fun _ => F_is_whole, show ∀ a b, Fn G above Ds i_divisor_of [.int a, .int b] = _ from fun _ _ => F_divisor_of, hb2, h0, decide_true, ok2]
  · simp only [d_ratio_of, b_ratio_of, run, exs, ex, evB, evM, evML, ev, evF, evA, evO, evT, evI, bndP, bndS, lift, liftS, own, callP, peekL, frzL, DY.peek, look, DY.get, DY.shl, DY.frz, nav, DY.put, blOf, intOf, lstOf, AV.erase, eraseL, binD, cmpD, bltD, isiD, asg, asgL, thin, thinD, thinL, ixP, Option.map_some, Option.map_none, Option.bind_some, Option.bind_none, List.map_cons, List.map_nil, List.length_cons, List.length_nil, List.replicate, List.cons_append, List.nil_append, List.append_nil, List.getElem?_cons_zero, List.getElem?_cons_succ, List.getElem?_nil, List.set_cons_zero, List.set_cons_succ, Nat.sub_self, Nat.reduceSub, Nat.reduceAdd, Bool.not_true, Bool.not_false, if_true, if_false, Bool.false_eq_true, eqD, eqDs, depth, depthL, Nat.zero_le, and_self, and_true, true_and, atZ_0, atZ_1, atZ_2, line_2, line_3, reduceCtorEq, Bool.and_true, Bool.true_and, Bool.and_false, Bool.false_and, Bool.or_true, Bool.or_false, Bool.true_or, Bool.false_or, List.all_cons, List.all_nil, line_1, Nat.reduceLeDiff, Nat.max_self, Nat.zero_max, Nat.max_zero, Int.reduceNe, Int.reduceEq, pz20, pz21, pz30, pz31, pz32, Cs_Fn (show i_is_whole < i_ratio_of by decide), Cs_Fn (show i_divisor_of < i_ratio_of by decide), show ∀ t, Fn G above Ds i_is_whole [.int t] = _ from fun _ => F_is_whole, show ∀ a b, Fn G above Ds i_divisor_of [.int a, .int b] = _ from fun _ _ => F_divisor_of, hb2, h0, decide_false, ok1]

section
variable {m n : Nat} {p q : Rat}
theorem F_ratio_sum (hp : Bq m p) (hq : Bq n q) (h : m + n < 8000) : F i_ratio_sum [rt p, rt q] = .ok (.fz (rt (p + q))) := by
  have o1 := mulOk_of hp.num hq.den (by omega)
  have o2 := mulOk_of hq.num hp.den (by omega)
  have o3 := mulOk_of hp.den hq.den (by omega)
  have r := F_ratio_of (t := p.num * q.den + q.num * p.den) (Int.mul_ne_zero (den0 p) (den0 q)) (hp.den.mul hq.den) h
  rw [add_rt] at r
  rw [show F i_ratio_sum = _ from Fn_at (d := d_ratio_sum) rfl]
  simp only [d_ratio_sum, b_ratio_sum, rt, run, exs, ex, evB, evM, evML, ev, evF, evA, evO, evT, evI, bndP, bndS, lift, liftS, own, callP, peekL, frzL, DY.peek, look, DY.get, DY.shl, DY.frz, nav, DY.put, blOf, intOf, lstOf, AV.erase, eraseL, binD, cmpD, bltD, isiD, asg, asgL, thin, thinD, thinL, ixP, Option.map_some, Option.map_none, Option.bind_some, Option.bind_none, List.map_cons, List.map_nil, List.length_cons, List.length_nil, List.replicate, List.cons_append, List.nil_append, List.append_nil, List.getElem?_cons_zero, List.getElem?_cons_succ, List.getElem?_nil, List.set_cons_zero, List.set_cons_succ, Nat.sub_self, Nat.reduceSub, Nat.reduceAdd, Bool.not_true, Bool.not_false, if_true, if_false, Bool.false_eq_true, eqD, eqDs, depth, depthL, Nat.zero_le, and_self, and_true, true_and, atZ_0, atZ_1, atZ_2, line_2, line_3, reduceCtorEq, Bool.and_true, Bool.true_and, Bool.and_false, Bool.false_and, Bool.or_true, Bool.or_false, Bool.true_or, Bool.false_or, List.all_cons, List.all_nil, line_1, Nat.reduceLeDiff, Nat.max_self, Nat.zero_max, Nat.max_zero, Int.reduceNe, Int.reduceEq, pz20, pz21, pz30, pz31, pz32, o1, o2, o3, Cs_Fn (show i_ratio_of < i_ratio_sum by decide)]
  rw [show Fn G above Ds i_ratio_of [.int (p.num * q.den + q.num * p.den), .int (p.den * q.den)] = _ from r]
  simp only [run, exs, ex, evB, evM, evML, ev, evF, evA, evO, evT, evI, bndP, bndS, lift, liftS, own, callP, peekL, frzL, DY.peek, look, DY.get, DY.shl, DY.frz, nav, DY.put, blOf, intOf, lstOf, AV.erase, eraseL, binD, cmpD, bltD, isiD, asg, asgL, thin, thinD, thinL, ixP, Option.map_some, Option.map_none, Option.bind_some, Option.bind_none, List.map_cons, List.map_nil, List.length_cons, List.length_nil, List.replicate, List.cons_append, List.nil_append, List.append_nil, List.getElem?_cons_zero, List.getElem?_cons_succ, List.getElem?_nil, List.set_cons_zero, List.set_cons_succ, Nat.sub_self, Nat.reduceSub, Nat.reduceAdd, Bool.not_true, Bool.not_false, if_true, if_false, Bool.false_eq_true, eqD, eqDs, depth, depthL, Nat.zero_le, and_self, and_true, true_and, atZ_0, atZ_1, atZ_2, line_2, line_3, reduceCtorEq, Bool.and_true, Bool.true_and, Bool.and_false, Bool.false_and, Bool.or_true, Bool.or_false, Bool.true_or, Bool.false_or, List.all_cons, List.all_nil, line_1, Nat.reduceLeDiff, Nat.max_self, Nat.zero_max, Nat.max_zero, Int.reduceNe, Int.reduceEq, pz20, pz21, pz30, pz31, pz32, rt]
theorem F_ratio_less (hp : Bq m p) (hq : Bq n q) (h : m + n < 8000) : F i_ratio_less [rt p, rt q] = .ok (.fz (rt (p - q))) := by
  have o1 := mulOk_of hp.num hq.den (by omega)
  have o2 := mulOk_of hq.num hp.den (by omega)
  have o3 := mulOk_of hp.den hq.den (by omega)
  have r := F_ratio_of (t := p.num * q.den - q.num * p.den) (Int.mul_ne_zero (den0 p) (den0 q)) (hp.den.mul hq.den) h
  rw [sub_rt] at r
  rw [show F i_ratio_less = _ from Fn_at (d := d_ratio_less) rfl]
  simp only [d_ratio_less, b_ratio_less, rt, run, exs, ex, evB, evM, evML, ev, evF, evA, evO, evT, evI, bndP, bndS, lift, liftS, own, callP, peekL, frzL, DY.peek, look, DY.get, DY.shl, DY.frz, nav, DY.put, blOf, intOf, lstOf, AV.erase, eraseL, binD, cmpD, bltD, isiD, asg, asgL, thin, thinD, thinL, ixP, Option.map_some, Option.map_none, Option.bind_some, Option.bind_none, List.map_cons, List.map_nil, List.length_cons, List.length_nil, List.replicate, List.cons_append, List.nil_append, List.append_nil, List.getElem?_cons_zero, List.getElem?_cons_succ, List.getElem?_nil, List.set_cons_zero, List.set_cons_succ, Nat.sub_self, Nat.reduceSub, Nat.reduceAdd, Bool.not_true, Bool.not_false, if_true, if_false, Bool.false_eq_true, eqD, eqDs, depth, depthL, Nat.zero_le, and_self, and_true, true_and, atZ_0, atZ_1, atZ_2, line_2, line_3, reduceCtorEq, Bool.and_true, Bool.true_and, Bool.and_false, Bool.false_and, Bool.or_true, Bool.or_false, Bool.true_or, Bool.false_or, List.all_cons, List.all_nil, line_1, Nat.reduceLeDiff, Nat.max_self, Nat.zero_max, Nat.max_zero, Int.reduceNe, Int.reduceEq, pz20, pz21, pz30, pz31, pz32, o1, o2, o3, Cs_Fn (show i_ratio_of < i_ratio_less by decide)]
  rw [show Fn G above Ds i_ratio_of [.int (p.num * q.den - q.num * p.den), .int (p.den * q.den)] = _ from r]
  simp only [run, exs, ex, evB, evM, evML, ev, evF, evA, evO, evT, evI, bndP, bndS, lift, liftS, own, callP, peekL, frzL, DY.peek, look, DY.get, DY.shl, DY.frz, nav, DY.put, blOf, intOf, lstOf, AV.erase, eraseL, binD, cmpD, bltD, isiD, asg, asgL, thin, thinD, thinL, ixP, Option.map_some, Option.map_none, Option.bind_some, Option.bind_none, List.map_cons, List.map_nil, List.length_cons, List.length_nil, List.replicate, List.cons_append, List.nil_append, List.append_nil, List.getElem?_cons_zero, List.getElem?_cons_succ, List.getElem?_nil, List.set_cons_zero, List.set_cons_succ, Nat.sub_self, Nat.reduceSub, Nat.reduceAdd, Bool.not_true, Bool.not_false, if_true, if_false, Bool.false_eq_true, eqD, eqDs, depth, depthL, Nat.zero_le, and_self, and_true, true_and, atZ_0, atZ_1, atZ_2, line_2, line_3, reduceCtorEq, Bool.and_true, Bool.true_and, Bool.and_false, Bool.false_and, Bool.or_true, Bool.or_false, Bool.true_or, Bool.false_or, List.all_cons, List.all_nil, line_1, Nat.reduceLeDiff, Nat.max_self, Nat.zero_max, Nat.max_zero, Int.reduceNe, Int.reduceEq, pz20, pz21, pz30, pz31, pz32, rt]
theorem F_ratio_times (hp : Bq m p) (hq : Bq n q) (h : m + n < 8000) : F i_ratio_times [rt p, rt q] = .ok (.fz (rt (p * q))) := by
  have o1 := mulOk_of hp.num hq.num (by omega)
  have o3 := mulOk_of hp.den hq.den (by omega)
  have r := F_ratio_of (t := p.num * q.num) (Int.mul_ne_zero (den0 p) (den0 q)) (hp.den.mul hq.den) h
  rw [mul_rt] at r
  rw [show F i_ratio_times = _ from Fn_at (d := d_ratio_times) rfl]
  simp only [d_ratio_times, b_ratio_times, rt, run, exs, ex, evB, evM, evML, ev, evF, evA, evO, evT, evI, bndP, bndS, lift, liftS, own, callP, peekL, frzL, DY.peek, look, DY.get, DY.shl, DY.frz, nav, DY.put, blOf, intOf, lstOf, AV.erase, eraseL, binD, cmpD, bltD, isiD, asg, asgL, thin, thinD, thinL, ixP, Option.map_some, Option.map_none, Option.bind_some, Option.bind_none, List.map_cons, List.map_nil, List.length_cons, List.length_nil, List.replicate, List.cons_append, List.nil_append, List.append_nil, List.getElem?_cons_zero, List.getElem?_cons_succ, List.getElem?_nil, List.set_cons_zero, List.set_cons_succ, Nat.sub_self, Nat.reduceSub, Nat.reduceAdd, Bool.not_true, Bool.not_false, if_true, if_false, Bool.false_eq_true, eqD, eqDs, depth, depthL, Nat.zero_le, and_self, and_true, true_and, atZ_0, atZ_1, atZ_2, line_2, line_3, reduceCtorEq, Bool.and_true, Bool.true_and, Bool.and_false, Bool.false_and, Bool.or_true, Bool.or_false, Bool.true_or, Bool.false_or, List.all_cons, List.all_nil, line_1, Nat.reduceLeDiff, Nat.max_self, Nat.zero_max, Nat.max_zero, Int.reduceNe, Int.reduceEq, pz20, pz21, pz30, pz31, pz32, o1, o3, Cs_Fn (show i_ratio_of < i_ratio_times by decide)]
  rw [show Fn G above Ds i_ratio_of [.int (p.num * q.num), .int (p.den * q.den)] = _ from r]
  simp only [run, exs, ex, evB, evM, evML, ev, evF, evA, evO, evT, evI, bndP, bndS, lift, liftS, own, callP, peekL, frzL, DY.peek, look, DY.get, DY.shl, DY.frz, nav, DY.put, blOf, intOf, lstOf, AV.erase, eraseL, binD, cmpD, bltD, isiD, asg, asgL, thin, thinD, thinL, ixP, Option.map_some, Option.map_none, Option.bind_some, Option.bind_none, List.map_cons, List.map_nil, List.length_cons, List.length_nil, List.replicate, List.cons_append, List.nil_append, List.append_nil, List.getElem?_cons_zero, List.getElem?_cons_succ, List.getElem?_nil, List.set_cons_zero, List.set_cons_succ, Nat.sub_self, Nat.reduceSub, Nat.reduceAdd, Bool.not_true, Bool.not_false, if_true, if_false, Bool.false_eq_true, eqD, eqDs, depth, depthL, Nat.zero_le, and_self, and_true, true_and, atZ_0, atZ_1, atZ_2, line_2, line_3, reduceCtorEq, Bool.and_true, Bool.true_and, Bool.and_false, Bool.false_and, Bool.or_true, Bool.or_false, Bool.true_or, Bool.false_or, List.all_cons, List.all_nil, line_1, Nat.reduceLeDiff, Nat.max_self, Nat.zero_max, Nat.max_zero, Int.reduceNe, Int.reduceEq, pz20, pz21, pz30, pz31, pz32, rt]
theorem F_ratio_by (hp : Bq m p) (hq : Bq n q) (h : m + n < 8000) (h0 : q ≠ 0) : F i_ratio_by [rt p, rt q] = .ok (.fz (rt (p / q))) := by
  have o1 := mulOk_of hp.num hq.den (by omega)
  have o3 := mulOk_of hp.den hq.num (by omega)
  have r := F_ratio_of (t := p.num * q.den) (Int.mul_ne_zero (den0 p) (fun z => h0 (Rat.num_eq_zero.mp z))) (hp.den.mul hq.num) h
  rw [div_rt] at r
  rw [show F i_ratio_by = _ from Fn_at (d := d_ratio_by) rfl]
  simp only [d_ratio_by, b_ratio_by, rt, run, exs, ex, evB, evM, evML, ev, evF, evA, evO, evT, evI, bndP, bndS, lift, liftS, own, callP, peekL, frzL, DY.peek, look, DY.get, DY.shl, DY.frz, nav, DY.put, blOf, intOf, lstOf, AV.erase, eraseL, binD, cmpD, bltD, isiD, asg, asgL, thin, thinD, thinL, ixP, Option.map_some, Option.map_none, Option.bind_some, Option.bind_none, List.map_cons, List.map_nil, List.length_cons, List.length_nil, List.replicate, List.cons_append, List.nil_append, List.append_nil, List.getElem?_cons_zero, List.getElem?_cons_succ, List.getElem?_nil, List.set_cons_zero, List.set_cons_succ, Nat.sub_self, Nat.reduceSub, Nat.reduceAdd, Bool.not_true, Bool.not_false, if_true, if_false, Bool.false_eq_true, eqD, eqDs, depth, depthL, Nat.zero_le, and_self, and_true, true_and, atZ_0, atZ_1, atZ_2, line_2, line_3, reduceCtorEq, Bool.and_true, Bool.true_and, Bool.and_false, Bool.false_and, Bool.or_true, Bool.or_false, Bool.true_or, Bool.false_or, List.all_cons, List.all_nil, line_1, Nat.reduceLeDiff, Nat.max_self, Nat.zero_max, Nat.max_zero, Int.reduceNe, Int.reduceEq, pz20, pz21, pz30, pz31, pz32, o1, o3, Cs_Fn (show i_ratio_of < i_ratio_by by decide)]
  rw [show Fn G above Ds i_ratio_of [.int (p.num * q.den), .int (p.den * q.num)] = _ from r]
  simp only [run, exs, ex, evB, evM, evML, ev, evF, evA, evO, evT, evI, bndP, bndS, lift, liftS, own, callP, peekL, frzL, DY.peek, look, DY.get, DY.shl, DY.frz, nav, DY.put, blOf, intOf, lstOf, AV.erase, eraseL, binD, cmpD, bltD, isiD, asg, asgL, thin, thinD, thinL, ixP, Option.map_some, Option.map_none, Option.bind_some, Option.bind_none, List.map_cons, List.map_nil, List.length_cons, List.length_nil, List.replicate, List.cons_append, List.nil_append, List.append_nil, List.getElem?_cons_zero, List.getElem?_cons_succ, List.getElem?_nil, List.set_cons_zero, List.set_cons_succ, Nat.sub_self, Nat.reduceSub, Nat.reduceAdd, Bool.not_true, Bool.not_false, if_true, if_false, Bool.false_eq_true, eqD, eqDs, depth, depthL, Nat.zero_le, and_self, and_true, true_and, atZ_0, atZ_1, atZ_2, line_2, line_3, reduceCtorEq, Bool.and_true, Bool.true_and, Bool.and_false, Bool.false_and, Bool.or_true, Bool.or_false, Bool.true_or, Bool.false_or, List.all_cons, List.all_nil, line_1, Nat.reduceLeDiff, Nat.max_self, Nat.zero_max, Nat.max_zero, Int.reduceNe, Int.reduceEq, pz20, pz21, pz30, pz31, pz32, rt]
theorem F_is_under (hp : Bq m p) (hq : Bq n q) (h : m + n < 8000) : F i_is_under [rt p, rt q] = .ok (.fz (.bl (decide (p < q)))) := by
  have o1 := mulOk_of hp.num hq.den (by omega)
  have o2 := mulOk_of hq.num hp.den (by omega)
  rw [show F i_is_under = _ from Fn_at (d := d_is_under) rfl]
  simp only [d_is_under, b_is_under, rt, run, exs, ex, evB, evM, evML, ev, evF, evA, evO, evT, evI, bndP, bndS, lift, liftS, own, callP, peekL, frzL, DY.peek, look, DY.get, DY.shl, DY.frz, nav, DY.put, blOf, intOf, lstOf, AV.erase, eraseL, binD, cmpD, bltD, isiD, asg, asgL, thin, thinD, thinL, ixP, Option.map_some, Option.map_none, Option.bind_some, Option.bind_none, List.map_cons, List.map_nil, List.length_cons, List.length_nil, List.replicate, List.cons_append, List.nil_append, List.append_nil, List.getElem?_cons_zero, List.getElem?_cons_succ, List.getElem?_nil, List.set_cons_zero, List.set_cons_succ, Nat.sub_self, Nat.reduceSub, Nat.reduceAdd, Bool.not_true, Bool.not_false, if_true, if_false, Bool.false_eq_true, eqD, eqDs, depth, depthL, Nat.zero_le, and_self, and_true, true_and, atZ_0, atZ_1, atZ_2, line_2, line_3, reduceCtorEq, Bool.and_true, Bool.true_and, Bool.and_false, Bool.false_and, Bool.or_true, Bool.or_false, Bool.true_or, Bool.false_or, List.all_cons, List.all_nil, line_1, Nat.reduceLeDiff, Nat.max_self, Nat.zero_max, Nat.max_zero, Int.reduceNe, Int.reduceEq, pz20, pz21, pz30, pz31, pz32, o1, o2, Rat.lt_iff]
end
section
variable {m n : Nat} {a b : T3} {p : Pl} {q : R3}
theorem F_dot_of (h : B3 m a) (g : B3 n b) (hl : m + n < 8000) : F i_dot_of [t3 a, t3 b] = .ok (.fz (.int (a.dot b))) := by
  rw [show F i_dot_of = _ from Fn_at (d := d_dot_of) rfl]
  have o1 := mulOk_of h.x g.x (by omega)
  have o2 := mulOk_of h.y g.y (by omega)
  have o3 := mulOk_of h.z g.z (by omega)
  simp only [d_dot_of, b_dot_of, t3, rt, pl, r3, run, exs, ex, evB, evM, evML, ev, evF, evA, evO, evT, evI, bndP, bndS, lift, liftS, own, callP, peekL, frzL, DY.peek, look, DY.get, DY.shl, DY.frz, nav, DY.put, blOf, intOf, lstOf, AV.erase, eraseL, binD, cmpD, bltD, isiD, asg, asgL, thin, thinD, thinL, ixP, Option.map_some, Option.map_none, Option.bind_some, Option.bind_none, List.map_cons, List.map_nil, List.length_cons, List.length_nil, List.replicate, List.cons_append, List.nil_append, List.append_nil, List.getElem?_cons_zero, List.getElem?_cons_succ, List.getElem?_nil, List.set_cons_zero, List.set_cons_succ, Nat.sub_self, Nat.reduceSub, Nat.reduceAdd, Bool.not_true, Bool.not_false, if_true, if_false, Bool.false_eq_true, eqD, eqDs, depth, depthL, Nat.zero_le, and_self, and_true, true_and, atZ_0, atZ_1, atZ_2, line_2, line_3, reduceCtorEq, Bool.and_true, Bool.true_and, Bool.and_false, Bool.false_and, Bool.or_true, Bool.or_false, Bool.true_or, Bool.false_or, List.all_cons, List.all_nil, line_1, Nat.reduceLeDiff, Nat.max_self, Nat.zero_max, Nat.max_zero, Int.reduceNe, Int.reduceEq, pz20, pz21, pz30, pz31, pz32, o1, o2, o3, T3.dot]
theorem F_cross_of (h : B3 m a) (g : B3 n b) (hl : m + n < 8000) : F i_cross_of [t3 a, t3 b] = .ok (.fz (t3 (a.cross b))) := by
  rw [show F i_cross_of = _ from Fn_at (d := d_cross_of) rfl]
  have o0 := mulOk_of h.y g.z (by omega)
  have o1 := mulOk_of h.z g.y (by omega)
  have o2 := mulOk_of h.z g.x (by omega)
  have o3 := mulOk_of h.x g.z (by omega)
  have o4 := mulOk_of h.x g.y (by omega)
  have o5 := mulOk_of h.y g.x (by omega)
  simp only [d_cross_of, b_cross_of, t3, rt, pl, r3, run, exs, ex, evB, evM, evML, ev, evF, evA, evO, evT, evI, bndP, bndS, lift, liftS, own, callP, peekL, frzL, DY.peek, look, DY.get, DY.shl, DY.frz, nav, DY.put, blOf, intOf, lstOf, AV.erase, eraseL, binD, cmpD, bltD, isiD, asg, asgL, thin, thinD, thinL, ixP, Option.map_some, Option.map_none, Option.bind_some, Option.bind_none, List.map_cons, List.map_nil, List.length_cons, List.length_nil, List.replicate, List.cons_append, List.nil_append, List.append_nil, List.getElem?_cons_zero, List.getElem?_cons_succ, List.getElem?_nil, List.set_cons_zero, List.set_cons_succ, Nat.sub_self, Nat.reduceSub, Nat.reduceAdd, Bool.not_true, Bool.not_false, if_true, if_false, Bool.false_eq_true, eqD, eqDs, depth, depthL, Nat.zero_le, and_self, and_true, true_and, atZ_0, atZ_1, atZ_2, line_2, line_3, reduceCtorEq, Bool.and_true, Bool.true_and, Bool.and_false, Bool.false_and, Bool.or_true, Bool.or_false, Bool.true_or, Bool.false_or, List.all_cons, List.all_nil, line_1, Nat.reduceLeDiff, Nat.max_self, Nat.zero_max, Nat.max_zero, Int.reduceNe, Int.reduceEq, pz20, pz21, pz30, pz31, pz32, o0, o1, o2, o3, o4, o5, T3.cross]
theorem F_front_of (h : BP m p) (hl : 2 * m < 8000) : F i_front_of [pl p] = .ok (.fz (t3 p.front)) := by
  rw [show F i_front_of = _ from Fn_at (d := d_front_of) rfl]
  have r := F_cross_of h.s h.o (by omega)
  simp only [t3, rt, pl, r3] at r
  simp only [d_front_of, b_front_of, t3, rt, pl, r3, run, exs, ex, evB, evM, evML, ev, evF, evA, evO, evT, evI, bndP, bndS, lift, liftS, own, callP, peekL, frzL, DY.peek, look, DY.get, DY.shl, DY.frz, nav, DY.put, blOf, intOf, lstOf, AV.erase, eraseL, binD, cmpD, bltD, isiD, asg, asgL, thin, thinD, thinL, ixP, Option.map_some, Option.map_none, Option.bind_some, Option.bind_none, List.map_cons, List.map_nil, List.length_cons, List.length_nil, List.replicate, List.cons_append, List.nil_append, List.append_nil, List.getElem?_cons_zero, List.getElem?_cons_succ, List.getElem?_nil, List.set_cons_zero, List.set_cons_succ, Nat.sub_self, Nat.reduceSub, Nat.reduceAdd, Bool.not_true, Bool.not_false, if_true, if_false, Bool.false_eq_true, eqD, eqDs, depth, depthL, Nat.zero_le, and_self, and_true, true_and, atZ_0, atZ_1, atZ_2, line_2, line_3, reduceCtorEq, Bool.and_true, Bool.true_and, Bool.and_false, Bool.false_and, Bool.or_true, Bool.or_false, Bool.true_or, Bool.false_or, List.all_cons, List.all_nil, line_1, Nat.reduceLeDiff, Nat.max_self, Nat.zero_max, Nat.max_zero, Int.reduceNe, Int.reduceEq, pz20, pz21, pz30, pz31, pz32, Cs_Fn (show i_cross_of < i_front_of by decide), r, Pl.front]
theorem F_comes_from_ahead (h : BP m p) (g : B3 n a) (hl : 2 * m + n < 7000) : F i_comes_from_ahead [pl p, t3 a] = .ok (.fz (.bl (decide (0 < p.front.dot a)))) := by
  rw [show F i_comes_from_ahead = _ from Fn_at (d := d_comes_from_ahead) rfl]
  have r1 := F_front_of h (by omega)
  simp only [t3, rt, pl, r3] at r1
  have r2 := F_dot_of h.front g (by omega)
  simp only [t3, rt, pl, r3] at r2
  simp only [d_comes_from_ahead, b_comes_from_ahead, t3, rt, pl, r3, run, exs, ex, evB, evM, evML, ev, evF, evA, evO, evT, evI, bndP, bndS, lift, liftS, own, callP, peekL, frzL, DY.peek, look, DY.get, DY.shl, DY.frz, nav, DY.put, blOf, intOf, lstOf, AV.erase, eraseL, binD, cmpD, bltD, isiD, asg, asgL, thin, thinD, thinL, ixP, Option.map_some, Option.map_none, Option.bind_some, Option.bind_none, List.map_cons, List.map_nil, List.length_cons, List.length_nil, List.replicate, List.cons_append, List.nil_append, List.append_nil, List.getElem?_cons_zero, List.getElem?_cons_succ, List.getElem?_nil, List.set_cons_zero, List.set_cons_succ, Nat.sub_self, Nat.reduceSub, Nat.reduceAdd, Bool.not_true, Bool.not_false, if_true, if_false, Bool.false_eq_true, eqD, eqDs, depth, depthL, Nat.zero_le, and_self, and_true, true_and, atZ_0, atZ_1, atZ_2, line_2, line_3, reduceCtorEq, Bool.and_true, Bool.true_and, Bool.and_false, Bool.false_and, Bool.or_true, Bool.or_false, Bool.true_or, Bool.false_or, List.all_cons, List.all_nil, line_1, Nat.reduceLeDiff, Nat.max_self, Nat.zero_max, Nat.max_zero, Int.reduceNe, Int.reduceEq, pz20, pz21, pz30, pz31, pz32, Cs_Fn (show i_dot_of < i_comes_from_ahead by decide), Cs_Fn (show i_front_of < i_comes_from_ahead by decide), r1, r2]
theorem F_as_point  : F i_as_point [t3 a] = .ok (.fz (r3 a.rat)) := by
  rw [show F i_as_point = _ from Fn_at (d := d_as_point) rfl]
  simp only [d_as_point, b_as_point, t3, rt, pl, r3, run, exs, ex, evB, evM, evML, ev, evF, evA, evO, evT, evI, bndP, bndS, lift, liftS, own, callP, peekL, frzL, DY.peek, look, DY.get, DY.shl, DY.frz, nav, DY.put, blOf, intOf, lstOf, AV.erase, eraseL, binD, cmpD, bltD, isiD, asg, asgL, thin, thinD, thinL, ixP, Option.map_some, Option.map_none, Option.bind_some, Option.bind_none, List.map_cons, List.map_nil, List.length_cons, List.length_nil, List.replicate, List.cons_append, List.nil_append, List.append_nil, List.getElem?_cons_zero, List.getElem?_cons_succ, List.getElem?_nil, List.set_cons_zero, List.set_cons_succ, Nat.sub_self, Nat.reduceSub, Nat.reduceAdd, Bool.not_true, Bool.not_false, if_true, if_false, Bool.false_eq_true, eqD, eqDs, depth, depthL, Nat.zero_le, and_self, and_true, true_and, atZ_0, atZ_1, atZ_2, line_2, line_3, reduceCtorEq, Bool.and_true, Bool.true_and, Bool.and_false, Bool.false_and, Bool.or_true, Bool.or_false, Bool.true_or, Bool.false_or, List.all_cons, List.all_nil, line_1, Nat.reduceLeDiff, Nat.max_self, Nat.zero_max, Nat.max_zero, Int.reduceNe, Int.reduceEq, pz20, pz21, pz30, pz31, pz32, T3.rat, Rat.num_intCast, Rat.den_intCast, Int.natCast_one]
theorem F_point_less (h : BR m q) (g : B3 n a) (hl : m + n < 7000) : F i_point_less [r3 q, t3 a] = .ok (.fz (r3 (q.sub a))) := by
  rw [show F i_point_less = _ from Fn_at (d := d_point_less) rfl]
  have rx := F_ratio_less h.x (.int g.x) (by omega)
  have ry := F_ratio_less h.y (.int g.y) (by omega)
  have rz := F_ratio_less h.z (.int g.z) (by omega)
  simp only [rt, Rat.num_intCast, Rat.den_intCast, Int.natCast_one] at rx ry rz
  simp only [d_point_less, b_point_less, t3, rt, pl, r3, run, exs, ex, evB, evM, evML, ev, evF, evA, evO, evT, evI, bndP, bndS, lift, liftS, own, callP, peekL, frzL, DY.peek, look, DY.get, DY.shl, DY.frz, nav, DY.put, blOf, intOf, lstOf, AV.erase, eraseL, binD, cmpD, bltD, isiD, asg, asgL, thin, thinD, thinL, ixP, Option.map_some, Option.map_none, Option.bind_some, Option.bind_none, List.map_cons, List.map_nil, List.length_cons, List.length_nil, List.replicate, List.cons_append, List.nil_append, List.append_nil, List.getElem?_cons_zero, List.getElem?_cons_succ, List.getElem?_nil, List.set_cons_zero, List.set_cons_succ, Nat.sub_self, Nat.reduceSub, Nat.reduceAdd, Bool.not_true, Bool.not_false, if_true, if_false, Bool.false_eq_true, eqD, eqDs, depth, depthL, Nat.zero_le, and_self, and_true, true_and, atZ_0, atZ_1, atZ_2, line_2, line_3, reduceCtorEq, Bool.and_true, Bool.true_and, Bool.and_false, Bool.false_and, Bool.or_true, Bool.or_false, Bool.true_or, Bool.false_or, List.all_cons, List.all_nil, line_1, Nat.reduceLeDiff, Nat.max_self, Nat.zero_max, Nat.max_zero, Int.reduceNe, Int.reduceEq, pz20, pz21, pz30, pz31, pz32, Cs_Fn (show i_ratio_less < i_point_less by decide), rx, ry, rz, R3.sub, Nat.reduceBEq, beq_self_eq_true, compL, zipD, varsL, E.vars, It.vars, DY.frzS, DY.aside, DY.wipe, List.filter, List.contains, List.elem, List.foldl, loopL, DY.look, wrt, List.length, List.any, List.set, line_a, line_b, line_c]
theorem thin_place (o : Option (Rat × Rat)) : thinD (place o) = true := by
  cases o with
  | none => rfl
  | some xy => obtain ⟨x, y⟩ := xy; rfl
theorem rt0 : rt 0 = .tup [.int 0, .int 1] := rfl
theorem rt1 : rt 1 = .tup [.int 1, .int 1] := rfl
theorem F_point_dot (h : BR m q) (g : B3 n a) (hl : m + n < 2000) : F i_point_dot [r3 q, t3 a] = .ok (.fz (rt (q.dot a))) := by
  rw [show F i_point_dot = _ from Fn_at (d := d_point_dot) rfl]
  have bx := h.x.mul (.int g.x)
  have by' := h.y.mul (.int g.y)
  have bz := h.z.mul (.int g.z)
  have rx := F_ratio_times h.x (.int g.x) (by omega)
  have ry := F_ratio_times h.y (.int g.y) (by omega)
  have rz := F_ratio_times h.z (.int g.z) (by omega)
  have c1 := Bq.zero.add bx
  have c2 := c1.add by'
  have s1 := F_ratio_sum Bq.zero bx (by omega)
  have s2 := F_ratio_sum c1 by' (by omega)
  have s3 := F_ratio_sum c2 bz (by omega)
  rw [rt0] at s1
  simp only [rt, Rat.num_intCast, Rat.den_intCast, Int.natCast_one, t3, r3, pl, rt0] at rx ry rz s1 s2 s3
  simp only [d_point_dot, b_point_dot, t3, rt, pl, r3, run, exs, ex, evB, evM, evML, ev, evF, evA, evO, evT, evI, bndP, bndS, lift, liftS, own, callP, peekL, frzL, DY.peek, look, DY.get, DY.shl, DY.frz, nav, DY.put, blOf, intOf, lstOf, AV.erase, eraseL, binD, cmpD, bltD, isiD, asg, asgL, thin, thinD, thinL, ixP, Option.map_some, Option.map_none, Option.bind_some, Option.bind_none, List.map_cons, List.map_nil, List.length_cons, List.length_nil, List.replicate, List.cons_append, List.nil_append, List.append_nil, List.getElem?_cons_zero, List.getElem?_cons_succ, List.getElem?_nil, List.set_cons_zero, List.set_cons_succ, Nat.sub_self, Nat.reduceSub, Nat.reduceAdd, Bool.not_true, Bool.not_false, if_true, if_false, Bool.false_eq_true, eqD, eqDs, depth, depthL, Nat.zero_le, and_self, and_true, true_and, atZ_0, atZ_1, atZ_2, line_2, line_3, reduceCtorEq, Bool.and_true, Bool.true_and, Bool.and_false, Bool.false_and, Bool.or_true, Bool.or_false, Bool.true_or, Bool.false_or, List.all_cons, List.all_nil, line_1, Nat.reduceLeDiff, Nat.max_self, Nat.zero_max, Nat.max_zero, Int.reduceNe, Int.reduceEq, pz20, pz21, pz30, pz31, pz32, Cs_Fn (show i_ratio_sum < i_point_dot by decide), Cs_Fn (show i_ratio_times < i_point_dot by decide), rx, ry, rz, s1, s2, s3, R3.dot, Nat.reduceBEq, beq_self_eq_true, compL, zipD, varsL, E.vars, It.vars, DY.frzS, DY.aside, DY.wipe, List.filter, List.contains, List.elem, List.foldl, loopL, DY.look, wrt, List.length, List.any, List.set, line_a, line_b, line_c]
theorem F_lies_on {x y : Rat} (h : Bq m x) (g : Bq m y) (hl : m < 3900) : F i_lies_on [place (some (x, y))] = .ok (.fz (.bl (onPl x y))) := by
  rw [show F i_lies_on = _ from Fn_at (d := d_lies_on) rfl]
  have b1 : Bq 1 1 := ⟨by unfold Bt; decide, by unfold Bt; decide⟩
  have u1 := F_is_under h Bq.zero (by omega)
  have u2 := F_is_under b1 h (by omega)
  have u3 := F_is_under g Bq.zero (by omega)
  have u4 := F_is_under b1 g (by omega)
  rw [rt0] at u1 u3
  rw [rt1] at u2 u4
  simp only [rt] at u1 u2 u3 u4
  unfold onPl on1
  by_cases h1 : x < 0 <;> by_cases h2 : 1 < x <;> by_cases h3 : y < 0 <;> by_cases h4 : 1 < y <;> simp only [h1, h2, h3, h4, decide_true, decide_false, d_lies_on, b_lies_on, t3, rt, pl, r3, run, exs, ex, evB, evM, evML, ev, evF, evA, evO, evT, evI, bndP, bndS, lift, liftS, own, callP, peekL, frzL, DY.peek, look, DY.get, DY.shl, DY.frz, nav, DY.put, blOf, intOf, lstOf, AV.erase, eraseL, binD, cmpD, bltD, isiD, asg, asgL, thin, thinD, thinL, ixP, Option.map_some, Option.map_none, Option.bind_some, Option.bind_none, List.map_cons, List.map_nil, List.length_cons, List.length_nil, List.replicate, List.cons_append, List.nil_append, List.append_nil, List.getElem?_cons_zero, List.getElem?_cons_succ, List.getElem?_nil, List.set_cons_zero, List.set_cons_succ, Nat.sub_self, Nat.reduceSub, Nat.reduceAdd, Bool.not_true, Bool.not_false, if_true, if_false, Bool.false_eq_true, eqD, eqDs, depth, depthL, Nat.zero_le, and_self, and_true, true_and, atZ_0, atZ_1, atZ_2, line_2, line_3, reduceCtorEq, Bool.and_true, Bool.true_and, Bool.and_false, Bool.false_and, Bool.or_true, Bool.or_false, Bool.true_or, Bool.false_or, List.all_cons, List.all_nil, line_1, Nat.reduceLeDiff, Nat.max_self, Nat.zero_max, Nat.max_zero, Int.reduceNe, Int.reduceEq, pz20, pz21, pz30, pz31, pz32, Cs_Fn (show i_is_under < i_lies_on by decide), place, u1, u2, u3, u4, Nat.reduceBEq, beq_self_eq_true, compL, zipD, varsL, E.vars, It.vars, DY.frzS, DY.aside, DY.wipe, List.filter, List.contains, List.elem, List.foldl, loopL, DY.look, wrt, List.length, List.any, List.set, line_a, line_b, line_c]
theorem F_meeting_of {d : T3} {k : Nat} (h : BP m p) (g : BR n q) (hd : B3 k d) (hl : 8 * m + 3 * n + 4 * k < 3500) : F i_meeting_of [pl p, r3 q, t3 d] = .ok (.fz (place (meet p q d))) := by
  rw [show F i_meeting_of = _ from Fn_at (d := d_meeting_of) rfl]
  have r1 := F_front_of h (by omega)
  have r2 := F_dot_of h.front hd (by omega)
  have r3' := F_point_less g h.c (by omega)
  have r4 := F_cross_of h.o hd (by omega)
  have r5 := F_cross_of hd h.s (by omega)
  have r6 := F_point_dot (g.sub h.c) (h.o.cross hd) (by omega)
  have r7 := F_point_dot (g.sub h.c) (hd.cross h.s) (by omega)
  have r8 := fun (h0 : ¬ p.front.dot d = 0) => F_ratio_by ((g.sub h.c).dot (h.o.cross hd)) (.int (h.front.dot hd)) (by omega) (fun z => h0 (by exact_mod_cast z) : ((p.front.dot d : Int) : Rat) ≠ 0)
  have r9 := fun (h0 : ¬ p.front.dot d = 0) => F_ratio_by ((g.sub h.c).dot (hd.cross h.s)) (.int (h.front.dot hd)) (by omega) (fun z => h0 (by exact_mod_cast z) : ((p.front.dot d : Int) : Rat) ≠ 0)
  simp only [rt, Rat.num_intCast, Rat.den_intCast, Int.natCast_one, t3, r3, pl, rt0] at r1 r2 r3' r4 r5 r6 r7 r8 r9
  unfold meet Pl.s1 Pl.t1
  by_cases h0 : p.front.dot d = 0
  · have hz : (p.front.dot d == 0) = true := by simpa using h0
    simp only [if_pos h0, place, hz, r1, r2, d_meeting_of, b_meeting_of, t3, rt, pl, r3, run, exs, ex, evB, evM, evML, ev, evF, evA, evO, evT, evI, bndP, bndS, lift, liftS, own, callP, peekL, frzL, DY.peek, look, DY.get, DY.shl, DY.frz, nav, DY.put, blOf, intOf, lstOf, AV.erase, eraseL, binD, cmpD, bltD, isiD, asg, asgL, thin, thinD, thinL, ixP, Option.map_some, Option.map_none, Option.bind_some, Option.bind_none, List.map_cons, List.map_nil, List.length_cons, List.length_nil, List.replicate, List.cons_append, List.nil_append, List.append_nil, List.getElem?_cons_zero, List.getElem?_cons_succ, List.getElem?_nil, List.set_cons_zero, List.set_cons_succ, Nat.sub_self, Nat.reduceSub, Nat.reduceAdd, Bool.not_true, Bool.not_false, if_true, if_false, Bool.false_eq_true, eqD, eqDs, depth, depthL, Nat.zero_le, and_self, and_true, true_and, atZ_0, atZ_1, atZ_2, line_2, line_3, reduceCtorEq, Bool.and_true, Bool.true_and, Bool.and_false, Bool.false_and, Bool.or_true, Bool.or_false, Bool.true_or, Bool.false_or, List.all_cons, List.all_nil, line_1, Nat.reduceLeDiff, Nat.max_self, Nat.zero_max, Nat.max_zero, Int.reduceNe, Int.reduceEq, pz20, pz21, pz30, pz31, pz32, Cs_Fn (show i_dot_of < i_meeting_of by decide), Cs_Fn (show i_front_of < i_meeting_of by decide), Cs_Fn (show i_point_less < i_meeting_of by decide), Cs_Fn (show i_ratio_by < i_meeting_of by decide), Cs_Fn (show i_point_dot < i_meeting_of by decide), Cs_Fn (show i_cross_of < i_meeting_of by decide)]
  · have hz : (p.front.dot d == 0) = false := by simpa using h0
    simp only [if_neg h0, place, hz, r1, r2, r3', r4, r5, r6, r7, r8 h0, r9 h0, d_meeting_of, b_meeting_of, t3, rt, pl, r3, run, exs, ex, evB, evM, evML, ev, evF, evA, evO, evT, evI, bndP, bndS, lift, liftS, own, callP, peekL, frzL, DY.peek, look, DY.get, DY.shl, DY.frz, nav, DY.put, blOf, intOf, lstOf, AV.erase, eraseL, binD, cmpD, bltD, isiD, asg, asgL, thin, thinD, thinL, ixP, Option.map_some, Option.map_none, Option.bind_some, Option.bind_none, List.map_cons, List.map_nil, List.length_cons, List.length_nil, List.replicate, List.cons_append, List.nil_append, List.append_nil, List.getElem?_cons_zero, List.getElem?_cons_succ, List.getElem?_nil, List.set_cons_zero, List.set_cons_succ, Nat.sub_self, Nat.reduceSub, Nat.reduceAdd, Bool.not_true, Bool.not_false, if_true, if_false, Bool.false_eq_true, eqD, eqDs, depth, depthL, Nat.zero_le, and_self, and_true, true_and, atZ_0, atZ_1, atZ_2, line_2, line_3, reduceCtorEq, Bool.and_true, Bool.true_and, Bool.and_false, Bool.false_and, Bool.or_true, Bool.or_false, Bool.true_or, Bool.false_or, List.all_cons, List.all_nil, line_1, Nat.reduceLeDiff, Nat.max_self, Nat.zero_max, Nat.max_zero, Int.reduceNe, Int.reduceEq, pz20, pz21, pz30, pz31, pz32, Cs_Fn (show i_dot_of < i_meeting_of by decide), Cs_Fn (show i_front_of < i_meeting_of by decide), Cs_Fn (show i_point_less < i_meeting_of by decide), Cs_Fn (show i_ratio_by < i_meeting_of by decide), Cs_Fn (show i_point_dot < i_meeting_of by decide), Cs_Fn (show i_cross_of < i_meeting_of by decide)]
theorem F_shadow_of {d : T3} {k : Nat} (h : BP m p) (g : B3 n a) (hd : B3 k d) (hl : 8 * m + 3 * n + 4 * k < 3400) : F i_shadow_of [pl p, t3 a, t3 d] = .ok (.fz (if 0 < p.front.dot d then place (meet p a.rat d) else .non)) := by
  rw [show F i_shadow_of = _ from Fn_at (d := d_shadow_of) rfl]
  have r1 := F_comes_from_ahead h hd (by omega)
  have r2 := F_as_point (a := a)
  have r3' := F_meeting_of h g.rat hd (by omega)
  simp only [rt, Rat.num_intCast, Rat.den_intCast, Int.natCast_one, t3, r3, pl, rt0] at r1 r2 r3'
  by_cases h0 : 0 < p.front.dot d
  all_goals simp only [h0, thin_place, decide_true, decide_false, r1, r2, r3', d_shadow_of, b_shadow_of, t3, rt, pl, r3, run, exs, ex, evB, evM, evML, ev, evF, evA, evO, evT, evI, bndP, bndS, lift, liftS, own, callP, peekL, frzL, DY.peek, look, DY.get, DY.shl, DY.frz, nav, DY.put, blOf, intOf, lstOf, AV.erase, eraseL, binD, cmpD, bltD, isiD, asg, asgL, thin, thinD, thinL, ixP, Option.map_some, Option.map_none, Option.bind_some, Option.bind_none, List.map_cons, List.map_nil, List.length_cons, List.length_nil, List.replicate, List.cons_append, List.nil_append, List.append_nil, List.getElem?_cons_zero, List.getElem?_cons_succ, List.getElem?_nil, List.set_cons_zero, List.set_cons_succ, Nat.sub_self, Nat.reduceSub, Nat.reduceAdd, Bool.not_true, Bool.not_false, if_true, if_false, Bool.false_eq_true, eqD, eqDs, depth, depthL, Nat.zero_le, and_self, and_true, true_and, atZ_0, atZ_1, atZ_2, line_2, line_3, reduceCtorEq, Bool.and_true, Bool.true_and, Bool.and_false, Bool.false_and, Bool.or_true, Bool.or_false, Bool.true_or, Bool.false_or, List.all_cons, List.all_nil, line_1, Nat.reduceLeDiff, Nat.max_self, Nat.zero_max, Nat.max_zero, Int.reduceNe, Int.reduceEq, pz20, pz21, pz30, pz31, pz32, Cs_Fn (show i_comes_from_ahead < i_shadow_of by decide), Cs_Fn (show i_meeting_of < i_shadow_of by decide), Cs_Fn (show i_as_point < i_shadow_of by decide)]
theorem F_is_beyond {d : T3} {k : Nat} (h : BP m p) (g : BR n q) (hd : B3 k d) (hl : 8 * m + 3 * n + 4 * k < 3500) : F i_is_beyond [pl p, r3 q, t3 d] = .ok (.fz (.bl (beyond p q d))) := by
  rw [show F i_is_beyond = _ from Fn_at (d := d_is_beyond) rfl]
  have r1 := F_front_of h (by omega)
  have r2 := F_dot_of h.front hd (by omega)
  have r3' := F_point_less g h.c (by omega)
  have r4 := F_point_dot (g.sub h.c) h.front (by omega)
  have r5 := F_is_under ((g.sub h.c).dot h.front) Bq.zero (by omega)
  have r6 := F_is_under Bq.zero ((g.sub h.c).dot h.front) (by omega)
  rw [rt0] at r5 r6
  simp only [rt, Rat.num_intCast, Rat.den_intCast, Int.natCast_one, t3, r3, pl, rt0] at r1 r2 r3' r4 r5 r6
  unfold beyond
  by_cases h0 : 0 < p.front.dot d
  all_goals simp only [h0, decide_true, decide_false, r1, r2, r3', r4, r5, r6, d_is_beyond, b_is_beyond, t3, rt, pl, r3, run, exs, ex, evB, evM, evML, ev, evF, evA, evO, evT, evI, bndP, bndS, lift, liftS, own, callP, peekL, frzL, DY.peek, look, DY.get, DY.shl, DY.frz, nav, DY.put, blOf, intOf, lstOf, AV.erase, eraseL, binD, cmpD, bltD, isiD, asg, asgL, thin, thinD, thinL, ixP, Option.map_some, Option.map_none, Option.bind_some, Option.bind_none, List.map_cons, List.map_nil, List.length_cons, List.length_nil, List.replicate, List.cons_append, List.nil_append, List.append_nil, List.getElem?_cons_zero, List.getElem?_cons_succ, List.getElem?_nil, List.set_cons_zero, List.set_cons_succ, Nat.sub_self, Nat.reduceSub, Nat.reduceAdd, Bool.not_true, Bool.not_false, if_true, if_false, Bool.false_eq_true, eqD, eqDs, depth, depthL, Nat.zero_le, and_self, and_true, true_and, atZ_0, atZ_1, atZ_2, line_2, line_3, reduceCtorEq, Bool.and_true, Bool.true_and, Bool.and_false, Bool.false_and, Bool.or_true, Bool.or_false, Bool.true_or, Bool.false_or, List.all_cons, List.all_nil, line_1, Nat.reduceLeDiff, Nat.max_self, Nat.zero_max, Nat.max_zero, Int.reduceNe, Int.reduceEq, pz20, pz21, pz30, pz31, pz32, Cs_Fn (show i_front_of < i_is_beyond by decide), Cs_Fn (show i_point_dot < i_is_beyond by decide), Cs_Fn (show i_point_less < i_is_beyond by decide), Cs_Fn (show i_dot_of < i_is_beyond by decide), Cs_Fn (show i_is_under < i_is_beyond by decide)]
theorem meet_bd {d : T3} {k : Nat} (h : BP m p) (g : BR n q) (hd : B3 k d) {x y : Rat} (e : meet p q d = some (x, y)) : Bq (8 * m + 3 * n + 4 * k + 40) x ∧ Bq (8 * m + 3 * n + 4 * k + 40) y := by
  unfold meet at e
  split at e
  · cases e
  · rename_i h0
    cases e
    have hz : ((p.front.dot d : Int) : Rat) ≠ 0 := fun z => h0 (by exact_mod_cast z)
    exact ⟨(((g.sub h.c).dot (h.o.cross hd)).div (.int (h.front.dot hd)) hz).le (by omega), (((g.sub h.c).dot (hd.cross h.s)).div (.int (h.front.dot hd)) hz).le (by omega)⟩
theorem F_hides_point {d : T3} {k : Nat} (h : BP m p) (g : BR n q) (hd : B3 k d) (hl : 8 * m + 3 * n + 4 * k < 3500) : F i_hides_point [pl p, r3 q, t3 d] = .ok (.fz (.bl (hides p q d))) := by
  rw [show F i_hides_point = _ from Fn_at (d := d_hides_point) rfl]
  have r1 := F_meeting_of h g hd (by omega)
  have r2 := F_is_beyond h g hd (by omega)
  simp only [rt, Rat.num_intCast, Rat.den_intCast, Int.natCast_one, t3, r3, pl, rt0] at r1 r2
  unfold hides
  cases e : meet p q d with
  | none =>
    rw [e] at r1
    simp only [place] at r1
    simp only [r1, d_hides_point, b_hides_point, t3, rt, pl, r3, run, exs, ex, evB, evM, evML, ev, evF, evA, evO, evT, evI, bndP, bndS, lift, liftS, own, callP, peekL, frzL, DY.peek, look, DY.get, DY.shl, DY.frz, nav, DY.put, blOf, intOf, lstOf, AV.erase, eraseL, binD, cmpD, bltD, isiD, asg, asgL, thin, thinD, thinL, ixP, Option.map_some, Option.map_none, Option.bind_some, Option.bind_none, List.map_cons, List.map_nil, List.length_cons, List.length_nil, List.replicate, List.cons_append, List.nil_append, List.append_nil, List.getElem?_cons_zero, List.getElem?_cons_succ, List.getElem?_nil, List.set_cons_zero, List.set_cons_succ, Nat.sub_self, Nat.reduceSub, Nat.reduceAdd, Bool.not_true, Bool.not_false, if_true, if_false, Bool.false_eq_true, eqD, eqDs, depth, depthL, Nat.zero_le, and_self, and_true, true_and, atZ_0, atZ_1, atZ_2, line_2, line_3, reduceCtorEq, Bool.and_true, Bool.true_and, Bool.and_false, Bool.false_and, Bool.or_true, Bool.or_false, Bool.true_or, Bool.false_or, List.all_cons, List.all_nil, line_1, Nat.reduceLeDiff, Nat.max_self, Nat.zero_max, Nat.max_zero, Int.reduceNe, Int.reduceEq, pz20, pz21, pz30, pz31, pz32, Cs_Fn (show i_meeting_of < i_hides_point by decide), Cs_Fn (show i_lies_on < i_hides_point by decide), Cs_Fn (show i_is_beyond < i_hides_point by decide)]
  | some xy =>
    obtain ⟨x, y⟩ := xy
    obtain ⟨bx, by'⟩ := meet_bd h g hd e
    have r3' := F_lies_on bx by' (by omega)
    rw [e] at r1
    simp only [place, rt] at r1 r3'
    cases ho : onPl x y <;> rw [ho] at r3' <;> simp only [ho, r1, r2, r3', d_hides_point, b_hides_point, t3, rt, pl, r3, run, exs, ex, evB, evM, evML, ev, evF, evA, evO, evT, evI, bndP, bndS, lift, liftS, own, callP, peekL, frzL, DY.peek, look, DY.get, DY.shl, DY.frz, nav, DY.put, blOf, intOf, lstOf, AV.erase, eraseL, binD, cmpD, bltD, isiD, asg, asgL, thin, thinD, thinL, ixP, Option.map_some, Option.map_none, Option.bind_some, Option.bind_none, List.map_cons, List.map_nil, List.length_cons, List.length_nil, List.replicate, List.cons_append, List.nil_append, List.append_nil, List.getElem?_cons_zero, List.getElem?_cons_succ, List.getElem?_nil, List.set_cons_zero, List.set_cons_succ, Nat.sub_self, Nat.reduceSub, Nat.reduceAdd, Bool.not_true, Bool.not_false, if_true, if_false, Bool.false_eq_true, eqD, eqDs, depth, depthL, Nat.zero_le, and_self, and_true, true_and, atZ_0, atZ_1, atZ_2, line_2, line_3, reduceCtorEq, Bool.and_true, Bool.true_and, Bool.and_false, Bool.false_and, Bool.or_true, Bool.or_false, Bool.true_or, Bool.false_or, List.all_cons, List.all_nil, line_1, Nat.reduceLeDiff, Nat.max_self, Nat.zero_max, Nat.max_zero, Int.reduceNe, Int.reduceEq, pz20, pz21, pz30, pz31, pz32, Cs_Fn (show i_meeting_of < i_hides_point by decide), Cs_Fn (show i_lies_on < i_hides_point by decide), Cs_Fn (show i_is_beyond < i_hides_point by decide)]
theorem F_point_of {x y : Rat} (h : BP m p) (hx : Bq n x) (hy : Bq n y) (hl : m + n < 1500) : F i_point_of [pl p, place (some (x, y))] = .ok (.fz (r3 (p.at x y))) := by
  rw [show F i_point_of = _ from Fn_at (d := d_point_of) rfl]
  have one : Bt 1 1 := by unfold Bt; decide
  have icx := F_ratio_of (t := p.c.x) (by decide : (1 : Int) ≠ 0) one (by omega)
  have icy := F_ratio_of (t := p.c.y) (by decide : (1 : Int) ≠ 0) one (by omega)
  have icz := F_ratio_of (t := p.c.z) (by decide : (1 : Int) ≠ 0) one (by omega)
  have isx := F_ratio_of (t := p.s.x) (by decide : (1 : Int) ≠ 0) one (by omega)
  have isy := F_ratio_of (t := p.s.y) (by decide : (1 : Int) ≠ 0) one (by omega)
  have isz := F_ratio_of (t := p.s.z) (by decide : (1 : Int) ≠ 0) one (by omega)
  have iox := F_ratio_of (t := p.o.x) (by decide : (1 : Int) ≠ 0) one (by omega)
  have ioy := F_ratio_of (t := p.o.y) (by decide : (1 : Int) ≠ 0) one (by omega)
  have ioz := F_ratio_of (t := p.o.z) (by decide : (1 : Int) ≠ 0) one (by omega)
  have ecx : Rat.divInt p.c.x 1 = (p.c.x : Rat) := by rw [show (1 : Int) = ((1 : Nat) : Int) from rfl, Rat.divInt_ofNat]; exact Rat.mkRat_one _
  have ecy : Rat.divInt p.c.y 1 = (p.c.y : Rat) := by rw [show (1 : Int) = ((1 : Nat) : Int) from rfl, Rat.divInt_ofNat]; exact Rat.mkRat_one _
  have ecz : Rat.divInt p.c.z 1 = (p.c.z : Rat) := by rw [show (1 : Int) = ((1 : Nat) : Int) from rfl, Rat.divInt_ofNat]; exact Rat.mkRat_one _
  have esx : Rat.divInt p.s.x 1 = (p.s.x : Rat) := by rw [show (1 : Int) = ((1 : Nat) : Int) from rfl, Rat.divInt_ofNat]; exact Rat.mkRat_one _
  have esy : Rat.divInt p.s.y 1 = (p.s.y : Rat) := by rw [show (1 : Int) = ((1 : Nat) : Int) from rfl, Rat.divInt_ofNat]; exact Rat.mkRat_one _
  have esz : Rat.divInt p.s.z 1 = (p.s.z : Rat) := by rw [show (1 : Int) = ((1 : Nat) : Int) from rfl, Rat.divInt_ofNat]; exact Rat.mkRat_one _
  have eox : Rat.divInt p.o.x 1 = (p.o.x : Rat) := by rw [show (1 : Int) = ((1 : Nat) : Int) from rfl, Rat.divInt_ofNat]; exact Rat.mkRat_one _
  have eoy : Rat.divInt p.o.y 1 = (p.o.y : Rat) := by rw [show (1 : Int) = ((1 : Nat) : Int) from rfl, Rat.divInt_ofNat]; exact Rat.mkRat_one _
  have eoz : Rat.divInt p.o.z 1 = (p.o.z : Rat) := by rw [show (1 : Int) = ((1 : Nat) : Int) from rfl, Rat.divInt_ofNat]; exact Rat.mkRat_one _
  rw [ecx] at icx
  rw [ecy] at icy
  rw [ecz] at icz
  rw [esx] at isx
  rw [esy] at isy
  rw [esz] at isz
  rw [eox] at iox
  rw [eoy] at ioy
  rw [eoz] at ioz
  have ax := F_ratio_times hx (.int h.s.x) (by omega)
  have ay := F_ratio_times hx (.int h.s.y) (by omega)
  have az := F_ratio_times hx (.int h.s.z) (by omega)
  have wx := F_ratio_times hy (.int h.o.x) (by omega)
  have wy := F_ratio_times hy (.int h.o.y) (by omega)
  have wz := F_ratio_times hy (.int h.o.z) (by omega)
  have ux := F_ratio_sum (hx.mul (.int h.s.x)) (hy.mul (.int h.o.x)) (by omega)
  have uy := F_ratio_sum (hx.mul (.int h.s.y)) (hy.mul (.int h.o.y)) (by omega)
  have uz := F_ratio_sum (hx.mul (.int h.s.z)) (hy.mul (.int h.o.z)) (by omega)
  have vx := F_ratio_sum (.int h.c.x) ((hx.mul (.int h.s.x)).add (hy.mul (.int h.o.x))) (by omega)
  have vy := F_ratio_sum (.int h.c.y) ((hx.mul (.int h.s.y)).add (hy.mul (.int h.o.y))) (by omega)
  have vz := F_ratio_sum (.int h.c.z) ((hx.mul (.int h.s.z)).add (hy.mul (.int h.o.z))) (by omega)
  simp only [rt, Rat.num_intCast, Rat.den_intCast, Int.natCast_one, t3, r3, pl, rt0] at icx icy icz isx isy isz iox ioy ioz ax ay az wx wy wz ux uy uz vx vy vz
  have rg : rangeD 0 (Int.toNat 3) = [.int 0, .int 1, .int 2] := rfl
  have s62 : small62 3 := by decide
  simp only [d_point_of, b_point_of, t3, rt, pl, r3, run, exs, ex, evB, evM, evML, ev, evF, evA, evO, evT, evI, bndP, bndS, lift, liftS, own, callP, peekL, frzL, DY.peek, look, DY.get, DY.shl, DY.frz, nav, DY.put, blOf, intOf, lstOf, AV.erase, eraseL, binD, cmpD, bltD, isiD, asg, asgL, thin, thinD, thinL, ixP, Option.map_some, Option.map_none, Option.bind_some, Option.bind_none, List.map_cons, List.map_nil, List.length_cons, List.length_nil, List.replicate, List.cons_append, List.nil_append, List.append_nil, List.getElem?_cons_zero, List.getElem?_cons_succ, List.getElem?_nil, List.set_cons_zero, List.set_cons_succ, Nat.sub_self, Nat.reduceSub, Nat.reduceAdd, Bool.not_true, Bool.not_false, if_true, if_false, Bool.false_eq_true, eqD, eqDs, depth, depthL, Nat.zero_le, and_self, and_true, true_and, atZ_0, atZ_1, atZ_2, line_2, line_3, reduceCtorEq, Bool.and_true, Bool.true_and, Bool.and_false, Bool.false_and, Bool.or_true, Bool.or_false, Bool.true_or, Bool.false_or, List.all_cons, List.all_nil, line_1, Nat.reduceLeDiff, Nat.max_self, Nat.zero_max, Nat.max_zero, Int.reduceNe, Int.reduceEq, pz20, pz21, pz30, pz31, pz32, Cs_Fn (show i_ratio_times < i_point_of by decide), Cs_Fn (show i_ratio_of < i_point_of by decide), Cs_Fn (show i_ratio_sum < i_point_of by decide), place, rg, s62, Pl.at, icx, icy, icz, isx, isy, isz, iox, ioy, ioz, ax, ay, az, wx, wy, wz, ux, uy, uz, vx, vy, vz, Nat.reduceBEq, beq_self_eq_true, compL, zipD, varsL, E.vars, It.vars, DY.frzS, DY.aside, DY.wipe, List.filter, List.contains, List.elem, List.foldl, loopL, DY.look, wrt, List.length, List.any, List.set, line_a, line_b, line_c]
end
theorem F_direction_at {sun : List (Int × T3)} {h : Int} {d : T3} (e : sunAt sun h = some d) : F i_direction_at [.lst (sun.map rowD), .int h] = .ok (.fz (t3 d)) := by
  rw [show F i_direction_at = _ from Fn_at (d := d_direction_at) rfl]
  unfold sunAt at e
  simp only [Option.map_eq_some_iff] at e
  obtain ⟨r, e1, e2⟩ := e
  subst e2
  refine run_of (exs_ret ?_)
  rw [ex_loop (ds := sun.map rowD) (ρ1 := [some (.fz (.lst (sun.map rowD))), some (.fz (.int h)), none, none]) (by simp only [d_direction_at, run, exs, ex, evB, evM, evML, ev, evF, evA, evO, evT, evI, bndP, bndS, lift, liftS, own, callP, peekL, frzL, DY.peek, look, DY.get, DY.shl, DY.frz, nav, DY.put, blOf, intOf, lstOf, AV.erase, eraseL, binD, cmpD, bltD, isiD, asg, asgL, thin, thinD, thinL, ixP, Option.map_some, Option.map_none, Option.bind_some, Option.bind_none, List.map_cons, List.map_nil, List.length_cons, List.length_nil, List.replicate, List.cons_append, List.nil_append, List.append_nil, List.getElem?_cons_zero, List.getElem?_cons_succ, List.getElem?_nil, List.set_cons_zero, List.set_cons_succ, Nat.sub_self, Nat.reduceSub, Nat.reduceAdd, Bool.not_true, Bool.not_false, if_true, if_false, Bool.false_eq_true, eqD, eqDs, depth, depthL, Nat.zero_le, and_self, and_true, true_and, atZ_0, atZ_1, atZ_2, line_2, line_3, reduceCtorEq, Bool.and_true, Bool.true_and, Bool.and_false, Bool.false_and, Bool.or_true, Bool.or_false, Bool.true_or, Bool.false_or, List.all_cons, List.all_nil, line_1, Nat.reduceLeDiff, Nat.max_self, Nat.zero_max, Nat.max_zero, Int.reduceNe, Int.reduceEq, pz20, pz21, pz30, pz31, pz32])]
  refine (loop_find (ok := fun _ => True) (p := fun r : Int × T3 => r.1 == h) (r := fun r => .fz (t3 r.2)) (fun ρ => ∃ u v, ρ = [some (.fz (.lst (sun.map rowD))), some (.fz (.int h)), u, v]) (fun a ρ _ ⟨u, v, hρ⟩ hp => ?_) (fun a ρ _ ⟨u, v, hρ⟩ hp => ?_) sun _ (fun _ _ => trivial) ⟨none, none, rfl⟩).1 r e1
  · subst hρ
    simp only [body1, rowD, t3, run, exs, ex, evB, evM, evML, ev, evF, evA, evO, evT, evI, bndP, bndS, lift, liftS, own, callP, peekL, frzL, DY.peek, look, DY.get, DY.shl, DY.frz, nav, DY.put, blOf, intOf, lstOf, AV.erase, eraseL, binD, cmpD, bltD, isiD, asg, asgL, thin, thinD, thinL, ixP, Option.map_some, Option.map_none, Option.bind_some, Option.bind_none, List.map_cons, List.map_nil, List.length_cons, List.length_nil, List.replicate, List.cons_append, List.nil_append, List.append_nil, List.getElem?_cons_zero, List.getElem?_cons_succ, List.getElem?_nil, List.set_cons_zero, List.set_cons_succ, Nat.sub_self, Nat.reduceSub, Nat.reduceAdd, Bool.not_true, Bool.not_false, if_true, if_false, Bool.false_eq_true, eqD, eqDs, depth, depthL, Nat.zero_le, and_self, and_true, true_and, atZ_0, atZ_1, atZ_2, line_2, line_3, reduceCtorEq, Bool.and_true, Bool.true_and, Bool.and_false, Bool.false_and, Bool.or_true, Bool.or_false, Bool.true_or, Bool.false_or, List.all_cons, List.all_nil, line_1, Nat.reduceLeDiff, Nat.max_self, Nat.zero_max, Nat.max_zero, Int.reduceNe, Int.reduceEq, pz20, pz21, pz30, pz31, pz32, hp]
  · subst hρ
    exact ⟨_, by simp only [body1, rowD, t3, run, exs, ex, evB, evM, evML, ev, evF, evA, evO, evT, evI, bndP, bndS, lift, liftS, own, callP, peekL, frzL, DY.peek, look, DY.get, DY.shl, DY.frz, nav, DY.put, blOf, intOf, lstOf, AV.erase, eraseL, binD, cmpD, bltD, isiD, asg, asgL, thin, thinD, thinL, ixP, Option.map_some, Option.map_none, Option.bind_some, Option.bind_none, List.map_cons, List.map_nil, List.length_cons, List.length_nil, List.replicate, List.cons_append, List.nil_append, List.append_nil, List.getElem?_cons_zero, List.getElem?_cons_succ, List.getElem?_nil, List.set_cons_zero, List.set_cons_succ, Nat.sub_self, Nat.reduceSub, Nat.reduceAdd, Bool.not_true, Bool.not_false, if_true, if_false, Bool.false_eq_true, eqD, eqDs, depth, depthL, Nat.zero_le, and_self, and_true, true_and, atZ_0, atZ_1, atZ_2, line_2, line_3, reduceCtorEq, Bool.and_true, Bool.true_and, Bool.and_false, Bool.false_and, Bool.or_true, Bool.or_false, Bool.true_or, Bool.false_or, List.all_cons, List.all_nil, line_1, Nat.reduceLeDiff, Nat.max_self, Nat.zero_max, Nat.max_zero, Int.reduceNe, Int.reduceEq, pz20, pz21, pz30, pz31, pz32, hp]; rfl, _, _, rfl⟩
theorem F_is_up {sun : List (Int × T3)} {h : Int} {d : T3} (e : sunAt sun h = some d) : F i_is_up [.lst (sun.map rowD), .int h] = .ok (.fz (.bl (decide (0 < d.z)))) := by
  have r := F_direction_at e
  simp only [t3] at r
  rw [show F i_is_up = _ from Fn_at (d := d_is_up) rfl]
  simp only [d_is_up, b_is_up, run, exs, ex, evB, evM, evML, ev, evF, evA, evO, evT, evI, bndP, bndS, lift, liftS, own, callP, peekL, frzL, DY.peek, look, DY.get, DY.shl, DY.frz, nav, DY.put, blOf, intOf, lstOf, AV.erase, eraseL, binD, cmpD, bltD, isiD, asg, asgL, thin, thinD, thinL, ixP, Option.map_some, Option.map_none, Option.bind_some, Option.bind_none, List.map_cons, List.map_nil, List.length_cons, List.length_nil, List.replicate, List.cons_append, List.nil_append, List.append_nil, List.getElem?_cons_zero, List.getElem?_cons_succ, List.getElem?_nil, List.set_cons_zero, List.set_cons_succ, Nat.sub_self, Nat.reduceSub, Nat.reduceAdd, Bool.not_true, Bool.not_false, if_true, if_false, Bool.false_eq_true, eqD, eqDs, depth, depthL, Nat.zero_le, and_self, and_true, true_and, atZ_0, atZ_1, atZ_2, line_2, line_3, reduceCtorEq, Bool.and_true, Bool.true_and, Bool.and_false, Bool.false_and, Bool.or_true, Bool.or_false, Bool.true_or, Bool.false_or, List.all_cons, List.all_nil, line_1, Nat.reduceLeDiff, Nat.max_self, Nat.zero_max, Nat.max_zero, Int.reduceNe, Int.reduceEq, pz20, pz21, pz30, pz31, pz32, r, Cs_Fn (show i_direction_at < i_is_up by decide)]
theorem F_dial_of {y : Yd} {nm : List Nat} {t : Th} (e : dialAt y nm = some t) : F i_dial_of [ydD y, .str nm] = .ok (.fz (thD t)) := by
  rw [show F i_dial_of = _ from Fn_at (d := d_dial_of) rfl]
  unfold dialAt at e
  refine run_of (exs_ret ?_)
  rw [ex_loop (ds := y.dials.map thD) (ρ1 := [some (.fz (ydD y)), some (.fz (.str nm)), none]) (by simp only [d_dial_of, ydD, run, exs, ex, evB, evM, evML, ev, evF, evA, evO, evT, evI, bndP, bndS, lift, liftS, own, callP, peekL, frzL, DY.peek, look, DY.get, DY.shl, DY.frz, nav, DY.put, blOf, intOf, lstOf, AV.erase, eraseL, binD, cmpD, bltD, isiD, asg, asgL, thin, thinD, thinL, ixP, Option.map_some, Option.map_none, Option.bind_some, Option.bind_none, List.map_cons, List.map_nil, List.length_cons, List.length_nil, List.replicate, List.cons_append, List.nil_append, List.append_nil, List.getElem?_cons_zero, List.getElem?_cons_succ, List.getElem?_nil, List.set_cons_zero, List.set_cons_succ, Nat.sub_self, Nat.reduceSub, Nat.reduceAdd, Bool.not_true, Bool.not_false, if_true, if_false, Bool.false_eq_true, eqD, eqDs, depth, depthL, Nat.zero_le, and_self, and_true, true_and, atZ_0, atZ_1, atZ_2, line_2, line_3, reduceCtorEq, Bool.and_true, Bool.true_and, Bool.and_false, Bool.false_and, Bool.or_true, Bool.or_false, Bool.true_or, Bool.false_or, List.all_cons, List.all_nil, line_1, Nat.reduceLeDiff, Nat.max_self, Nat.zero_max, Nat.max_zero, Int.reduceNe, Int.reduceEq, pz20, pz21, pz30, pz31, pz32])]
  refine (loop_find (ok := fun _ => True) (p := fun t : Th => t.nm == nm) (r := fun t => .fz (thD t)) (fun ρ => ∃ u, ρ = [some (.fz (ydD y)), some (.fz (.str nm)), u]) (fun a ρ _ ⟨u, hρ⟩ hp => ?_) (fun a ρ _ ⟨u, hρ⟩ hp => ?_) y.dials _ (fun _ _ => trivial) ⟨none, rfl⟩).1 t e
  · subst hρ
    simp only [body1, thD, run, exs, ex, evB, evM, evML, ev, evF, evA, evO, evT, evI, bndP, bndS, lift, liftS, own, callP, peekL, frzL, DY.peek, look, DY.get, DY.shl, DY.frz, nav, DY.put, blOf, intOf, lstOf, AV.erase, eraseL, binD, cmpD, bltD, isiD, asg, asgL, thin, thinD, thinL, ixP, Option.map_some, Option.map_none, Option.bind_some, Option.bind_none, List.map_cons, List.map_nil, List.length_cons, List.length_nil, List.replicate, List.cons_append, List.nil_append, List.append_nil, List.getElem?_cons_zero, List.getElem?_cons_succ, List.getElem?_nil, List.set_cons_zero, List.set_cons_succ, Nat.sub_self, Nat.reduceSub, Nat.reduceAdd, Bool.not_true, Bool.not_false, if_true, if_false, Bool.false_eq_true, eqD, eqDs, depth, depthL, Nat.zero_le, and_self, and_true, true_and, atZ_0, atZ_1, atZ_2, line_2, line_3, reduceCtorEq, Bool.and_true, Bool.true_and, Bool.and_false, Bool.false_and, Bool.or_true, Bool.or_false, Bool.true_or, Bool.false_or, List.all_cons, List.all_nil, line_1, Nat.reduceLeDiff, Nat.max_self, Nat.zero_max, Nat.max_zero, Int.reduceNe, Int.reduceEq, pz20, pz21, pz30, pz31, pz32, hp]
  · subst hρ
    exact ⟨_, by simp only [body1, thD, run, exs, ex, evB, evM, evML, ev, evF, evA, evO, evT, evI, bndP, bndS, lift, liftS, own, callP, peekL, frzL, DY.peek, look, DY.get, DY.shl, DY.frz, nav, DY.put, blOf, intOf, lstOf, AV.erase, eraseL, binD, cmpD, bltD, isiD, asg, asgL, thin, thinD, thinL, ixP, Option.map_some, Option.map_none, Option.bind_some, Option.bind_none, List.map_cons, List.map_nil, List.length_cons, List.length_nil, List.replicate, List.cons_append, List.nil_append, List.append_nil, List.getElem?_cons_zero, List.getElem?_cons_succ, List.getElem?_nil, List.set_cons_zero, List.set_cons_succ, Nat.sub_self, Nat.reduceSub, Nat.reduceAdd, Bool.not_true, Bool.not_false, if_true, if_false, Bool.false_eq_true, eqD, eqDs, depth, depthL, Nat.zero_le, and_self, and_true, true_and, atZ_0, atZ_1, atZ_2, line_2, line_3, reduceCtorEq, Bool.and_true, Bool.true_and, Bool.and_false, Bool.false_and, Bool.or_true, Bool.or_false, Bool.true_or, Bool.false_or, List.all_cons, List.all_nil, line_1, Nat.reduceLeDiff, Nat.max_self, Nat.zero_max, Nat.max_zero, Int.reduceNe, Int.reduceEq, pz20, pz21, pz30, pz31, pz32, hp]; rfl, _, rfl⟩
theorem F_hiders {n m k : Nat} {y : Yd} {nm : List Nat} {q : R3} {d : T3} (hy : YdOk n y) (hq : BR m q) (hd : B3 k d) (hl : 8 * n + 3 * m + 4 * k < 3500) : F i_hiders [ydD y, .str nm, r3 q, t3 d] = .ok (.ol ((sortS (hid y nm q d)).map .str)) := by
  rw [show F i_hiders = _ from Fn_at (d := d_hiders) rfl]
  have hf := hy.few
  have hll : y.walls.length + y.dials.length ≤ line := by unfold line; omega
  refine run_of (exs_step (ρ' := [some (.fz (ydD y)), some (.fz (.str nm)), some (.fz (r3 q)), some (.fz (t3 d)), some (.ol []), none]) (by simp only [d_hiders, run, exs, ex, evB, evM, evML, ev, evF, evA, evO, evT, evI, bndP, bndS, lift, liftS, own, callP, peekL, frzL, DY.peek, look, DY.get, DY.shl, DY.frz, nav, DY.put, blOf, intOf, lstOf, AV.erase, eraseL, binD, cmpD, bltD, isiD, asg, asgL, thin, thinD, thinL, ixP, Option.map_some, Option.map_none, Option.bind_some, Option.bind_none, List.map_cons, List.map_nil, List.length_cons, List.length_nil, List.replicate, List.cons_append, List.nil_append, List.append_nil, List.getElem?_cons_zero, List.getElem?_cons_succ, List.getElem?_nil, List.set_cons_zero, List.set_cons_succ, Nat.sub_self, Nat.reduceSub, Nat.reduceAdd, Bool.not_true, Bool.not_false, if_true, if_false, Bool.false_eq_true, eqD, eqDs, depth, depthL, Nat.zero_le, and_self, and_true, true_and, atZ_0, atZ_1, atZ_2, line_2, line_3, reduceCtorEq, Bool.and_true, Bool.true_and, Bool.and_false, Bool.false_and, Bool.or_true, Bool.or_false, Bool.true_or, Bool.false_or, List.all_cons, List.all_nil, line_1, Nat.reduceLeDiff, Nat.max_self, Nat.zero_max, Nat.max_zero, Int.reduceNe, Int.reduceEq, pz20, pz21, pz30, pz31, pz32]) ?_)
  obtain ⟨ρ', e1, hle, u, e2⟩ := loop_foldi (f := body1 (Cs G above Ds i_hiders) G above (.nm 5) [.ite (.and (.cmp .ne (.ix (.var 5) (.int 0)) (.var 1)) (.call i_hides_point [(.ix (.var 5) (.int 1)), (.var 2), (.var 3)])) [.app (.var 4) (.ix (.var 5) (.int 0))] []]) (g := thD) (ok := ThOk n) (y.walls ++ y.dials).length
    (fun i (b : List (List Nat)) ρ => b.length ≤ i ∧ ∃ u, ρ = [some (.fz (ydD y)), some (.fz (.str nm)), some (.fz (r3 q)), some (.fz (t3 d)), some (.ol (b.map .str)), u]) (fun b t => if !(t.nm == nm) && hides t.p q d then b ++ [t.nm] else b)
    (fun i b t ρ hi ht ⟨hb, u, hρ⟩ => by
      subst hρ
      have r := F_hides_point ht.p hq hd (by omega)
      have hbl : (b.map D.str).length < line := by rw [List.length_map]; rw [List.length_append] at hi; exact line_big (by omega)
      rw [List.length_map] at hbl
      cases h1 : t.nm == nm with
      | true =>
        simp only [Bool.not_true, Bool.false_and, Bool.false_eq_true, if_false]
        exact ⟨_, by simp only [body1, thD, run, exs, ex, evB, evM, evML, ev, evF, evA, evO, evT, evI, bndP, bndS, lift, liftS, own, callP, peekL, frzL, DY.peek, look, DY.get, DY.shl, DY.frz, nav, DY.put, blOf, intOf, lstOf, AV.erase, eraseL, binD, cmpD, bltD, isiD, asg, asgL, thin, thinD, thinL, ixP, Option.map_some, Option.map_none, Option.bind_some, Option.bind_none, List.map_cons, List.map_nil, List.length_cons, List.length_nil, List.replicate, List.cons_append, List.nil_append, List.append_nil, List.getElem?_cons_zero, List.getElem?_cons_succ, List.getElem?_nil, List.set_cons_zero, List.set_cons_succ, Nat.sub_self, Nat.reduceSub, Nat.reduceAdd, Bool.not_true, Bool.not_false, if_true, if_false, Bool.false_eq_true, eqD, eqDs, depth, depthL, Nat.zero_le, and_self, and_true, true_and, atZ_0, atZ_1, atZ_2, line_2, line_3, reduceCtorEq, Bool.and_true, Bool.true_and, Bool.and_false, Bool.false_and, Bool.or_true, Bool.or_false, Bool.true_or, Bool.false_or, List.all_cons, List.all_nil, line_1, Nat.reduceLeDiff, Nat.max_self, Nat.zero_max, Nat.max_zero, Int.reduceNe, Int.reduceEq, pz20, pz21, pz30, pz31, pz32, h1]; rfl, by omega, _, rfl⟩
      | false =>
        cases h2 : hides t.p q d with
        | true =>
          rw [h2] at r
          simp only [Bool.not_false, Bool.true_and, if_true]
          exact ⟨_, by simp only [body1, thD, run, exs, ex, evB, evM, evML, ev, evF, evA, evO, evT, evI, bndP, bndS, lift, liftS, own, callP, peekL, frzL, DY.peek, look, DY.get, DY.shl, DY.frz, nav, DY.put, blOf, intOf, lstOf, AV.erase, eraseL, binD, cmpD, bltD, isiD, asg, asgL, thin, thinD, thinL, ixP, Option.map_some, Option.map_none, Option.bind_some, Option.bind_none, List.map_cons, List.map_nil, List.length_cons, List.length_nil, List.replicate, List.cons_append, List.nil_append, List.append_nil, List.getElem?_cons_zero, List.getElem?_cons_succ, List.getElem?_nil, List.set_cons_zero, List.set_cons_succ, Nat.sub_self, Nat.reduceSub, Nat.reduceAdd, Bool.not_true, Bool.not_false, if_true, if_false, Bool.false_eq_true, eqD, eqDs, depth, depthL, Nat.zero_le, and_self, and_true, true_and, atZ_0, atZ_1, atZ_2, line_2, line_3, reduceCtorEq, Bool.and_true, Bool.true_and, Bool.and_false, Bool.false_and, Bool.or_true, Bool.or_false, Bool.true_or, Bool.false_or, List.all_cons, List.all_nil, line_1, Nat.reduceLeDiff, Nat.max_self, Nat.zero_max, Nat.max_zero, Int.reduceNe, Int.reduceEq, pz20, pz21, pz30, pz31, pz32, h1, Cs_Fn (show i_hides_point < i_hiders by decide), r, wrt, List.length_map, hbl]; rfl, by rw [List.length_append]; simp; omega, _, by rw [List.map_append]; rfl⟩
        | false =>
          rw [h2] at r
          simp only [Bool.not_false, Bool.true_and, Bool.false_eq_true, if_false]
          exact ⟨_, by simp only [body1, thD, run, exs, ex, evB, evM, evML, ev, evF, evA, evO, evT, evI, bndP, bndS, lift, liftS, own, callP, peekL, frzL, DY.peek, look, DY.get, DY.shl, DY.frz, nav, DY.put, blOf, intOf, lstOf, AV.erase, eraseL, binD, cmpD, bltD, isiD, asg, asgL, thin, thinD, thinL, ixP, Option.map_some, Option.map_none, Option.bind_some, Option.bind_none, List.map_cons, List.map_nil, List.length_cons, List.length_nil, List.replicate, List.cons_append, List.nil_append, List.append_nil, List.getElem?_cons_zero, List.getElem?_cons_succ, List.getElem?_nil, List.set_cons_zero, List.set_cons_succ, Nat.sub_self, Nat.reduceSub, Nat.reduceAdd, Bool.not_true, Bool.not_false, if_true, if_false, Bool.false_eq_true, eqD, eqDs, depth, depthL, Nat.zero_le, and_self, and_true, true_and, atZ_0, atZ_1, atZ_2, line_2, line_3, reduceCtorEq, Bool.and_true, Bool.true_and, Bool.and_false, Bool.false_and, Bool.or_true, Bool.or_false, Bool.true_or, Bool.false_or, List.all_cons, List.all_nil, line_1, Nat.reduceLeDiff, Nat.max_self, Nat.zero_max, Nat.max_zero, Int.reduceNe, Int.reduceEq, pz20, pz21, pz30, pz31, pz32, h1, Cs_Fn (show i_hides_point < i_hiders by decide), r]; rfl, by omega, _, rfl⟩)
    (y.walls ++ y.dials) 0 [] [some (.fz (ydD y)), some (.fz (.str nm)), some (.fz (r3 q)), some (.fz (t3 d)), some (.ol []), none] (by omega) (fun t ht => (List.mem_append.mp ht).elim (hy.walls t) fun h => (hy.dials t h).1) ⟨Nat.le_refl _, none, rfl⟩
  rw [foldl_pick, List.nil_append] at e2 hle
  refine exs_step (ρ' := ρ') ?_ ?_
  · rw [ex_loop (ds := (y.walls ++ y.dials).map thD) (ρ1 := [some (.fz (ydD y)), some (.fz (.str nm)), some (.fz (r3 q)), some (.fz (t3 d)), some (.ol []), none]) (by simp only [ydD, run, exs, ex, evB, evM, evML, ev, evF, evA, evO, evT, evI, bndP, bndS, lift, liftS, own, callP, peekL, frzL, DY.peek, look, DY.get, DY.shl, DY.frz, nav, DY.put, blOf, intOf, lstOf, AV.erase, eraseL, binD, cmpD, bltD, isiD, asg, asgL, thin, thinD, thinL, ixP, Option.map_some, Option.map_none, Option.bind_some, Option.bind_none, List.map_cons, List.map_nil, List.length_cons, List.length_nil, List.replicate, List.cons_append, List.nil_append, List.append_nil, List.getElem?_cons_zero, List.getElem?_cons_succ, List.getElem?_nil, List.set_cons_zero, List.set_cons_succ, Nat.sub_self, Nat.reduceSub, Nat.reduceAdd, Bool.not_true, Bool.not_false, if_true, if_false, Bool.false_eq_true, eqD, eqDs, depth, depthL, Nat.zero_le, and_self, and_true, true_and, atZ_0, atZ_1, atZ_2, line_2, line_3, reduceCtorEq, Bool.and_true, Bool.true_and, Bool.and_false, Bool.false_and, Bool.or_true, Bool.or_false, Bool.true_or, Bool.false_or, List.all_cons, List.all_nil, line_1, Nat.reduceLeDiff, Nat.max_self, Nat.zero_max, Nat.max_zero, Int.reduceNe, Int.reduceEq, pz20, pz21, pz30, pz31, pz32, List.length_map, hll, List.map_append])]
    exact e1
  · subst e2
    have h64 : (hid y nm q d).length < 64 := by
      unfold hid
      simp only [List.length_append, List.length_map] at hle ⊢
      omega
    unfold hid at h64
    simp only [run, exs, ex, evB, evM, evML, ev, evF, evA, evO, evT, evI, bndP, bndS, lift, liftS, own, callP, peekL, frzL, DY.peek, look, DY.get, DY.shl, DY.frz, nav, DY.put, blOf, intOf, lstOf, AV.erase, eraseL, binD, cmpD, bltD, isiD, asg, asgL, thin, thinD, thinL, ixP, Option.map_some, Option.map_none, Option.bind_some, Option.bind_none, List.map_cons, List.map_nil, List.length_cons, List.length_nil, List.replicate, List.cons_append, List.nil_append, List.append_nil, List.getElem?_cons_zero, List.getElem?_cons_succ, List.getElem?_nil, List.set_cons_zero, List.set_cons_succ, Nat.sub_self, Nat.reduceSub, Nat.reduceAdd, Bool.not_true, Bool.not_false, if_true, if_false, Bool.false_eq_true, eqD, eqDs, depth, depthL, Nat.zero_le, and_self, and_true, true_and, atZ_0, atZ_1, atZ_2, line_2, line_3, reduceCtorEq, Bool.and_true, Bool.true_and, Bool.and_false, Bool.false_and, Bool.or_true, Bool.or_false, Bool.true_or, Bool.false_or, List.all_cons, List.all_nil, line_1, Nat.reduceLeDiff, Nat.max_self, Nat.zero_max, Nat.max_zero, Int.reduceNe, Int.reduceEq, pz20, pz21, pz30, pz31, pz32, strsOf_map, hid, h64]

theorem F_told_at {n : Nat} {y : Yd} {nm : List Nat} {h : Int} {t : Th} {a d : T3} (hy : YdOk n y) (hn : n < 10) (e1 : sunAt y.sun h = some d) (e2 : dialAt y nm = some t) (e3 : t.tip = some a) :
    F i_told_at [ydD y, .int h, .str nm] = .ok (tdA (tell y t a d)) := by
  have r1 := F_direction_at e1
  have r2 := F_dial_of e2
  have r3' := F_is_up e1
  have ht := hy.dials t (List.mem_of_find?_eq_some e2)
  have hb : B3 n a := ht.1.tip a e3
  have hd : B3 n d := by
    obtain ⟨r, q1, q2⟩ := sunAt_mem e1
    rw [← q2]; exact hy.sun r q1
  have hnm : t.nm = nm := by
    have := List.find?_some e2
    simpa using this
  have r4 := F_comes_from_ahead ht.1.p hd (by omega)
  have r5 := F_shadow_of ht.1.p hb hd (by omega)
  rw [show F i_told_at = _ from Fn_at (d := d_told_at) rfl]
  unfold tell
  by_cases h1 : 0 < d.z
  · rw [if_neg (by simpa using h1)]
    by_cases h2 : 0 < t.p.front.dot d
    · rw [if_neg (by simpa using h2)]
      have h0 : ¬ t.p.front.dot d = 0 := by omega
      have em : meet t.p a.rat d = some (t.p.s1 a.rat d, t.p.t1 a.rat d) := by unfold meet; rw [if_neg h0]
      rw [if_pos h2, em] at r5
      obtain ⟨bs, bt⟩ := meet_bd ht.1.p hb.rat hd em
      have r6 := F_lies_on bs bt (by omega)
      have r7 := F_point_of ht.1.p bs bt (by omega)
      have r8 := F_hiders (nm := nm) hy (ht.1.p.at bs bt) hd (by omega)
      rw [hnm]
      generalize t.p.s1 a.rat d = s at *
      generalize t.p.t1 a.rat d = u at *
      simp only [place, rt, t3, r3, pl, thD, e3, ydD] at r1 r2 r3' r4 r5 r6 r7 r8
      cases h3 : onPl s u with
      | false =>
        rw [h3] at r6
        simp only [Bool.not_false, if_true, tdA]
        simp only [d_told_at, b_told_at, ydD, thD, e3, place, rt, t3, run, exs, ex, evB, evM, evML, ev, evF, evA, evO, evT, evI, bndP, bndS, lift, liftS, own, callP, peekL, frzL, DY.peek, look, DY.get, DY.shl, DY.frz, nav, DY.put, blOf, intOf, lstOf, AV.erase, eraseL, binD, cmpD, bltD, isiD, asg, asgL, thin, thinD, thinL, ixP, Option.map_some, Option.map_none, Option.bind_some, Option.bind_none, List.map_cons, List.map_nil, List.length_cons, List.length_nil, List.replicate, List.cons_append, List.nil_append, List.append_nil, List.getElem?_cons_zero, List.getElem?_cons_succ, List.getElem?_nil, List.set_cons_zero, List.set_cons_succ, Nat.sub_self, Nat.reduceSub, Nat.reduceAdd, Bool.not_true, Bool.not_false, if_true, if_false, Bool.false_eq_true, eqD, eqDs, depth, depthL, Nat.zero_le, and_self, and_true, true_and, atZ_0, atZ_1, atZ_2, line_2, line_3, reduceCtorEq, Bool.and_true, Bool.true_and, Bool.and_false, Bool.false_and, Bool.or_true, Bool.or_false, Bool.true_or, Bool.false_or, List.all_cons, List.all_nil, line_1, Nat.reduceLeDiff, Nat.max_self, Nat.zero_max, Nat.max_zero, Int.reduceNe, Int.reduceEq, pz20, pz21, pz30, pz31, pz32, Cs_Fn (show i_direction_at < i_told_at by decide), Cs_Fn (show i_dial_of < i_told_at by decide), Cs_Fn (show i_is_up < i_told_at by decide), Cs_Fn (show i_comes_from_ahead < i_told_at by decide), Cs_Fn (show i_shadow_of < i_told_at by decide), Cs_Fn (show i_lies_on < i_told_at by decide), Cs_Fn (show i_hiders < i_told_at by decide), Cs_Fn (show i_point_of < i_told_at by decide), r1, r2, r3', r4, r5, r6, h1, h2, decide_true]
      | true =>
        rw [h3] at r6
        simp only [Bool.not_true, Bool.false_eq_true, if_false]
        by_cases h4 : hid y nm (t.p.at s u) d = []
        · rw [if_neg (by simpa using h4)]
          rw [h4] at r8
          simp only [sortS, List.map_nil] at r8
          simp only [d_told_at, b_told_at, ydD, thD, e3, place, rt, t3, tdA, run, exs, ex, evB, evM, evML, ev, evF, evA, evO, evT, evI, bndP, bndS, lift, liftS, own, callP, peekL, frzL, DY.peek, look, DY.get, DY.shl, DY.frz, nav, DY.put, blOf, intOf, lstOf, AV.erase, eraseL, binD, cmpD, bltD, isiD, asg, asgL, thin, thinD, thinL, ixP, Option.map_some, Option.map_none, Option.bind_some, Option.bind_none, List.map_cons, List.map_nil, List.length_cons, List.length_nil, List.replicate, List.cons_append, List.nil_append, List.append_nil, List.getElem?_cons_zero, List.getElem?_cons_succ, List.getElem?_nil, List.set_cons_zero, List.set_cons_succ, Nat.sub_self, Nat.reduceSub, Nat.reduceAdd, Bool.not_true, Bool.not_false, if_true, if_false, Bool.false_eq_true, eqD, eqDs, depth, depthL, Nat.zero_le, and_self, and_true, true_and, atZ_0, atZ_1, atZ_2, line_2, line_3, reduceCtorEq, Bool.and_true, Bool.true_and, Bool.and_false, Bool.false_and, Bool.or_true, Bool.or_false, Bool.true_or, Bool.false_or, List.all_cons, List.all_nil, line_1, Nat.reduceLeDiff, Nat.max_self, Nat.zero_max, Nat.max_zero, Int.reduceNe, Int.reduceEq, pz20, pz21, pz30, pz31, pz32, Cs_Fn (show i_direction_at < i_told_at by decide), Cs_Fn (show i_dial_of < i_told_at by decide), Cs_Fn (show i_is_up < i_told_at by decide), Cs_Fn (show i_comes_from_ahead < i_told_at by decide), Cs_Fn (show i_shadow_of < i_told_at by decide), Cs_Fn (show i_lies_on < i_told_at by decide), Cs_Fn (show i_hiders < i_told_at by decide), Cs_Fn (show i_point_of < i_told_at by decide), r1, r2, r3', r4, r5, r6, r7, r8, h1, h2, decide_true]
        · rw [if_pos (by simpa using h4)]
          have hne := sort_ne h4
          have hdp := depth_strs (sortS (hid y nm (t.p.at s u) d))
          have h164 : (0 + 1 ≤ 64) = True := by simp
          simp only [d_told_at, b_told_at, ydD, thD, e3, place, rt, t3, tdA, run, exs, ex, evB, evM, evML, ev, evF, evA, evO, evT, evI, bndP, bndS, lift, liftS, own, callP, peekL, frzL, DY.peek, look, DY.get, DY.shl, DY.frz, nav, DY.put, blOf, intOf, lstOf, AV.erase, eraseL, binD, cmpD, bltD, isiD, asg, asgL, thin, thinD, thinL, ixP, Option.map_some, Option.map_none, Option.bind_some, Option.bind_none, List.map_cons, List.map_nil, List.length_cons, List.length_nil, List.replicate, List.cons_append, List.nil_append, List.append_nil, List.getElem?_cons_zero, List.getElem?_cons_succ, List.getElem?_nil, List.set_cons_zero, List.set_cons_succ, Nat.sub_self, Nat.reduceSub, Nat.reduceAdd, Bool.not_true, Bool.not_false, if_true, if_false, Bool.false_eq_true, eqD, eqDs, depth, depthL, Nat.zero_le, and_self, and_true, true_and, atZ_0, atZ_1, atZ_2, line_2, line_3, reduceCtorEq, Bool.and_true, Bool.true_and, Bool.and_false, Bool.false_and, Bool.or_true, Bool.or_false, Bool.true_or, Bool.false_or, List.all_cons, List.all_nil, line_1, Nat.reduceLeDiff, Nat.max_self, Nat.zero_max, Nat.max_zero, Int.reduceNe, Int.reduceEq, pz20, pz21, pz30, pz31, pz32, Cs_Fn (show i_direction_at < i_told_at by decide), Cs_Fn (show i_dial_of < i_told_at by decide), Cs_Fn (show i_is_up < i_told_at by decide), Cs_Fn (show i_comes_from_ahead < i_told_at by decide), Cs_Fn (show i_shadow_of < i_told_at by decide), Cs_Fn (show i_lies_on < i_told_at by decide), Cs_Fn (show i_hiders < i_told_at by decide), Cs_Fn (show i_point_of < i_told_at by decide), r1, r2, r3', r4, r5, r6, r7, r8, h1, h2, decide_true, hdp, eqDs_nil, hne, h164]
    · rw [if_pos (by simpa using h2)]
      simp only [t3, pl, thD, e3, ydD] at r1 r2 r3' r4
      simp only [d_told_at, b_told_at, ydD, thD, e3, t3, tdA, run, exs, ex, evB, evM, evML, ev, evF, evA, evO, evT, evI, bndP, bndS, lift, liftS, own, callP, peekL, frzL, DY.peek, look, DY.get, DY.shl, DY.frz, nav, DY.put, blOf, intOf, lstOf, AV.erase, eraseL, binD, cmpD, bltD, isiD, asg, asgL, thin, thinD, thinL, ixP, Option.map_some, Option.map_none, Option.bind_some, Option.bind_none, List.map_cons, List.map_nil, List.length_cons, List.length_nil, List.replicate, List.cons_append, List.nil_append, List.append_nil, List.getElem?_cons_zero, List.getElem?_cons_succ, List.getElem?_nil, List.set_cons_zero, List.set_cons_succ, Nat.sub_self, Nat.reduceSub, Nat.reduceAdd, Bool.not_true, Bool.not_false, if_true, if_false, Bool.false_eq_true, eqD, eqDs, depth, depthL, Nat.zero_le, and_self, and_true, true_and, atZ_0, atZ_1, atZ_2, line_2, line_3, reduceCtorEq, Bool.and_true, Bool.true_and, Bool.and_false, Bool.false_and, Bool.or_true, Bool.or_false, Bool.true_or, Bool.false_or, List.all_cons, List.all_nil, line_1, Nat.reduceLeDiff, Nat.max_self, Nat.zero_max, Nat.max_zero, Int.reduceNe, Int.reduceEq, pz20, pz21, pz30, pz31, pz32, Cs_Fn (show i_direction_at < i_told_at by decide), Cs_Fn (show i_dial_of < i_told_at by decide), Cs_Fn (show i_is_up < i_told_at by decide), Cs_Fn (show i_comes_from_ahead < i_told_at by decide), Cs_Fn (show i_shadow_of < i_told_at by decide), Cs_Fn (show i_lies_on < i_told_at by decide), Cs_Fn (show i_hiders < i_told_at by decide), Cs_Fn (show i_point_of < i_told_at by decide), r1, r2, r3', r4, h1, h2, decide_true, decide_false]
  · rw [if_pos (by simpa using h1)]
    simp only [t3, pl, thD, e3, ydD] at r1 r2 r3'
    simp only [d_told_at, b_told_at, ydD, thD, e3, t3, tdA, run, exs, ex, evB, evM, evML, ev, evF, evA, evO, evT, evI, bndP, bndS, lift, liftS, own, callP, peekL, frzL, DY.peek, look, DY.get, DY.shl, DY.frz, nav, DY.put, blOf, intOf, lstOf, AV.erase, eraseL, binD, cmpD, bltD, isiD, asg, asgL, thin, thinD, thinL, ixP, Option.map_some, Option.map_none, Option.bind_some, Option.bind_none, List.map_cons, List.map_nil, List.length_cons, List.length_nil, List.replicate, List.cons_append, List.nil_append, List.append_nil, List.getElem?_cons_zero, List.getElem?_cons_succ, List.getElem?_nil, List.set_cons_zero, List.set_cons_succ, Nat.sub_self, Nat.reduceSub, Nat.reduceAdd, Bool.not_true, Bool.not_false, if_true, if_false, Bool.false_eq_true, eqD, eqDs, depth, depthL, Nat.zero_le, and_self, and_true, true_and, atZ_0, atZ_1, atZ_2, line_2, line_3, reduceCtorEq, Bool.and_true, Bool.true_and, Bool.and_false, Bool.false_and, Bool.or_true, Bool.or_false, Bool.true_or, Bool.false_or, List.all_cons, List.all_nil, line_1, Nat.reduceLeDiff, Nat.max_self, Nat.zero_max, Nat.max_zero, Int.reduceNe, Int.reduceEq, pz20, pz21, pz30, pz31, pz32, Cs_Fn (show i_direction_at < i_told_at by decide), Cs_Fn (show i_dial_of < i_told_at by decide), Cs_Fn (show i_is_up < i_told_at by decide), Cs_Fn (show i_comes_from_ahead < i_told_at by decide), Cs_Fn (show i_shadow_of < i_told_at by decide), Cs_Fn (show i_lies_on < i_told_at by decide), Cs_Fn (show i_hiders < i_told_at by decide), Cs_Fn (show i_point_of < i_told_at by decide), r1, r2, r3', h1, decide_false]
end K37
set_option Elab.async false
set_option linter.all false
set_option maxRecDepth 100000
set_option maxHeartbeats 1000000
namespace K37
open DY
section
variable {m n : Nat} {a b : T3} {p : Pl} {q : R3}
theorem F__law_dot (h : B3 m a) (g : B3 n b) (hl : m + n < 8000) : F i__law_dot [t3 a, t3 b] = .ok (.fz (.int (a.dot b))) := by
  rw [show F i__law_dot = _ from Fn_at (d := d__law_dot) rfl]
  have o1 := mulOk_of h.x g.x (by omega)
  have o2 := mulOk_of h.y g.y (by omega)
  have o3 := mulOk_of h.z g.z (by omega)
  simp only [d__law_dot, b__law_dot, t3, rt, pl, r3, run, exs, ex, evB, evM, evML, ev, evF, evA, evO, evT, evI, bndP, bndS, lift, liftS, own, callP, peekL, frzL, DY.peek, look, DY.get, DY.shl, DY.frz, nav, DY.put, blOf, intOf, lstOf, AV.erase, eraseL, binD, cmpD, bltD, isiD, asg, asgL, thin, thinD, thinL, ixP, Option.map_some, Option.map_none, Option.bind_some, Option.bind_none, List.map_cons, List.map_nil, List.length_cons, List.length_nil, List.replicate, List.cons_append, List.nil_append, List.append_nil, List.getElem?_cons_zero, List.getElem?_cons_succ, List.getElem?_nil, List.set_cons_zero, List.set_cons_succ, Nat.sub_self, Nat.reduceSub, Nat.reduceAdd, Bool.not_true, Bool.not_false, if_true, if_false, Bool.false_eq_true, eqD, eqDs, depth, depthL, Nat.zero_le, and_self, and_true, true_and, atZ_0, atZ_1, atZ_2, line_2, line_3, reduceCtorEq, Bool.and_true, Bool.true_and, Bool.and_false, Bool.false_and, Bool.or_true, Bool.or_false, Bool.true_or, Bool.false_or, List.all_cons, List.all_nil, line_1, Nat.reduceLeDiff, Nat.max_self, Nat.zero_max, Nat.max_zero, Int.reduceNe, Int.reduceEq, pz20, pz21, pz30, pz31, pz32, o1, o2, o3, T3.dot]
theorem F__law_cross (h : B3 m a) (g : B3 n b) (hl : m + n < 8000) : F i__law_cross [t3 a, t3 b] = .ok (.fz (t3 (a.cross b))) := by
  rw [show F i__law_cross = _ from Fn_at (d := d__law_cross) rfl]
  have o0 := mulOk_of h.y g.z (by omega)
  have o1 := mulOk_of h.z g.y (by omega)
  have o2 := mulOk_of h.z g.x (by omega)
  have o3 := mulOk_of h.x g.z (by omega)
  have o4 := mulOk_of h.x g.y (by omega)
  have o5 := mulOk_of h.y g.x (by omega)
  simp only [d__law_cross, b__law_cross, t3, rt, pl, r3, run, exs, ex, evB, evM, evML, ev, evF, evA, evO, evT, evI, bndP, bndS, lift, liftS, own, callP, peekL, frzL, DY.peek, look, DY.get, DY.shl, DY.frz, nav, DY.put, blOf, intOf, lstOf, AV.erase, eraseL, binD, cmpD, bltD, isiD, asg, asgL, thin, thinD, thinL, ixP, Option.map_some, Option.map_none, Option.bind_some, Option.bind_none, List.map_cons, List.map_nil, List.length_cons, List.length_nil, List.replicate, List.cons_append, List.nil_append, List.append_nil, List.getElem?_cons_zero, List.getElem?_cons_succ, List.getElem?_nil, List.set_cons_zero, List.set_cons_succ, Nat.sub_self, Nat.reduceSub, Nat.reduceAdd, Bool.not_true, Bool.not_false, if_true, if_false, Bool.false_eq_true, eqD, eqDs, depth, depthL, Nat.zero_le, and_self, and_true, true_and, atZ_0, atZ_1, atZ_2, line_2, line_3, reduceCtorEq, Bool.and_true, Bool.true_and, Bool.and_false, Bool.false_and, Bool.or_true, Bool.or_false, Bool.true_or, Bool.false_or, List.all_cons, List.all_nil, line_1, Nat.reduceLeDiff, Nat.max_self, Nat.zero_max, Nat.max_zero, Int.reduceNe, Int.reduceEq, pz20, pz21, pz30, pz31, pz32, o0, o1, o2, o3, o4, o5, T3.cross]
theorem F__law_on {k : Nat} {x : Int} (h : B3 m a) (g : B3 n b) (hx : Bt k x) (hl : n + k < 8000) : F i__law_on [t3 a, t3 b, .int x] = .ok (.fz (t3 (a.on b x))) := by
  rw [show F i__law_on = _ from Fn_at (d := d__law_on) rfl]
  have ox := mulOk_of hx g.x (by omega)
  have oy := mulOk_of hx g.y (by omega)
  have oz := mulOk_of hx g.z (by omega)
  simp only [d__law_on, b__law_on, t3, rt, pl, r3, run, exs, ex, evB, evM, evML, ev, evF, evA, evO, evT, evI, bndP, bndS, lift, liftS, own, callP, peekL, frzL, DY.peek, look, DY.get, DY.shl, DY.frz, nav, DY.put, blOf, intOf, lstOf, AV.erase, eraseL, binD, cmpD, bltD, isiD, asg, asgL, thin, thinD, thinL, ixP, Option.map_some, Option.map_none, Option.bind_some, Option.bind_none, List.map_cons, List.map_nil, List.length_cons, List.length_nil, List.replicate, List.cons_append, List.nil_append, List.append_nil, List.getElem?_cons_zero, List.getElem?_cons_succ, List.getElem?_nil, List.set_cons_zero, List.set_cons_succ, Nat.sub_self, Nat.reduceSub, Nat.reduceAdd, Bool.not_true, Bool.not_false, if_true, if_false, Bool.false_eq_true, eqD, eqDs, depth, depthL, Nat.zero_le, and_self, and_true, true_and, atZ_0, atZ_1, atZ_2, line_2, line_3, reduceCtorEq, Bool.and_true, Bool.true_and, Bool.and_false, Bool.false_and, Bool.or_true, Bool.or_false, Bool.true_or, Bool.false_or, List.all_cons, List.all_nil, line_1, Nat.reduceLeDiff, Nat.max_self, Nat.zero_max, Nat.max_zero, Int.reduceNe, Int.reduceEq, pz20, pz21, pz30, pz31, pz32, ox, oy, oz, T3.on]
end
theorem F__law_cell {ns : List Int} {k : Int} (hk : 0 ≤ k) (hb : Bt 7 k) : ∃ c, F i__law_cell [.scr ns, .int k] = .ok (.fz (.int c)) := by
  rw [show F i__law_cell = _ from Fn_at (d := d__law_cell) rfl]
  by_cases h : k < ns.length
  · obtain ⟨c, hc, _⟩ := atZ_in hk h
    exact ⟨c, by simp only [d__law_cell, b__law_cell, run, exs, ex, evB, evM, evML, ev, evF, evA, evO, evT, evI, bndP, bndS, lift, liftS, own, callP, peekL, frzL, DY.peek, look, DY.get, DY.shl, DY.frz, nav, DY.put, blOf, intOf, lstOf, AV.erase, eraseL, binD, cmpD, bltD, isiD, asg, asgL, thin, thinD, thinL, ixP, Option.map_some, Option.map_none, Option.bind_some, Option.bind_none, List.map_cons, List.map_nil, List.length_cons, List.length_nil, List.replicate, List.cons_append, List.nil_append, List.append_nil, List.getElem?_cons_zero, List.getElem?_cons_succ, List.getElem?_nil, List.set_cons_zero, List.set_cons_succ, Nat.sub_self, Nat.reduceSub, Nat.reduceAdd, Bool.not_true, Bool.not_false, if_true, if_false, Bool.false_eq_true, eqD, eqDs, depth, depthL, Nat.zero_le, and_self, and_true, true_and, atZ_0, atZ_1, atZ_2, line_2, line_3, reduceCtorEq, Bool.and_true, Bool.true_and, Bool.and_false, Bool.false_and, Bool.or_true, Bool.or_false, Bool.true_or, Bool.false_or, List.all_cons, List.all_nil, line_1, Nat.reduceLeDiff, Nat.max_self, Nat.zero_max, Nat.max_zero, Int.reduceNe, Int.reduceEq, pz20, pz21, pz30, pz31, pz32, h, decide_true, hc]⟩
  · have m1 := mulOk_of hb hb (by omega)
    have m2 := mulOk_of (hb.mul hb) (Bt.lit_ 16 48271 (by decide)) (by omega)
    have m3 := mulOk_of (Bt.lit_ 13 7919 (by decide)) hb (by omega)
    have bn : Bt 40 (k * k * 48271 + 7919 * k + 11) := ((((hb.mul hb).mul (Bt.lit_ 16 48271 (by decide))).add ((Bt.lit_ 13 7919 (by decide)).mul hb)).add (Bt.lit_ 4 11 (by decide))).le (by decide)
    have bm : ∀ x : Int, Bt 31 (x.fmod 2147483629) := fun x => by
      have := fmod_bd (a := x) (b := 2147483629) (by decide)
      unfold Bt; omega
    have bm2 : ∀ x : Int, Bt 31 (x.fmod 2147483647) := fun x => by
      have := fmod_bd (a := x) (b := 2147483647) (by decide)
      unfold Bt; omega
    have m5 : ∀ x : Int, mulOk (x.fmod 2147483629) 982451653 := fun x => mulOk_of (bm x) (Bt.lit_ 30 982451653 (by decide)) (by omega)
    have n1 : ¬ (2147483629 : Int) = 0 := by decide
    have n2 : ¬ (2147483647 : Int) = 0 := by decide
    by_cases h0 : 0 < ns.length
    · have h0' : (0 : Int) < ns.length := by omega
      obtain ⟨c, hc, _⟩ := atZ_in (xs := ns) (i := (k * 7).fmod ns.length) (fmod_bd h0').1 (fmod_bd h0').2
      have m4 := mulOk_of hb (Bt.lit_ 3 7 (by decide)) (by omega)
      have bk : Bt 18 (k * k + 69621) := ((hb.mul hb).add (Bt.lit_ 17 69621 (by decide))).le (by decide)
      have m6 := mulOk_of (bm2 c) bk (by omega)
      have bb := bn.add ((bm2 c).mul bk)
      have m7 := mulOk_of bb bb (by omega)
      have n3 : ¬ (ns.length : Int) = 0 := by omega
      exact ⟨_, by simp only [d__law_cell, b__law_cell, run, exs, ex, evB, evM, evML, ev, evF, evA, evO, evT, evI, bndP, bndS, lift, liftS, own, callP, peekL, frzL, DY.peek, look, DY.get, DY.shl, DY.frz, nav, DY.put, blOf, intOf, lstOf, AV.erase, eraseL, binD, cmpD, bltD, isiD, asg, asgL, thin, thinD, thinL, ixP, Option.map_some, Option.map_none, Option.bind_some, Option.bind_none, List.map_cons, List.map_nil, List.length_cons, List.length_nil, List.replicate, List.cons_append, List.nil_append, List.append_nil, List.getElem?_cons_zero, List.getElem?_cons_succ, List.getElem?_nil, List.set_cons_zero, List.set_cons_succ, Nat.sub_self, Nat.reduceSub, Nat.reduceAdd, Bool.not_true, Bool.not_false, if_true, if_false, Bool.false_eq_true, eqD, eqDs, depth, depthL, Nat.zero_le, and_self, and_true, true_and, atZ_0, atZ_1, atZ_2, line_2, line_3, reduceCtorEq, Bool.and_true, Bool.true_and, Bool.and_false, Bool.false_and, Bool.or_true, Bool.or_false, Bool.true_or, Bool.false_or, List.all_cons, List.all_nil, line_1, Nat.reduceLeDiff, Nat.max_self, Nat.zero_max, Nat.max_zero, Int.reduceNe, Int.reduceEq, pz20, pz21, pz30, pz31, pz32, h, h0', decide_true, decide_false, hc, m1, m2, m3, m4, m5, m6, m7, n1, n2, n3, ne_eq, not_false_eq_true]; rfl⟩
    · have h0' : ¬ (0 : Int) < ns.length := by omega
      have m7 := mulOk_of bn bn (by omega)
      exact ⟨_, by simp only [d__law_cell, b__law_cell, run, exs, ex, evB, evM, evML, ev, evF, evA, evO, evT, evI, bndP, bndS, lift, liftS, own, callP, peekL, frzL, DY.peek, look, DY.get, DY.shl, DY.frz, nav, DY.put, blOf, intOf, lstOf, AV.erase, eraseL, binD, cmpD, bltD, isiD, asg, asgL, thin, thinD, thinL, ixP, Option.map_some, Option.map_none, Option.bind_some, Option.bind_none, List.map_cons, List.map_nil, List.length_cons, List.length_nil, List.replicate, List.cons_append, List.nil_append, List.append_nil, List.getElem?_cons_zero, List.getElem?_cons_succ, List.getElem?_nil, List.set_cons_zero, List.set_cons_succ, Nat.sub_self, Nat.reduceSub, Nat.reduceAdd, Bool.not_true, Bool.not_false, if_true, if_false, Bool.false_eq_true, eqD, eqDs, depth, depthL, Nat.zero_le, and_self, and_true, true_and, atZ_0, atZ_1, atZ_2, line_2, line_3, reduceCtorEq, Bool.and_true, Bool.true_and, Bool.and_false, Bool.false_and, Bool.or_true, Bool.or_false, Bool.true_or, Bool.false_or, List.all_cons, List.all_nil, line_1, Nat.reduceLeDiff, Nat.max_self, Nat.zero_max, Nat.max_zero, Int.reduceNe, Int.reduceEq, pz20, pz21, pz30, pz31, pz32, h, h0', decide_true, decide_false, m1, m2, m3, m5, m7, n1, n2, ne_eq, not_false_eq_true]; rfl⟩
theorem F__law_wide {ns : List Int} {k : Int} (hk : 0 ≤ k) (hb : Bt 7 k) : ∃ w, 0 ≤ w ∧ Bt 460 w ∧ F i__law_wide [.scr ns, .int k] = .ok (.fz (.int w)) := by
  obtain ⟨c, hc⟩ := F__law_cell (ns := ns) hk hb
  rw [show F i__law_wide = _ from Fn_at (d := d__law_wide) rfl]
  have p1 : powOk 10 18 := by decide
  have p2 : powOk 10 60 := by decide
  have e1 : (10 : Int) ^ Int.toNat 18 = 1000000000000000000 := by decide
  have e2 : (10 : Int) ^ Int.toNat 60 = 1000000000000000000000000000000000000000000000000000000000000 := by decide
  have m1 : mulOk 1000000000000000000000000000000000000000000000000000000000000 1000000000000000000000000000000000000000000000000000000000000 := mulOk_of (Bt.lit_ 200 _ (by decide)) (Bt.lit_ 200 _ (by decide)) (by omega)
  by_cases h : k < ns.length ∧ 1000000000000000000 ≤ c
  · have n1 : ¬ (1000000000000000000000000000000000000000000000000000000000000 * 1000000000000000000000000000000000000000000000000000000000000 : Int) = 0 := by decide
    have := fmod_bd (a := c) (b := 1000000000000000000000000000000000000000000000000000000000000 * 1000000000000000000000000000000000000000000000000000000000000) (by decide)
    refine ⟨_, this.1, ?_, by simp only [d__law_wide, b__law_wide, run, exs, ex, evB, evM, evML, ev, evF, evA, evO, evT, evI, bndP, bndS, lift, liftS, own, callP, peekL, frzL, DY.peek, look, DY.get, DY.shl, DY.frz, nav, DY.put, blOf, intOf, lstOf, AV.erase, eraseL, binD, cmpD, bltD, isiD, asg, asgL, thin, thinD, thinL, ixP, Option.map_some, Option.map_none, Option.bind_some, Option.bind_none, List.map_cons, List.map_nil, List.length_cons, List.length_nil, List.replicate, List.cons_append, List.nil_append, List.append_nil, List.getElem?_cons_zero, List.getElem?_cons_succ, List.getElem?_nil, List.set_cons_zero, List.set_cons_succ, Nat.sub_self, Nat.reduceSub, Nat.reduceAdd, Bool.not_true, Bool.not_false, if_true, if_false, Bool.false_eq_true, eqD, eqDs, depth, depthL, Nat.zero_le, and_self, and_true, true_and, atZ_0, atZ_1, atZ_2, line_2, line_3, reduceCtorEq, Bool.and_true, Bool.true_and, Bool.and_false, Bool.false_and, Bool.or_true, Bool.or_false, Bool.true_or, Bool.false_or, List.all_cons, List.all_nil, line_1, Nat.reduceLeDiff, Nat.max_self, Nat.zero_max, Nat.max_zero, Int.reduceNe, Int.reduceEq, pz20, pz21, pz30, pz31, pz32, Cs_Fn (show i__law_cell < i__law_wide by decide), hc, h.1, h.2, decide_true, p1, p2, e1, e2, m1, n1, ne_eq, not_false_eq_true]⟩
    have hA := (Bt.lit_ 200 1000000000000000000000000000000000000000000000000000000000000 (by decide)).mul (Bt.lit_ 200 1000000000000000000000000000000000000000000000000000000000000 (by decide))
    exact (hA.of_abs (by omega)).le (by decide)
  · have n1 : ¬ (2147483629 : Int) = 0 := by decide
    have hm := fmod_bd (a := c) (b := 2147483629) (by decide)
    have bm : Bt 31 (c.fmod 2147483629) := by unfold Bt; omega
    have hkk : k * k < 16384 ∧ 0 ≤ k * k := by
      unfold Bt at hb
      have h1 : k < 128 := by omega
      exact ⟨Int.lt_of_le_of_lt (Int.mul_le_mul_of_nonneg_left (show k ≤ 127 by omega) hk) (by omega), Int.mul_nonneg hk hk⟩
    have mk := mulOk_of hb hb (by omega)
    generalize hr : c.fmod 2147483629 = r at *
    generalize hq : k * k = q at *
    have bx : Bt 32 (r + 48271 + q) := by unfold Bt; omega
    have m2 := mulOk_of bx (Bt.lit_ 30 982451653 (by decide)) (by omega)
    have pz : powOk ((r + 48271 + q) * 982451653 + 7) 7 := by unfold powOk; omega
    have bz : Bt 63 ((r + 48271 + q) * 982451653 + 7) := by unfold Bt; omega
    have dv : divOk 1000003 := by decide
    have hz0 : 0 ≤ (r + 48271 + q) * 982451653 + 7 := by omega
    generalize hz : (r + 48271 + q) * 982451653 + 7 = z at *
    have e7 : z ^ Int.toNat 7 = z * z * z * z * z * z * z := by show z ^ 7 = _; simp [Int.pow_succ]
    have b7 := (((((bz.mul bz).mul bz).mul bz).mul bz).mul bz).mul bz
    have p7 : 0 ≤ z * z * z * z * z * z * z := by
      have h2 := Int.mul_nonneg hz0 hz0
      exact Int.mul_nonneg (Int.mul_nonneg (Int.mul_nonneg (Int.mul_nonneg (Int.mul_nonneg h2 hz0) hz0) hz0) hz0) hz0
    refine ⟨(z * z * z * z * z * z * z).fdiv 1000003, Int.fdiv_nonneg p7 (by decide), ?_, ?_⟩
    · refine (b7.of_abs ?_).le (by decide)
      rw [Int.fdiv_eq_ediv_of_nonneg _ (by decide)]
      generalize z * z * z * z * z * z * z = y at *
      omega
    · by_cases h1 : k < ns.length
      · have h2 : ¬ 1000000000000000000 ≤ c := fun g => h ⟨h1, g⟩
        simp only [d__law_wide, b__law_wide, run, exs, ex, evB, evM, evML, ev, evF, evA, evO, evT, evI, bndP, bndS, lift, liftS, own, callP, peekL, frzL, DY.peek, look, DY.get, DY.shl, DY.frz, nav, DY.put, blOf, intOf, lstOf, AV.erase, eraseL, binD, cmpD, bltD, isiD, asg, asgL, thin, thinD, thinL, ixP, Option.map_some, Option.map_none, Option.bind_some, Option.bind_none, List.map_cons, List.map_nil, List.length_cons, List.length_nil, List.replicate, List.cons_append, List.nil_append, List.append_nil, List.getElem?_cons_zero, List.getElem?_cons_succ, List.getElem?_nil, List.set_cons_zero, List.set_cons_succ, Nat.sub_self, Nat.reduceSub, Nat.reduceAdd, Bool.not_true, Bool.not_false, if_true, if_false, Bool.false_eq_true, eqD, eqDs, depth, depthL, Nat.zero_le, and_self, and_true, true_and, atZ_0, atZ_1, atZ_2, line_2, line_3, reduceCtorEq, Bool.and_true, Bool.true_and, Bool.and_false, Bool.false_and, Bool.or_true, Bool.or_false, Bool.true_or, Bool.false_or, List.all_cons, List.all_nil, line_1, Nat.reduceLeDiff, Nat.max_self, Nat.zero_max, Nat.max_zero, Int.reduceNe, Int.reduceEq, pz20, pz21, pz30, pz31, pz32, Cs_Fn (show i__law_cell < i__law_wide by decide), hc, h1, h2, decide_true, decide_false, p1, e1, n1, hr, hq, mk, m2, hz, pz, e7, dv, ne_eq, not_false_eq_true]
      · simp only [d__law_wide, b__law_wide, run, exs, ex, evB, evM, evML, ev, evF, evA, evO, evT, evI, bndP, bndS, lift, liftS, own, callP, peekL, frzL, DY.peek, look, DY.get, DY.shl, DY.frz, nav, DY.put, blOf, intOf, lstOf, AV.erase, eraseL, binD, cmpD, bltD, isiD, asg, asgL, thin, thinD, thinL, ixP, Option.map_some, Option.map_none, Option.bind_some, Option.bind_none, List.map_cons, List.map_nil, List.length_cons, List.length_nil, List.replicate, List.cons_append, List.nil_append, List.append_nil, List.getElem?_cons_zero, List.getElem?_cons_succ, List.getElem?_nil, List.set_cons_zero, List.set_cons_succ, Nat.sub_self, Nat.reduceSub, Nat.reduceAdd, Bool.not_true, Bool.not_false, if_true, if_false, Bool.false_eq_true, eqD, eqDs, depth, depthL, Nat.zero_le, and_self, and_true, true_and, atZ_0, atZ_1, atZ_2, line_2, line_3, reduceCtorEq, Bool.and_true, Bool.true_and, Bool.and_false, Bool.false_and, Bool.or_true, Bool.or_false, Bool.true_or, Bool.false_or, List.all_cons, List.all_nil, line_1, Nat.reduceLeDiff, Nat.max_self, Nat.zero_max, Nat.max_zero, Int.reduceNe, Int.reduceEq, pz20, pz21, pz30, pz31, pz32, Cs_Fn (show i__law_cell < i__law_wide by decide), hc, h1, decide_false, n1, hr, hq, mk, m2, hz, pz, e7, dv, ne_eq, not_false_eq_true]
/-- the script's number at a place -/
def wide (ns : List Int) (k : Int) : Int := match F i__law_wide [.scr ns, .int k] with
  | .ok (.fz (.int w)) => w
  | _ => 0
theorem wide_of {ns : List Int} {k : Int} (hk : 0 ≤ k) (hb : Bt 7 k) : 0 ≤ wide ns k ∧ Bt 460 (wide ns k) ∧ F i__law_wide [.scr ns, .int k] = .ok (.fz (.int (wide ns k))) := by
  obtain ⟨w, h1, h2, h3⟩ := F__law_wide (ns := ns) hk hb
  have e : wide ns k = w := by unfold wide; rw [h3]
  rw [e]; exact ⟨h1, h2, h3⟩
theorem wide_at {ns : List Int} {k : Nat} (hk : k < 128) : 0 ≤ wide ns k ∧ Bt 460 (wide ns k) ∧ F i__law_wide [.scr ns, .int k] = .ok (.fz (.int (wide ns k))) := wide_of (by omega) (by unfold Bt; omega)
theorem F__law_triple {w m : Int} (hm : 0 < m) (hm2 : m ≤ 10) : ∃ a, A3 m.natAbs a ∧ F i__law_triple [.int w, .int m] = .ok (.fz (t3 a)) := by
  rw [show F i__law_triple = _ from Fn_at (d := d__law_triple) rfl]
  have bm : Bt 4 m := by unfold Bt; omega
  have m1 := mulOk_of (Bt.lit_ 2 2 (by decide)) bm (by omega)
  have hs : 0 < 2 * m + 1 := by omega
  have bs : Bt 5 (2 * m + 1) := by unfold Bt; omega
  have d1 := divOk_of bs (by omega) (by omega)
  have p1 : powOk (2 * m + 1) 2 := by unfold powOk; omega
  have e1 : (2 * m + 1) ^ Int.toNat 2 = (2 * m + 1) * (2 * m + 1) := by show (2 * m + 1) ^ 2 = _; simp [Int.pow_succ]
  have d2 := divOk_of (bs.mul bs) (by omega) (Int.mul_ne_zero (by omega) (by omega))
  have n0 : ¬ (2 * m + 1 : Int) = 0 := by omega
  have f : ∀ x : Int, (x.fmod (2 * m + 1) - m).natAbs ≤ m.natAbs := fun x => by have := fmod_bd (a := x) hs; omega
  exact ⟨⟨w.fmod (2 * m + 1) - m, (w.fdiv (2 * m + 1)).fmod (2 * m + 1) - m, (w.fdiv ((2 * m + 1) * (2 * m + 1))).fmod (2 * m + 1) - m⟩, ⟨f _, f _, f _⟩,
    by simp only [d__law_triple, b__law_triple, t3, run, exs, ex, evB, evM, evML, ev, evF, evA, evO, evT, evI, bndP, bndS, lift, liftS, own, callP, peekL, frzL, DY.peek, look, DY.get, DY.shl, DY.frz, nav, DY.put, blOf, intOf, lstOf, AV.erase, eraseL, binD, cmpD, bltD, isiD, asg, asgL, thin, thinD, thinL, ixP, Option.map_some, Option.map_none, Option.bind_some, Option.bind_none, List.map_cons, List.map_nil, List.length_cons, List.length_nil, List.replicate, List.cons_append, List.nil_append, List.append_nil, List.getElem?_cons_zero, List.getElem?_cons_succ, List.getElem?_nil, List.set_cons_zero, List.set_cons_succ, Nat.sub_self, Nat.reduceSub, Nat.reduceAdd, Bool.not_true, Bool.not_false, if_true, if_false, Bool.false_eq_true, eqD, eqDs, depth, depthL, Nat.zero_le, and_self, and_true, true_and, atZ_0, atZ_1, atZ_2, line_2, line_3, reduceCtorEq, Bool.and_true, Bool.true_and, Bool.and_false, Bool.false_and, Bool.or_true, Bool.or_false, Bool.true_or, Bool.false_or, List.all_cons, List.all_nil, line_1, Nat.reduceLeDiff, Nat.max_self, Nat.zero_max, Nat.max_zero, Int.reduceNe, Int.reduceEq, pz20, pz21, pz30, pz31, pz32, m1, d1, p1, e1, d2, n0, ne_eq, not_false_eq_true]⟩
theorem F__law_pair {w m : Int} (hm : 0 < m) (hm2 : m ≤ 10) : ∃ a b, A3 m.natAbs a ∧ A3 m.natAbs b ∧ a.cross b ≠ ⟨0, 0, 0⟩ ∧ F i__law_pair [.int w, .int m] = .ok (.fz (.tup [t3 a, t3 b])) := by
  obtain ⟨a, ha, ra⟩ := F__law_triple (w := w) hm hm2
  have bm : Bt 4 m := by unfold Bt; omega
  have m1 := mulOk_of (Bt.lit_ 2 2 (by decide)) bm (by omega)
  have bs : Bt 5 (2 * m + 1) := by unfold Bt; omega
  have p1 : powOk (2 * m + 1) 3 := by unfold powOk; omega
  have e1 : (2 * m + 1) ^ Int.toNat 3 = (2 * m + 1) * (2 * m + 1) * (2 * m + 1) := by show (2 * m + 1) ^ 3 = _; simp [Int.pow_succ]
  have d2 := divOk_of ((bs.mul bs).mul bs) (by omega) (Int.mul_ne_zero (Int.mul_ne_zero (by omega) (by omega)) (by omega))
  obtain ⟨b, hb, rb⟩ := F__law_triple (w := w.fdiv ((2 * m + 1) * (2 * m + 1) * (2 * m + 1))) hm hm2
  have r := F__law_cross (ha.b3 (n := 4) (by omega)) (hb.b3 (n := 4) (by omega)) (by omega)
  rw [show F i__law_pair = _ from Fn_at (d := d__law_pair) rfl]
  simp only [t3] at ra rb r
  cases hq : ((a.cross b).x == 0 && ((a.cross b).y == 0 && (a.cross b).z == 0)) with
  | true =>
    exact ⟨⟨m, 0, 0⟩, ⟨0, m, 0⟩, ⟨Nat.le_refl _, Nat.zero_le _, Nat.zero_le _⟩, ⟨Nat.zero_le _, Nat.le_refl _, Nat.zero_le _⟩, by
        intro e
        have e2 := congrArg T3.z e
        simp only [T3.cross] at e2
        have := Int.mul_pos hm hm
        omega,
      by simp only [d__law_pair, b__law_pair, t3, run, exs, ex, evB, evM, evML, ev, evF, evA, evO, evT, evI, bndP, bndS, lift, liftS, own, callP, peekL, frzL, DY.peek, look, DY.get, DY.shl, DY.frz, nav, DY.put, blOf, intOf, lstOf, AV.erase, eraseL, binD, cmpD, bltD, isiD, asg, asgL, thin, thinD, thinL, ixP, Option.map_some, Option.map_none, Option.bind_some, Option.bind_none, List.map_cons, List.map_nil, List.length_cons, List.length_nil, List.replicate, List.cons_append, List.nil_append, List.append_nil, List.getElem?_cons_zero, List.getElem?_cons_succ, List.getElem?_nil, List.set_cons_zero, List.set_cons_succ, Nat.sub_self, Nat.reduceSub, Nat.reduceAdd, Bool.not_true, Bool.not_false, if_true, if_false, Bool.false_eq_true, eqD, eqDs, depth, depthL, Nat.zero_le, and_self, and_true, true_and, atZ_0, atZ_1, atZ_2, line_2, line_3, reduceCtorEq, Bool.and_true, Bool.true_and, Bool.and_false, Bool.false_and, Bool.or_true, Bool.or_false, Bool.true_or, Bool.false_or, List.all_cons, List.all_nil, line_1, Nat.reduceLeDiff, Nat.max_self, Nat.zero_max, Nat.max_zero, Int.reduceNe, Int.reduceEq, pz20, pz21, pz30, pz31, pz32, Cs_Fn (show i__law_triple < i__law_pair by decide), Cs_Fn (show i__law_cross < i__law_pair by decide), ra, rb, r, m1, p1, e1, d2, hq]⟩
  | false =>
    exact ⟨a, b, ha, hb, by rw [eq0_T3] at hq; simpa using hq,
      by simp only [d__law_pair, b__law_pair, t3, run, exs, ex, evB, evM, evML, ev, evF, evA, evO, evT, evI, bndP, bndS, lift, liftS, own, callP, peekL, frzL, DY.peek, look, DY.get, DY.shl, DY.frz, nav, DY.put, blOf, intOf, lstOf, AV.erase, eraseL, binD, cmpD, bltD, isiD, asg, asgL, thin, thinD, thinL, ixP, Option.map_some, Option.map_none, Option.bind_some, Option.bind_none, List.map_cons, List.map_nil, List.length_cons, List.length_nil, List.replicate, List.cons_append, List.nil_append, List.append_nil, List.getElem?_cons_zero, List.getElem?_cons_succ, List.getElem?_nil, List.set_cons_zero, List.set_cons_succ, Nat.sub_self, Nat.reduceSub, Nat.reduceAdd, Bool.not_true, Bool.not_false, if_true, if_false, Bool.false_eq_true, eqD, eqDs, depth, depthL, Nat.zero_le, and_self, and_true, true_and, atZ_0, atZ_1, atZ_2, line_2, line_3, reduceCtorEq, Bool.and_true, Bool.true_and, Bool.and_false, Bool.false_and, Bool.or_true, Bool.or_false, Bool.true_or, Bool.false_or, List.all_cons, List.all_nil, line_1, Nat.reduceLeDiff, Nat.max_self, Nat.zero_max, Nat.max_zero, Int.reduceNe, Int.reduceEq, pz20, pz21, pz30, pz31, pz32, Cs_Fn (show i__law_triple < i__law_pair by decide), Cs_Fn (show i__law_cross < i__law_pair by decide), ra, rb, r, m1, p1, e1, d2, hq]⟩
theorem F__law_sun {ns : List Int} {m : Nat} (hm : m ≤ 12) : ∃ sun : List (Int × T3), sun.length = m ∧ SunOk sun ∧ F i__law_sun [.scr ns, .int m] = .ok (.ol (sun.map rowD)) := by
  rw [show F i__law_sun = _ from Fn_at (d := d__law_sun) rfl]
  obtain ⟨w1, _, _, hw1⟩ := F__law_wide (ns := ns) (k := 1) (by decide) (by unfold Bt; decide)
  have f24 := fmod_bd (a := w1) (b := 24) (by decide)
  have s62 : small62 (m : Int) := by unfold small62; omega
  obtain ⟨ρ', e1, b, hr, u4, u5, u6, u7, hb, hA, hH, e2⟩ := loop_foldi (f := body1 (Cs G above Ds i__law_sun) G above (.nm 4) L__law_sun_1) (g := fun k : Nat => D.int (0 + (k : Int))) (ok := fun k => k < m) (List.range m).length
    (fun i (_ : Unit) ρ => ∃ (b : List (Int × T3)) (hr : Int) (u4 u5 u6 u7 : Option AV), b.length = i ∧ SunOk b ∧ (0 ≤ hr ∧ hr ≤ 23 + 5 * i ∧ ∀ r ∈ b, r.1 < hr) ∧ ρ = [some (.fz (.scr ns)), some (.fz (.int m)), some (.ol (b.map rowD)), some (.fz (.int hr)), u4, u5, u6, u7]) (fun _ _ => ())
    (fun i _ k ρ hi hk ⟨b, hr, u4, u5, u6, u7, hb, hA, ⟨h01, h02, h03⟩, hρ⟩ => by
      subst hρ
      obtain ⟨w, _, _, hw⟩ := F__law_wide (ns := ns) (k := 2 + (0 + (k : Int))) (by omega) (by unfold Bt; omega)
      rw [List.length_range] at hi
      have hbl : b.length < line := line_big (by omega)
      obtain ⟨v2, v3, v4, v7, v9, v20, v26, v30, v60, v63, v100, v120, v300, v441, v2000, v2205, v3600, v10000, v14400⟩ := dvs
      have q9 := fmod_bd (a := w) (b := 9) (by decide)
      have hj : (w.fmod 9).fdiv 7 = 0 ∨ (w.fmod 9).fdiv 7 = 1 := by rw [Int.fdiv_eq_ediv_of_nonneg _ (by decide)]; omega
      have f4 := fmod_bd (a := w.fdiv 441) (b := 4) (by decide)
      have f5 := fmod_bd (a := w.fdiv 441) (b := 5) (by decide)
      have f7 := fmod_bd (a := w.fdiv 9) (b := 7) (by decide)
      have f8 := fmod_bd (a := w.fdiv 63) (b := 7) (by decide)
      have big : ∃ hgh : Int, hgh.natAbs ≤ 5 ∧ atZ [D.int ((w.fdiv 441).fmod 4 + 1), D.int ((w.fdiv 441).fmod 5 - 3)] ((w.fmod 9).fdiv 7) = some (.int hgh) := by
        rcases hj with j | j
        · exact ⟨(w.fdiv 441).fmod 4 + 1, by omega, by rw [j]; rfl⟩
        · exact ⟨(w.fdiv 441).fmod 5 - 3, by omega, by rw [j]; rfl⟩
      have f2 := fmod_bd (a := w.fdiv 2205) (b := 5) (by decide)
      have hlt : hr ≤ 9999 := by omega
      have hn : 0 ≤ hr + 1 + (w.fdiv 2205).fmod 5 ∧ hr + 1 + (w.fdiv 2205).fmod 5 ≤ 23 + 5 * ((i + 1 : Nat) : Int) := by omega
      have hl2 : ∀ r ∈ b, r.1 < hr + 1 + (w.fdiv 2205).fmod 5 := fun r hr' => by have := h03 r hr'; omega
      have a0 : A3 5 ⟨0, 0, 1⟩ := ⟨by decide, by decide, by decide⟩
      obtain ⟨hgh, hg1, hg2⟩ := big
      have a1 : A3 5 ⟨(w.fdiv 9).fmod 7 - 3, (w.fdiv 63).fmod 7 - 3, hgh⟩ := ⟨by show Int.natAbs ((w.fdiv 9).fmod 7 - 3) ≤ 5; omega, by show Int.natAbs ((w.fdiv 63).fmod 7 - 3) ≤ 5; omega, hg1⟩
      cases hq : (((w.fdiv 9).fmod 7 - 3) == 0 && (((w.fdiv 63).fmod 7 - 3) == 0 && hgh == 0)) with
      | true =>
        exact ⟨_, by simp only [body1, run, exs, ex, evB, evM, evML, ev, evF, evA, evO, evT, evI, bndP, bndS, lift, liftS, own, callP, peekL, frzL, DY.peek, look, DY.get, DY.shl, DY.frz, nav, DY.put, blOf, intOf, lstOf, AV.erase, eraseL, binD, cmpD, bltD, isiD, asg, asgL, thin, thinD, thinL, ixP, Option.map_some, Option.map_none, Option.bind_some, Option.bind_none, List.map_cons, List.map_nil, List.length_cons, List.length_nil, List.replicate, List.cons_append, List.nil_append, List.append_nil, List.getElem?_cons_zero, List.getElem?_cons_succ, List.getElem?_nil, List.set_cons_zero, List.set_cons_succ, Nat.sub_self, Nat.reduceSub, Nat.reduceAdd, Bool.not_true, Bool.not_false, if_true, if_false, Bool.false_eq_true, eqD, eqDs, depth, depthL, Nat.zero_le, and_self, and_true, true_and, atZ_0, atZ_1, atZ_2, line_2, line_3, reduceCtorEq, Bool.and_true, Bool.true_and, Bool.and_false, Bool.false_and, Bool.or_true, Bool.or_false, Bool.true_or, Bool.false_or, List.all_cons, List.all_nil, line_1, Nat.reduceLeDiff, Nat.max_self, Nat.zero_max, Nat.max_zero, Int.reduceNe, Int.reduceEq, pz20, pz21, pz30, pz31, pz32, Cs_Fn (show i__law_wide < i__law_sun by decide), hw, v441, v9, v7, v63, v2205, hg2, hq, wrt, List.length_map, hbl]; rfl, b ++ [(hr, ⟨0, 0, 1⟩)], hr + 1 + (w.fdiv 2205).fmod 5, _, _, _, _, by simp [hb], sun_more hA ⟨h01, hlt⟩ h03 a0 (by simp), ⟨hn.1, hn.2, fun r hr' => (List.mem_append.mp hr').elim (hl2 r) (fun z => by rw [List.mem_singleton.mp z]; simp only; omega)⟩, by rw [List.map_append]; rfl⟩
      | false =>
        exact ⟨_, by simp only [body1, run, exs, ex, evB, evM, evML, ev, evF, evA, evO, evT, evI, bndP, bndS, lift, liftS, own, callP, peekL, frzL, DY.peek, look, DY.get, DY.shl, DY.frz, nav, DY.put, blOf, intOf, lstOf, AV.erase, eraseL, binD, cmpD, bltD, isiD, asg, asgL, thin, thinD, thinL, ixP, Option.map_some, Option.map_none, Option.bind_some, Option.bind_none, List.map_cons, List.map_nil, List.length_cons, List.length_nil, List.replicate, List.cons_append, List.nil_append, List.append_nil, List.getElem?_cons_zero, List.getElem?_cons_succ, List.getElem?_nil, List.set_cons_zero, List.set_cons_succ, Nat.sub_self, Nat.reduceSub, Nat.reduceAdd, Bool.not_true, Bool.not_false, if_true, if_false, Bool.false_eq_true, eqD, eqDs, depth, depthL, Nat.zero_le, and_self, and_true, true_and, atZ_0, atZ_1, atZ_2, line_2, line_3, reduceCtorEq, Bool.and_true, Bool.true_and, Bool.and_false, Bool.false_and, Bool.or_true, Bool.or_false, Bool.true_or, Bool.false_or, List.all_cons, List.all_nil, line_1, Nat.reduceLeDiff, Nat.max_self, Nat.zero_max, Nat.max_zero, Int.reduceNe, Int.reduceEq, pz20, pz21, pz30, pz31, pz32, Cs_Fn (show i__law_wide < i__law_sun by decide), hw, v441, v9, v7, v63, v2205, hg2, hq, wrt, List.length_map, hbl]; rfl, b ++ [(hr, ⟨(w.fdiv 9).fmod 7 - 3, (w.fdiv 63).fmod 7 - 3, hgh⟩)], hr + 1 + (w.fdiv 2205).fmod 5, _, _, _, _, by simp [hb], sun_more hA ⟨h01, hlt⟩ h03 a1 (by have hq' := hq; rw [show ((((w.fdiv 9).fmod 7 - 3) == 0 && (((w.fdiv 63).fmod 7 - 3) == 0 && hgh == 0))) = _ from eq0_T3 (a := ⟨(w.fdiv 9).fmod 7 - 3, (w.fdiv 63).fmod 7 - 3, hgh⟩)] at hq'; simpa using hq'), ⟨hn.1, hn.2, fun r hr' => (List.mem_append.mp hr').elim (hl2 r) (fun z => by rw [List.mem_singleton.mp z]; simp only; omega)⟩, by rw [List.map_append]; rfl⟩)
    (List.range m) 0 () [some (.fz (.scr ns)), some (.fz (.int m)), some (.ol []), some (.fz (.int (w1.fmod 24))), none, none, none, none] (by omega) (fun k hk => List.mem_range.mp hk) ⟨[], w1.fmod 24, none, none, none, none, rfl, sun_nil, ⟨f24.1, by omega, (fun r h => by cases h)⟩, rfl⟩
  refine ⟨b, by simpa using hb, hA, ?_⟩
  refine run_of (exs_step (ρ' := [some (.fz (.scr ns)), some (.fz (.int m)), some (.ol []), none, none, none, none, none]) (by simp only [d__law_sun, run, exs, ex, evB, evM, evML, ev, evF, evA, evO, evT, evI, bndP, bndS, lift, liftS, own, callP, peekL, frzL, DY.peek, look, DY.get, DY.shl, DY.frz, nav, DY.put, blOf, intOf, lstOf, AV.erase, eraseL, binD, cmpD, bltD, isiD, asg, asgL, thin, thinD, thinL, ixP, Option.map_some, Option.map_none, Option.bind_some, Option.bind_none, List.map_cons, List.map_nil, List.length_cons, List.length_nil, List.replicate, List.cons_append, List.nil_append, List.append_nil, List.getElem?_cons_zero, List.getElem?_cons_succ, List.getElem?_nil, List.set_cons_zero, List.set_cons_succ, Nat.sub_self, Nat.reduceSub, Nat.reduceAdd, Bool.not_true, Bool.not_false, if_true, if_false, Bool.false_eq_true, eqD, eqDs, depth, depthL, Nat.zero_le, and_self, and_true, true_and, atZ_0, atZ_1, atZ_2, line_2, line_3, reduceCtorEq, Bool.and_true, Bool.true_and, Bool.and_false, Bool.false_and, Bool.or_true, Bool.or_false, Bool.true_or, Bool.false_or, List.all_cons, List.all_nil, line_1, Nat.reduceLeDiff, Nat.max_self, Nat.zero_max, Nat.max_zero, Int.reduceNe, Int.reduceEq, pz20, pz21, pz30, pz31, pz32]) (exs_step (ρ' := [some (.fz (.scr ns)), some (.fz (.int m)), some (.ol []), some (.fz (.int (w1.fmod 24))), none, none, none, none]) (by simp only [run, exs, ex, evB, evM, evML, ev, evF, evA, evO, evT, evI, bndP, bndS, lift, liftS, own, callP, peekL, frzL, DY.peek, look, DY.get, DY.shl, DY.frz, nav, DY.put, blOf, intOf, lstOf, AV.erase, eraseL, binD, cmpD, bltD, isiD, asg, asgL, thin, thinD, thinL, ixP, Option.map_some, Option.map_none, Option.bind_some, Option.bind_none, List.map_cons, List.map_nil, List.length_cons, List.length_nil, List.replicate, List.cons_append, List.nil_append, List.append_nil, List.getElem?_cons_zero, List.getElem?_cons_succ, List.getElem?_nil, List.set_cons_zero, List.set_cons_succ, Nat.sub_self, Nat.reduceSub, Nat.reduceAdd, Bool.not_true, Bool.not_false, if_true, if_false, Bool.false_eq_true, eqD, eqDs, depth, depthL, Nat.zero_le, and_self, and_true, true_and, atZ_0, atZ_1, atZ_2, line_2, line_3, reduceCtorEq, Bool.and_true, Bool.true_and, Bool.and_false, Bool.false_and, Bool.or_true, Bool.or_false, Bool.true_or, Bool.false_or, List.all_cons, List.all_nil, line_1, Nat.reduceLeDiff, Nat.max_self, Nat.zero_max, Nat.max_zero, Int.reduceNe, Int.reduceEq, pz20, pz21, pz30, pz31, pz32, Cs_Fn (show i__law_wide < i__law_sun by decide), hw1]) (exs_step (ρ' := ρ') ?_ ?_)))
  · rw [ex_loop (ds := (List.range m).map fun k : Nat => D.int (0 + (k : Int))) (ρ1 := [some (.fz (.scr ns)), some (.fz (.int m)), some (.ol []), some (.fz (.int (w1.fmod 24))), none, none, none, none]) (by simp only [run, exs, ex, evB, evM, evML, ev, evF, evA, evO, evT, evI, bndP, bndS, lift, liftS, own, callP, peekL, frzL, DY.peek, look, DY.get, DY.shl, DY.frz, nav, DY.put, blOf, intOf, lstOf, AV.erase, eraseL, binD, cmpD, bltD, isiD, asg, asgL, thin, thinD, thinL, ixP, Option.map_some, Option.map_none, Option.bind_some, Option.bind_none, List.map_cons, List.map_nil, List.length_cons, List.length_nil, List.replicate, List.cons_append, List.nil_append, List.append_nil, List.getElem?_cons_zero, List.getElem?_cons_succ, List.getElem?_nil, List.set_cons_zero, List.set_cons_succ, Nat.sub_self, Nat.reduceSub, Nat.reduceAdd, Bool.not_true, Bool.not_false, if_true, if_false, Bool.false_eq_true, eqD, eqDs, depth, depthL, Nat.zero_le, and_self, and_true, true_and, atZ_0, atZ_1, atZ_2, line_2, line_3, reduceCtorEq, Bool.and_true, Bool.true_and, Bool.and_false, Bool.false_and, Bool.or_true, Bool.or_false, Bool.true_or, Bool.false_or, List.all_cons, List.all_nil, line_1, Nat.reduceLeDiff, Nat.max_self, Nat.zero_max, Nat.max_zero, Int.reduceNe, Int.reduceEq, pz20, pz21, pz30, pz31, pz32, s62, Int.toNat_natCast, rangeD])]
    exact e1
  · subst e2
    simp only [run, exs, ex, evB, evM, evML, ev, evF, evA, evO, evT, evI, bndP, bndS, lift, liftS, own, callP, peekL, frzL, DY.peek, look, DY.get, DY.shl, DY.frz, nav, DY.put, blOf, intOf, lstOf, AV.erase, eraseL, binD, cmpD, bltD, isiD, asg, asgL, thin, thinD, thinL, ixP, Option.map_some, Option.map_none, Option.bind_some, Option.bind_none, List.map_cons, List.map_nil, List.length_cons, List.length_nil, List.replicate, List.cons_append, List.nil_append, List.append_nil, List.getElem?_cons_zero, List.getElem?_cons_succ, List.getElem?_nil, List.set_cons_zero, List.set_cons_succ, Nat.sub_self, Nat.reduceSub, Nat.reduceAdd, Bool.not_true, Bool.not_false, if_true, if_false, Bool.false_eq_true, eqD, eqDs, depth, depthL, Nat.zero_le, and_self, and_true, true_and, atZ_0, atZ_1, atZ_2, line_2, line_3, reduceCtorEq, Bool.and_true, Bool.true_and, Bool.and_false, Bool.false_and, Bool.or_true, Bool.or_false, Bool.true_or, Bool.false_or, List.all_cons, List.all_nil, line_1, Nat.reduceLeDiff, Nat.max_self, Nat.zero_max, Nat.max_zero, Int.reduceNe, Int.reduceEq, pz20, pz21, pz30, pz31, pz32]
/-- the name of a number -/
def nmOf (ns : List Int) (k : Int) : List Nat := nameS ((wide ns 60).fmod 5) ((k + (wide ns 60).fdiv 20).fmod 26) (k.fdiv 26) (((wide ns 60).fdiv 4).fmod 3)
theorem F__law_name {ns : List Int} {k : Int} (hk : 0 ≤ k) (hk2 : k ≤ 600) : F i__law_name [.scr ns, .int k] = .ok (.fz (.str (nmOf ns k))) := by
  rw [show F i__law_name = _ from Fn_at (d := d__law_name) rfl]
  obtain ⟨hw0, _, hw⟩ := wide_of (ns := ns) (k := 60) (by decide) (by unfold Bt; decide)
  unfold nmOf nameS
  generalize wide ns 60 = w at *
  obtain ⟨v2, v3, v4, v7, v9, v20, v26, v30, v60, v63, v100, v120, v300, v441, v2000, v2205, v3600, v10000, v14400⟩ := dvs
  have f26 := fmod_bd (a := k + w.fdiv 20) (b := 26) (by decide)
  have q26 : 0 ≤ k.fdiv 26 ∧ k.fdiv 26 < 26 := by rw [Int.fdiv_eq_ediv_of_nonneg _ (by decide)]; omega
  have f5 := fmod_bd (a := w) (b := 5) (by decide)
  have f3 := fmod_bd (a := w.fdiv 4) (b := 3) (by decide)
  have hc1 : atZ [97, 98, 99, 100, 101, 102, 103, 104, 105, 106, 107, 108, 109, 110, 111, 112, 113, 114, 115, 116, 117, 118, 119, 120, 121, 122] _ = _ := ABC_at f26.1 f26.2
  have hc2 : atZ [97, 98, 99, 100, 101, 102, 103, 104, 105, 106, 107, 108, 109, 110, 111, 112, 113, 114, 115, 116, 117, 118, 119, 120, 121, 122] _ = _ := ABC_at q26.1 q26.2
  generalize hg1 : 97 + ((k + w.fdiv 20).fmod 26).toNat = c1 at *
  generalize hg2 : 97 + (k.fdiv 26).toNat = c2 at *
  have hl : ([97, 98, 99, 100, 101, 102, 103, 104, 105, 106, 107, 108, 109, 110, 111, 112, 113, 114, 115, 116, 117, 118, 119, 120, 121, 122] : List Nat).length ≤ line := by decide
  have g1 : (0 ≤ w.fmod 5 ∧ w.fmod 5 ≤ 1000 ∧ ([120] : List Nat).length ≤ 1000) := ⟨f5.1, by omega, by decide⟩
  have g2 : (0 ≤ (w.fdiv 4).fmod 3 ∧ (w.fdiv 4).fmod 3 ≤ 1000 ∧ ([113] : List Nat).length ≤ 1000) := ⟨f3.1, by omega, by decide⟩
  have hA : (List.replicate (w.fmod 5).toNat [120]).flatten.length ≤ 4 := by rw [len_flat1]; simp; omega
  have hB : (List.replicate ((w.fdiv 4).fmod 3).toNat [113]).flatten.length ≤ 2 := by rw [len_flat1]; simp; omega
  have x1 : ex (Cs G above Ds i__law_name) G above (.set (.nm 4) (.bin .add (.ix (.var 2) (.bin .mod (.bin .add (.var 1) (.bin .div (.var 3) (.int 20))) (.int 26))) (.ix (.var 2) (.bin .div (.var 1) (.int 26)))))
      [some (.fz (.scr ns)), some (.fz (.int k)), some (.fz (.str [97, 98, 99, 100, 101, 102, 103, 104, 105, 106, 107, 108, 109, 110, 111, 112, 113, 114, 115, 116, 117, 118, 119, 120, 121, 122])), some (.fz (.int w)), none] = .ok (.nx [some (.fz (.scr ns)), some (.fz (.int k)), some (.fz (.str [97, 98, 99, 100, 101, 102, 103, 104, 105, 106, 107, 108, 109, 110, 111, 112, 113, 114, 115, 116, 117, 118, 119, 120, 121, 122])), some (.fz (.int w)), some (.fz (.str [c1, c2]))]) := by
    generalize hLL : [97, 98, 99, 100, 101, 102, 103, 104, 105, 106, 107, 108, 109, 110, 111, 112, 113, 114, 115, 116, 117, 118, 119, 120, 121, 122] = LL at *
    simp only [run, exs, ex, evB, evM, evML, ev, evF, evA, evO, evT, evI, bndP, bndS, lift, liftS, own, callP, peekL, frzL, DY.peek, look, DY.get, DY.shl, DY.frz, nav, DY.put, blOf, intOf, lstOf, AV.erase, eraseL, binD, cmpD, bltD, isiD, asg, asgL, thin, thinD, thinL, ixP, Option.map_some, Option.map_none, Option.bind_some, Option.bind_none, List.map_cons, List.map_nil, List.length_cons, List.length_nil, List.replicate, List.cons_append, List.nil_append, List.append_nil, List.getElem?_cons_zero, List.getElem?_cons_succ, List.getElem?_nil, List.set_cons_zero, List.set_cons_succ, Nat.sub_self, Nat.reduceSub, Nat.reduceAdd, Bool.not_true, Bool.not_false, if_true, if_false, Bool.false_eq_true, eqD, eqDs, depth, depthL, Nat.zero_le, and_self, and_true, true_and, atZ_0, atZ_1, atZ_2, line_2, line_3, reduceCtorEq, Bool.and_true, Bool.true_and, Bool.and_false, Bool.false_and, Bool.or_true, Bool.or_false, Bool.true_or, Bool.false_or, List.all_cons, List.all_nil, line_1, Nat.reduceLeDiff, Nat.max_self, Nat.zero_max, Nat.max_zero, Int.reduceNe, Int.reduceEq, pz20, pz21, pz30, pz31, pz32, v20, v26, hc1, hc2, hl, line_2]

  refine run_of (exs_step (ρ' := [some (.fz (.scr ns)), some (.fz (.int k)), some (.fz (.str [97, 98, 99, 100, 101, 102, 103, 104, 105, 106, 107, 108, 109, 110, 111, 112, 113, 114, 115, 116, 117, 118, 119, 120, 121, 122])), none, none]) (by simp only [d__law_name, run, exs, ex, evB, evM, evML, ev, evF, evA, evO, evT, evI, bndP, bndS, lift, liftS, own, callP, peekL, frzL, DY.peek, look, DY.get, DY.shl, DY.frz, nav, DY.put, blOf, intOf, lstOf, AV.erase, eraseL, binD, cmpD, bltD, isiD, asg, asgL, thin, thinD, thinL, ixP, Option.map_some, Option.map_none, Option.bind_some, Option.bind_none, List.map_cons, List.map_nil, List.length_cons, List.length_nil, List.replicate, List.cons_append, List.nil_append, List.append_nil, List.getElem?_cons_zero, List.getElem?_cons_succ, List.getElem?_nil, List.set_cons_zero, List.set_cons_succ, Nat.sub_self, Nat.reduceSub, Nat.reduceAdd, Bool.not_true, Bool.not_false, if_true, if_false, Bool.false_eq_true, eqD, eqDs, depth, depthL, Nat.zero_le, and_self, and_true, true_and, atZ_0, atZ_1, atZ_2, line_2, line_3, reduceCtorEq, Bool.and_true, Bool.true_and, Bool.and_false, Bool.false_and, Bool.or_true, Bool.or_false, Bool.true_or, Bool.false_or, List.all_cons, List.all_nil, line_1, Nat.reduceLeDiff, Nat.max_self, Nat.zero_max, Nat.max_zero, Int.reduceNe, Int.reduceEq, pz20, pz21, pz30, pz31, pz32]) (exs_step (ρ' := [some (.fz (.scr ns)), some (.fz (.int k)), some (.fz (.str [97, 98, 99, 100, 101, 102, 103, 104, 105, 106, 107, 108, 109, 110, 111, 112, 113, 114, 115, 116, 117, 118, 119, 120, 121, 122])), some (.fz (.int w)), none]) (by simp only [run, exs, ex, evB, evM, evML, ev, evF, evA, evO, evT, evI, bndP, bndS, lift, liftS, own, callP, peekL, frzL, DY.peek, look, DY.get, DY.shl, DY.frz, nav, DY.put, blOf, intOf, lstOf, AV.erase, eraseL, binD, cmpD, bltD, isiD, asg, asgL, thin, thinD, thinL, ixP, Option.map_some, Option.map_none, Option.bind_some, Option.bind_none, List.map_cons, List.map_nil, List.length_cons, List.length_nil, List.replicate, List.cons_append, List.nil_append, List.append_nil, List.getElem?_cons_zero, List.getElem?_cons_succ, List.getElem?_nil, List.set_cons_zero, List.set_cons_succ, Nat.sub_self, Nat.reduceSub, Nat.reduceAdd, Bool.not_true, Bool.not_false, if_true, if_false, Bool.false_eq_true, eqD, eqDs, depth, depthL, Nat.zero_le, and_self, and_true, true_and, atZ_0, atZ_1, atZ_2, line_2, line_3, reduceCtorEq, Bool.and_true, Bool.true_and, Bool.and_false, Bool.false_and, Bool.or_true, Bool.or_false, Bool.true_or, Bool.false_or, List.all_cons, List.all_nil, line_1, Nat.reduceLeDiff, Nat.max_self, Nat.zero_max, Nat.max_zero, Int.reduceNe, Int.reduceEq, pz20, pz21, pz30, pz31, pz32, Cs_Fn (show i__law_wide < i__law_name by decide), hw]) (exs_step x1 (exs_ret ?_))))
  have u1 : (List.replicate (w.fmod 5).toNat [120]).flatten.length + ([c1, c2] : List Nat).length ≤ line := by unfold line; simp only [List.length_cons, List.length_nil]; omega
  have u2 : ((List.replicate (w.fmod 5).toNat [120]).flatten ++ [c1, c2]).length + (List.replicate ((w.fdiv 4).fmod 3).toNat [113]).flatten.length ≤ line := by unfold line; simp only [List.length_append, List.length_cons, List.length_nil]; omega
  simp only [List.length_append, List.length_cons, List.length_nil] at u1 u2 g1 g2
  generalize hA' : (List.replicate (w.fmod 5).toNat [120]).flatten = AA at *
  generalize hB' : (List.replicate ((w.fdiv 4).fmod 3).toNat [113]).flatten = BB at *
  generalize [97, 98, 99, 100, 101, 102, 103, 104, 105, 106, 107, 108, 109, 110, 111, 112, 113, 114, 115, 116, 117, 118, 119, 120, 121, 122] = LL at *
  simp only [run, exs, ex, evB, evM, evML, ev, evF, evA, evO, evT, evI, bndP, bndS, lift, liftS, own, callP, peekL, frzL, DY.peek, look, DY.get, DY.shl, DY.frz, nav, DY.put, blOf, intOf, lstOf, AV.erase, eraseL, binD, cmpD, bltD, isiD, asg, asgL, thin, thinD, thinL, ixP, Option.map_some, Option.map_none, Option.bind_some, Option.bind_none, List.map_cons, List.map_nil, List.length_cons, List.length_nil, List.replicate, List.cons_append, List.nil_append, List.append_nil, List.getElem?_cons_zero, List.getElem?_cons_succ, List.getElem?_nil, List.set_cons_zero, List.set_cons_succ, Nat.sub_self, Nat.reduceSub, Nat.reduceAdd, Bool.not_true, Bool.not_false, if_true, if_false, Bool.false_eq_true, eqD, eqDs, depth, depthL, Nat.zero_le, and_self, and_true, true_and, atZ_0, atZ_1, atZ_2, line_2, line_3, reduceCtorEq, Bool.and_true, Bool.true_and, Bool.and_false, Bool.false_and, Bool.or_true, Bool.or_false, Bool.true_or, Bool.false_or, List.all_cons, List.all_nil, line_1, Nat.reduceLeDiff, Nat.max_self, Nat.zero_max, Nat.max_zero, Int.reduceNe, Int.reduceEq, pz20, pz21, pz30, pz31, pz32, v4, g1, g2, hA', hB', u1, u2, List.length_append]
theorem sun_at {sun : List (Int × T3)} {i : Int} (h0 : 0 ≤ i) (h1 : i < sun.length) (hA : ∀ r ∈ sun, A3 5 r.2) : ∃ r : Int × T3, A3 5 r.2 ∧ atZ (sun.map rowD) i = some (rowD r) := by
  obtain ⟨x, hx, hm⟩ := atZ_in (xs := sun) h0 h1
  exact ⟨x, hA x hm, atZ_map h0 hx⟩
theorem F__law_dial {w : Int} {sun : List (Int × T3)} (hs : 0 < sun.length) (hA : ∀ r ∈ sun, A3 5 r.2) : ∃ (p : Pl) (tip pt : T3), DlOk p tip ∧ A3 26 pt ∧
    F i__law_dial [.int w, .lst (sun.map rowD)] = .ok (.fz (.tup [pl p, t3 tip, t3 pt])) := by
  rw [show F i__law_dial = _ from Fn_at (d := d__law_dial) rfl]
  obtain ⟨v2, v3, v4, v7, v9, v20, v26, v30, v60, v63, v100, v120, v300, v441, v2000, v2205, v3600, v10000, v14400⟩ := dvs
  have f4 := fmod_bd (a := w) (b := 4) (by decide)
  generalize hmany : 1 + w.fmod 4 = many at *
  generalize hn1 : w.fdiv 4 = n1 at *
  obtain ⟨one, two, ho, ht, hc0, hp⟩ := F__law_pair (w := n1.fdiv 2000) (m := 2) (by decide) (by decide)
  have hsl : (0 : Int) < (sun.length : Int) := by omega
  have fs := fmod_bd (a := n1) hsl
  obtain ⟨r, hr, hr2⟩ := sun_at fs.1 fs.2 hA
  have rc := F__law_cross (ho.b3 (n := 2) (by decide)) (ht.b3 (n := 2) (by decide)) (by decide)
  have rd := F__law_dot ((ho.b3 (n := 2) (by decide)).cross (ht.b3 (n := 2) (by decide))) (hr.b3 (n := 3) (by decide)) (by decide)
  have ho : A3 2 one := ho
  have ht : A3 2 two := ht
  generalize hah : (one.cross two).dot r.2 = ah at *
  have x1 : ∃ o1 t1 : T3, A3 2 o1 ∧ A3 2 t1 ∧ o1.cross t1 ≠ ⟨0, 0, 0⟩ ∧ (ah ≠ 0 → 0 < (o1.cross t1).dot r.2) ∧ ex (Cs G above Ds i__law_dial) G above (.ite (.cmp .lt (.var 6) (.int 0)) [.par 3 4 (.var 4) (.var 3)] []) [some (.fz (.int n1)), some (.fz (.lst (sun.map rowD))), some (.fz (.int many)), some (.fz (t3 one)), some (.fz (t3 two)), some (.fz (t3 r.2)), some (.fz (.int ah)), none, none, none, none, none] = .ok (.nx [some (.fz (.int n1)), some (.fz (.lst (sun.map rowD))), some (.fz (.int many)), some (.fz (t3 o1)), some (.fz (t3 t1)), some (.fz (t3 r.2)), some (.fz (.int ah)), none, none, none, none, none]) := by
    by_cases h : ah < 0
    · exact ⟨two, one, ht, ho, fun z => hc0 (cross_anti z), fun _ => by rw [cross_anti_dot]; omega, by simp only [run, exs, ex, evB, evM, evML, ev, evF, evA, evO, evT, evI, bndP, bndS, lift, liftS, own, callP, peekL, frzL, DY.peek, look, DY.get, DY.shl, DY.frz, nav, DY.put, blOf, intOf, lstOf, AV.erase, eraseL, binD, cmpD, bltD, isiD, asg, asgL, thin, thinD, thinL, ixP, Option.map_some, Option.map_none, Option.bind_some, Option.bind_none, List.map_cons, List.map_nil, List.length_cons, List.length_nil, List.replicate, List.cons_append, List.nil_append, List.append_nil, List.getElem?_cons_zero, List.getElem?_cons_succ, List.getElem?_nil, List.set_cons_zero, List.set_cons_succ, Nat.sub_self, Nat.reduceSub, Nat.reduceAdd, Bool.not_true, Bool.not_false, if_true, if_false, Bool.false_eq_true, eqD, eqDs, depth, depthL, Nat.zero_le, and_self, and_true, true_and, atZ_0, atZ_1, atZ_2, line_2, line_3, reduceCtorEq, Bool.and_true, Bool.true_and, Bool.and_false, Bool.false_and, Bool.or_true, Bool.or_false, Bool.true_or, Bool.false_or, List.all_cons, List.all_nil, line_1, Nat.reduceLeDiff, Nat.max_self, Nat.zero_max, Nat.max_zero, Int.reduceNe, Int.reduceEq, pz20, pz21, pz30, pz31, pz32, h, decide_true]⟩
    · exact ⟨one, two, ho, ht, hc0, fun _ => by omega, by simp only [run, exs, ex, evB, evM, evML, ev, evF, evA, evO, evT, evI, bndP, bndS, lift, liftS, own, callP, peekL, frzL, DY.peek, look, DY.get, DY.shl, DY.frz, nav, DY.put, blOf, intOf, lstOf, AV.erase, eraseL, binD, cmpD, bltD, isiD, asg, asgL, thin, thinD, thinL, ixP, Option.map_some, Option.map_none, Option.bind_some, Option.bind_none, List.map_cons, List.map_nil, List.length_cons, List.length_nil, List.replicate, List.cons_append, List.nil_append, List.append_nil, List.getElem?_cons_zero, List.getElem?_cons_succ, List.getElem?_nil, List.set_cons_zero, List.set_cons_succ, Nat.sub_self, Nat.reduceSub, Nat.reduceAdd, Bool.not_true, Bool.not_false, if_true, if_false, Bool.false_eq_true, eqD, eqDs, depth, depthL, Nat.zero_le, and_self, and_true, true_and, atZ_0, atZ_1, atZ_2, line_2, line_3, reduceCtorEq, Bool.and_true, Bool.true_and, Bool.and_false, Bool.false_and, Bool.or_true, Bool.or_false, Bool.true_or, Bool.false_or, List.all_cons, List.all_nil, line_1, Nat.reduceLeDiff, Nat.max_self, Nat.zero_max, Nat.max_zero, Int.reduceNe, Int.reduceEq, pz20, pz21, pz30, pz31, pz32, h, decide_false]⟩
  obtain ⟨o1, t1, ho1, ht1, hc1, hd1, x1⟩ := x1
  have rc1 := F__law_cross (ho1.b3 (n := 2) (by decide)) (ht1.b3 (n := 2) (by decide)) (by decide)
  have x2 : ∃ dr : T3, A3 8 dr ∧ 0 < (o1.cross t1).dot dr ∧ ex (Cs G above Ds i__law_dial) G above (.ite (.cmp .eq (.var 6) (.int 0)) [.set (.nm 5) (.call i__law_cross [(.var 3), (.var 4)])] []) [some (.fz (.int n1)), some (.fz (.lst (sun.map rowD))), some (.fz (.int many)), some (.fz (t3 o1)), some (.fz (t3 t1)), some (.fz (t3 r.2)), some (.fz (.int ah)), none, none, none, none, none] = .ok (.nx [some (.fz (.int n1)), some (.fz (.lst (sun.map rowD))), some (.fz (.int many)), some (.fz (t3 o1)), some (.fz (t3 t1)), some (.fz (t3 dr)), some (.fz (.int ah)), none, none, none, none, none]) := by
    cases h : ah == 0 with
    | true => exact ⟨o1.cross t1, (ho1.cross ht1).le (by decide), cross_pos hc1, by simp only [t3] at rc1; simp only [run, exs, ex, evB, evM, evML, ev, evF, evA, evO, evT, evI, bndP, bndS, lift, liftS, own, callP, peekL, frzL, DY.peek, look, DY.get, DY.shl, DY.frz, nav, DY.put, blOf, intOf, lstOf, AV.erase, eraseL, binD, cmpD, bltD, isiD, asg, asgL, thin, thinD, thinL, ixP, Option.map_some, Option.map_none, Option.bind_some, Option.bind_none, List.map_cons, List.map_nil, List.length_cons, List.length_nil, List.replicate, List.cons_append, List.nil_append, List.append_nil, List.getElem?_cons_zero, List.getElem?_cons_succ, List.getElem?_nil, List.set_cons_zero, List.set_cons_succ, Nat.sub_self, Nat.reduceSub, Nat.reduceAdd, Bool.not_true, Bool.not_false, if_true, if_false, Bool.false_eq_true, eqD, eqDs, depth, depthL, Nat.zero_le, and_self, and_true, true_and, atZ_0, atZ_1, atZ_2, line_2, line_3, reduceCtorEq, Bool.and_true, Bool.true_and, Bool.and_false, Bool.false_and, Bool.or_true, Bool.or_false, Bool.true_or, Bool.false_or, List.all_cons, List.all_nil, line_1, Nat.reduceLeDiff, Nat.max_self, Nat.zero_max, Nat.max_zero, Int.reduceNe, Int.reduceEq, pz20, pz21, pz30, pz31, pz32, h, Cs_Fn (show i__law_pair < i__law_dial by decide), Cs_Fn (show i__law_cross < i__law_dial by decide), Cs_Fn (show i__law_dot < i__law_dial by decide), Cs_Fn (show i__law_triple < i__law_dial by decide), Cs_Fn (show i__law_on < i__law_dial by decide), rc1, t3]⟩
    | false => exact ⟨r.2, hr.le (by decide), hd1 (by simpa using h), by simp only [run, exs, ex, evB, evM, evML, ev, evF, evA, evO, evT, evI, bndP, bndS, lift, liftS, own, callP, peekL, frzL, DY.peek, look, DY.get, DY.shl, DY.frz, nav, DY.put, blOf, intOf, lstOf, AV.erase, eraseL, binD, cmpD, bltD, isiD, asg, asgL, thin, thinD, thinL, ixP, Option.map_some, Option.map_none, Option.bind_some, Option.bind_none, List.map_cons, List.map_nil, List.length_cons, List.length_nil, List.replicate, List.cons_append, List.nil_append, List.append_nil, List.getElem?_cons_zero, List.getElem?_cons_succ, List.getElem?_nil, List.set_cons_zero, List.set_cons_succ, Nat.sub_self, Nat.reduceSub, Nat.reduceAdd, Bool.not_true, Bool.not_false, if_true, if_false, Bool.false_eq_true, eqD, eqDs, depth, depthL, Nat.zero_le, and_self, and_true, true_and, atZ_0, atZ_1, atZ_2, line_2, line_3, reduceCtorEq, Bool.and_true, Bool.true_and, Bool.and_false, Bool.false_and, Bool.or_true, Bool.or_false, Bool.true_or, Bool.false_or, List.all_cons, List.all_nil, line_1, Nat.reduceLeDiff, Nat.max_self, Nat.zero_max, Nat.max_zero, Int.reduceNe, Int.reduceEq, pz20, pz21, pz30, pz31, pz32, h]⟩
  obtain ⟨dr, hdr, hdd, x2⟩ := x2
  have p10 : powOk 10 10 := by decide
  have e10 : (10 : Int) ^ Int.toNat 10 = 10000000000 := by decide
  have dv10 : divOk 10000000000 := by decide
  have p13 : powOk 13 3 := by decide
  have e13 : (13 : Int) ^ Int.toNat 3 = 2197 := by decide
  have dv13 : divOk 2197 := by decide
  generalize hn2 : n1.fdiv 10000000000 = n2 at *
  obtain ⟨c, hc, rcr⟩ := F__law_triple (w := n2) (m := 6) (by decide) (by decide)
  generalize hn3 : n2.fdiv 2197 = n3 at *
  have hmb : 1 ≤ many ∧ many ≤ 4 := by omega
  have z1 : ¬ (many + 1 = 0) := by omega
  have z3 : ¬ (many + 3 = 0) := by omega
  have j4 : ∀ x : Int, (x.fmod 4).fdiv 3 = 0 ∨ (x.fmod 4).fdiv 3 = 1 := fun x => by
    have := fmod_bd (a := x) (b := 4) (by decide)
    rw [Int.fdiv_eq_ediv_of_nonneg _ (by decide)]; omega
  have m1 : ∀ x : Int, (x.fmod (many + 1)).natAbs ≤ 5 := fun x => by have := fmod_bd (a := x) (b := many + 1) (by omega); omega
  have m3 : ∀ x : Int, (x.fmod (many + 3) - 1).natAbs ≤ 5 := fun x => by have := fmod_bd (a := x) (b := many + 3) (by omega); omega
  obtain ⟨a, ha, ra⟩ := pick2 (j4 (n3.fdiv 30)) (m1 n3) (m3 n3)
  obtain ⟨b, hb, rb⟩ := pick2 (j4 (n3.fdiv 3600)) (m1 (n3.fdiv 120)) (m3 (n3.fdiv 120))
  have lo1 := F__law_on (hc.b3 (n := 3) (by decide)) (ho1.b3 (n := 2) (by decide)) (show Bt 3 a by unfold Bt; omega) (by decide)
  have A1 : A3 16 (c.on o1 a) := (hc.on ho1 ha).le (by decide)
  have lo2 := F__law_on (A1.b3 (n := 5) (by decide)) (ht1.b3 (n := 2) (by decide)) (show Bt 3 b by unfold Bt; omega) (by decide)
  have A2 : A3 26 ((c.on o1 a).on t1 b) := (A1.on ht1 hb).le (by decide)
  have k6 := fmod_bd (a := n3.fdiv 14400) (b := 6) (by decide)
  have hk6 : (1 + (n3.fdiv 14400).fmod 6).natAbs ≤ 6 := by omega
  have lo3 := F__law_on (A2.b3 (n := 5) (by decide)) (hdr.b3 (n := 4) (by decide)) (show Bt 3 (1 + (n3.fdiv 14400).fmod 6) by unfold Bt; omega) (by decide)
  have A4 : A3 74 (((c.on o1 a).on t1 b).on dr (1 + (n3.fdiv 14400).fmod 6)) := (A2.on hdr hk6).le (by decide)
  have z0 : A3 0 ⟨0, 0, 0⟩ := ⟨by decide, by decide, by decide⟩
  have bm : Bt 3 many := by unfold Bt; omega
  have lo4 := F__law_on (z0.b3 (n := 1) (by decide)) (ho1.b3 (n := 2) (by decide)) bm (by decide)
  have lo5 := F__law_on (z0.b3 (n := 1) (by decide)) (ht1.b3 (n := 2) (by decide)) bm (by decide)
  have A5 : A3 8 ((T3.mk 0 0 0).on o1 many) := (z0.on ho1 (show many.natAbs ≤ 4 by omega)).le (by decide)
  have A6 : A3 8 ((T3.mk 0 0 0).on t1 many) := (z0.on ht1 (show many.natAbs ≤ 4 by omega)).le (by decide)
  have hdl : divOk 2000 := by decide
  have hdp : ¬ ((sun.length : Int) = 0) := by omega
  refine ⟨⟨c, (T3.mk 0 0 0).on o1 many, (T3.mk 0 0 0).on t1 many⟩, ((c.on o1 a).on t1 b).on dr (1 + (n3.fdiv 14400).fmod 6), (c.on o1 a).on t1 b, ⟨hc, A5, A6, A4, by
      unfold Pl.front
      rw [dial_ahead]
      exact Int.mul_pos (Int.mul_pos (by omega) (by omega)) (Int.mul_pos (by omega) hdd), by
      unfold Pl.front
      rw [cross_scaled]
      exact scaled_ne hc1 (by omega)⟩, A2, ?_⟩
  refine run_of (exs_step (ρ' := [some (.fz (.int w)), some (.fz (.lst (sun.map rowD))), some (.fz (.int many)), none, none, none, none, none, none, none, none, none]) (by simp only [d__law_dial, run, exs, ex, evB, evM, evML, ev, evF, evA, evO, evT, evI, bndP, bndS, lift, liftS, own, callP, peekL, frzL, DY.peek, look, DY.get, DY.shl, DY.frz, nav, DY.put, blOf, intOf, lstOf, AV.erase, eraseL, binD, cmpD, bltD, isiD, asg, asgL, thin, thinD, thinL, ixP, Option.map_some, Option.map_none, Option.bind_some, Option.bind_none, List.map_cons, List.map_nil, List.length_cons, List.length_nil, List.replicate, List.cons_append, List.nil_append, List.append_nil, List.getElem?_cons_zero, List.getElem?_cons_succ, List.getElem?_nil, List.set_cons_zero, List.set_cons_succ, Nat.sub_self, Nat.reduceSub, Nat.reduceAdd, Bool.not_true, Bool.not_false, if_true, if_false, Bool.false_eq_true, eqD, eqDs, depth, depthL, Nat.zero_le, and_self, and_true, true_and, atZ_0, atZ_1, atZ_2, line_2, line_3, reduceCtorEq, Bool.and_true, Bool.true_and, Bool.and_false, Bool.false_and, Bool.or_true, Bool.or_false, Bool.true_or, Bool.false_or, List.all_cons, List.all_nil, line_1, Nat.reduceLeDiff, Nat.max_self, Nat.zero_max, Nat.max_zero, Int.reduceNe, Int.reduceEq, pz20, pz21, pz30, pz31, pz32, hmany]) ?_)
  refine exs_step (ρ' := [some (.fz (.int n1)), some (.fz (.lst (sun.map rowD))), some (.fz (.int many)), none, none, none, none, none, none, none, none, none]) (by simp only [run, exs, ex, evB, evM, evML, ev, evF, evA, evO, evT, evI, bndP, bndS, lift, liftS, own, callP, peekL, frzL, DY.peek, look, DY.get, DY.shl, DY.frz, nav, DY.put, blOf, intOf, lstOf, AV.erase, eraseL, binD, cmpD, bltD, isiD, asg, asgL, thin, thinD, thinL, ixP, Option.map_some, Option.map_none, Option.bind_some, Option.bind_none, List.map_cons, List.map_nil, List.length_cons, List.length_nil, List.replicate, List.cons_append, List.nil_append, List.append_nil, List.getElem?_cons_zero, List.getElem?_cons_succ, List.getElem?_nil, List.set_cons_zero, List.set_cons_succ, Nat.sub_self, Nat.reduceSub, Nat.reduceAdd, Bool.not_true, Bool.not_false, if_true, if_false, Bool.false_eq_true, eqD, eqDs, depth, depthL, Nat.zero_le, and_self, and_true, true_and, atZ_0, atZ_1, atZ_2, line_2, line_3, reduceCtorEq, Bool.and_true, Bool.true_and, Bool.and_false, Bool.false_and, Bool.or_true, Bool.or_false, Bool.true_or, Bool.false_or, List.all_cons, List.all_nil, line_1, Nat.reduceLeDiff, Nat.max_self, Nat.zero_max, Nat.max_zero, Int.reduceNe, Int.reduceEq, pz20, pz21, pz30, pz31, pz32, v4, hn1]) ?_
  refine exs_step (ρ' := [some (.fz (.int n1)), some (.fz (.lst (sun.map rowD))), some (.fz (.int many)), some (.fz (t3 one)), some (.fz (t3 two)), none, none, none, none, none, none, none]) (by simp only [run, exs, ex, evB, evM, evML, ev, evF, evA, evO, evT, evI, bndP, bndS, lift, liftS, own, callP, peekL, frzL, DY.peek, look, DY.get, DY.shl, DY.frz, nav, DY.put, blOf, intOf, lstOf, AV.erase, eraseL, binD, cmpD, bltD, isiD, asg, asgL, thin, thinD, thinL, ixP, Option.map_some, Option.map_none, Option.bind_some, Option.bind_none, List.map_cons, List.map_nil, List.length_cons, List.length_nil, List.replicate, List.cons_append, List.nil_append, List.append_nil, List.getElem?_cons_zero, List.getElem?_cons_succ, List.getElem?_nil, List.set_cons_zero, List.set_cons_succ, Nat.sub_self, Nat.reduceSub, Nat.reduceAdd, Bool.not_true, Bool.not_false, if_true, if_false, Bool.false_eq_true, eqD, eqDs, depth, depthL, Nat.zero_le, and_self, and_true, true_and, atZ_0, atZ_1, atZ_2, line_2, line_3, reduceCtorEq, Bool.and_true, Bool.true_and, Bool.and_false, Bool.false_and, Bool.or_true, Bool.or_false, Bool.true_or, Bool.false_or, List.all_cons, List.all_nil, line_1, Nat.reduceLeDiff, Nat.max_self, Nat.zero_max, Nat.max_zero, Int.reduceNe, Int.reduceEq, pz20, pz21, pz30, pz31, pz32, v2000, Cs_Fn (show i__law_pair < i__law_dial by decide), Cs_Fn (show i__law_cross < i__law_dial by decide), Cs_Fn (show i__law_dot < i__law_dial by decide), Cs_Fn (show i__law_triple < i__law_dial by decide), Cs_Fn (show i__law_on < i__law_dial by decide), hp, thin_t3]) ?_
  refine exs_step (ρ' := [some (.fz (.int n1)), some (.fz (.lst (sun.map rowD))), some (.fz (.int many)), some (.fz (t3 one)), some (.fz (t3 two)), some (.fz (t3 r.2)), none, none, none, none, none, none]) (by simp only [run, exs, ex, evB, evM, evML, ev, evF, evA, evO, evT, evI, bndP, bndS, lift, liftS, own, callP, peekL, frzL, DY.peek, look, DY.get, DY.shl, DY.frz, nav, DY.put, blOf, intOf, lstOf, AV.erase, eraseL, binD, cmpD, bltD, isiD, asg, asgL, thin, thinD, thinL, ixP, Option.map_some, Option.map_none, Option.bind_some, Option.bind_none, List.map_cons, List.map_nil, List.length_cons, List.length_nil, List.replicate, List.cons_append, List.nil_append, List.append_nil, List.getElem?_cons_zero, List.getElem?_cons_succ, List.getElem?_nil, List.set_cons_zero, List.set_cons_succ, Nat.sub_self, Nat.reduceSub, Nat.reduceAdd, Bool.not_true, Bool.not_false, if_true, if_false, Bool.false_eq_true, eqD, eqDs, depth, depthL, Nat.zero_le, and_self, and_true, true_and, atZ_0, atZ_1, atZ_2, line_2, line_3, reduceCtorEq, Bool.and_true, Bool.true_and, Bool.and_false, Bool.false_and, Bool.or_true, Bool.or_false, Bool.true_or, Bool.false_or, List.all_cons, List.all_nil, line_1, Nat.reduceLeDiff, Nat.max_self, Nat.zero_max, Nat.max_zero, Int.reduceNe, Int.reduceEq, pz20, pz21, pz30, pz31, pz32, List.length_map, hdp, ne_eq, not_false_eq_true, hr2, rowD]) ?_
  refine exs_step (ρ' := [some (.fz (.int n1)), some (.fz (.lst (sun.map rowD))), some (.fz (.int many)), some (.fz (t3 one)), some (.fz (t3 two)), some (.fz (t3 r.2)), some (.fz (.int ah)), none, none, none, none, none]) (by simp only [t3] at rc rd; simp only [t3, run, exs, ex, evB, evM, evML, ev, evF, evA, evO, evT, evI, bndP, bndS, lift, liftS, own, callP, peekL, frzL, DY.peek, look, DY.get, DY.shl, DY.frz, nav, DY.put, blOf, intOf, lstOf, AV.erase, eraseL, binD, cmpD, bltD, isiD, asg, asgL, thin, thinD, thinL, ixP, Option.map_some, Option.map_none, Option.bind_some, Option.bind_none, List.map_cons, List.map_nil, List.length_cons, List.length_nil, List.replicate, List.cons_append, List.nil_append, List.append_nil, List.getElem?_cons_zero, List.getElem?_cons_succ, List.getElem?_nil, List.set_cons_zero, List.set_cons_succ, Nat.sub_self, Nat.reduceSub, Nat.reduceAdd, Bool.not_true, Bool.not_false, if_true, if_false, Bool.false_eq_true, eqD, eqDs, depth, depthL, Nat.zero_le, and_self, and_true, true_and, atZ_0, atZ_1, atZ_2, line_2, line_3, reduceCtorEq, Bool.and_true, Bool.true_and, Bool.and_false, Bool.false_and, Bool.or_true, Bool.or_false, Bool.true_or, Bool.false_or, List.all_cons, List.all_nil, line_1, Nat.reduceLeDiff, Nat.max_self, Nat.zero_max, Nat.max_zero, Int.reduceNe, Int.reduceEq, pz20, pz21, pz30, pz31, pz32, Cs_Fn (show i__law_pair < i__law_dial by decide), Cs_Fn (show i__law_cross < i__law_dial by decide), Cs_Fn (show i__law_dot < i__law_dial by decide), Cs_Fn (show i__law_triple < i__law_dial by decide), Cs_Fn (show i__law_on < i__law_dial by decide), rc, rd]) ?_
  refine exs_step x1 (exs_step x2 ?_)
  refine exs_step (ρ' := [some (.fz (.int n2)), some (.fz (.lst (sun.map rowD))), some (.fz (.int many)), some (.fz (t3 o1)), some (.fz (t3 t1)), some (.fz (t3 dr)), some (.fz (.int ah)), none, none, none, none, none]) (by simp only [run, exs, ex, evB, evM, evML, ev, evF, evA, evO, evT, evI, bndP, bndS, lift, liftS, own, callP, peekL, frzL, DY.peek, look, DY.get, DY.shl, DY.frz, nav, DY.put, blOf, intOf, lstOf, AV.erase, eraseL, binD, cmpD, bltD, isiD, asg, asgL, thin, thinD, thinL, ixP, Option.map_some, Option.map_none, Option.bind_some, Option.bind_none, List.map_cons, List.map_nil, List.length_cons, List.length_nil, List.replicate, List.cons_append, List.nil_append, List.append_nil, List.getElem?_cons_zero, List.getElem?_cons_succ, List.getElem?_nil, List.set_cons_zero, List.set_cons_succ, Nat.sub_self, Nat.reduceSub, Nat.reduceAdd, Bool.not_true, Bool.not_false, if_true, if_false, Bool.false_eq_true, eqD, eqDs, depth, depthL, Nat.zero_le, and_self, and_true, true_and, atZ_0, atZ_1, atZ_2, line_2, line_3, reduceCtorEq, Bool.and_true, Bool.true_and, Bool.and_false, Bool.false_and, Bool.or_true, Bool.or_false, Bool.true_or, Bool.false_or, List.all_cons, List.all_nil, line_1, Nat.reduceLeDiff, Nat.max_self, Nat.zero_max, Nat.max_zero, Int.reduceNe, Int.reduceEq, pz20, pz21, pz30, pz31, pz32, p10, e10, dv10, hn2]) ?_
  refine exs_step (ρ' := [some (.fz (.int n2)), some (.fz (.lst (sun.map rowD))), some (.fz (.int many)), some (.fz (t3 o1)), some (.fz (t3 t1)), some (.fz (t3 dr)), some (.fz (.int ah)), some (.fz (t3 c)), none, none, none, none]) (by simp only [t3] at rcr; simp only [t3, run, exs, ex, evB, evM, evML, ev, evF, evA, evO, evT, evI, bndP, bndS, lift, liftS, own, callP, peekL, frzL, DY.peek, look, DY.get, DY.shl, DY.frz, nav, DY.put, blOf, intOf, lstOf, AV.erase, eraseL, binD, cmpD, bltD, isiD, asg, asgL, thin, thinD, thinL, ixP, Option.map_some, Option.map_none, Option.bind_some, Option.bind_none, List.map_cons, List.map_nil, List.length_cons, List.length_nil, List.replicate, List.cons_append, List.nil_append, List.append_nil, List.getElem?_cons_zero, List.getElem?_cons_succ, List.getElem?_nil, List.set_cons_zero, List.set_cons_succ, Nat.sub_self, Nat.reduceSub, Nat.reduceAdd, Bool.not_true, Bool.not_false, if_true, if_false, Bool.false_eq_true, eqD, eqDs, depth, depthL, Nat.zero_le, and_self, and_true, true_and, atZ_0, atZ_1, atZ_2, line_2, line_3, reduceCtorEq, Bool.and_true, Bool.true_and, Bool.and_false, Bool.false_and, Bool.or_true, Bool.or_false, Bool.true_or, Bool.false_or, List.all_cons, List.all_nil, line_1, Nat.reduceLeDiff, Nat.max_self, Nat.zero_max, Nat.max_zero, Int.reduceNe, Int.reduceEq, pz20, pz21, pz30, pz31, pz32, Cs_Fn (show i__law_pair < i__law_dial by decide), Cs_Fn (show i__law_cross < i__law_dial by decide), Cs_Fn (show i__law_dot < i__law_dial by decide), Cs_Fn (show i__law_triple < i__law_dial by decide), Cs_Fn (show i__law_on < i__law_dial by decide), rcr]) ?_
  refine exs_step (ρ' := [some (.fz (.int n3)), some (.fz (.lst (sun.map rowD))), some (.fz (.int many)), some (.fz (t3 o1)), some (.fz (t3 t1)), some (.fz (t3 dr)), some (.fz (.int ah)), some (.fz (t3 c)), none, none, none, none]) (by simp only [run, exs, ex, evB, evM, evML, ev, evF, evA, evO, evT, evI, bndP, bndS, lift, liftS, own, callP, peekL, frzL, DY.peek, look, DY.get, DY.shl, DY.frz, nav, DY.put, blOf, intOf, lstOf, AV.erase, eraseL, binD, cmpD, bltD, isiD, asg, asgL, thin, thinD, thinL, ixP, Option.map_some, Option.map_none, Option.bind_some, Option.bind_none, List.map_cons, List.map_nil, List.length_cons, List.length_nil, List.replicate, List.cons_append, List.nil_append, List.append_nil, List.getElem?_cons_zero, List.getElem?_cons_succ, List.getElem?_nil, List.set_cons_zero, List.set_cons_succ, Nat.sub_self, Nat.reduceSub, Nat.reduceAdd, Bool.not_true, Bool.not_false, if_true, if_false, Bool.false_eq_true, eqD, eqDs, depth, depthL, Nat.zero_le, and_self, and_true, true_and, atZ_0, atZ_1, atZ_2, line_2, line_3, reduceCtorEq, Bool.and_true, Bool.true_and, Bool.and_false, Bool.false_and, Bool.or_true, Bool.or_false, Bool.true_or, Bool.false_or, List.all_cons, List.all_nil, line_1, Nat.reduceLeDiff, Nat.max_self, Nat.zero_max, Nat.max_zero, Int.reduceNe, Int.reduceEq, pz20, pz21, pz30, pz31, pz32, p13, e13, dv13, hn3]) ?_
  refine exs_step (ρ' := [some (.fz (.int n3)), some (.fz (.lst (sun.map rowD))), some (.fz (.int many)), some (.fz (t3 o1)), some (.fz (t3 t1)), some (.fz (t3 dr)), some (.fz (.int ah)), some (.fz (t3 c)), some (.fz (.int a)), none, none, none]) (by simp only [run, exs, ex, evB, evM, evML, ev, evF, evA, evO, evT, evI, bndP, bndS, lift, liftS, own, callP, peekL, frzL, DY.peek, look, DY.get, DY.shl, DY.frz, nav, DY.put, blOf, intOf, lstOf, AV.erase, eraseL, binD, cmpD, bltD, isiD, asg, asgL, thin, thinD, thinL, ixP, Option.map_some, Option.map_none, Option.bind_some, Option.bind_none, List.map_cons, List.map_nil, List.length_cons, List.length_nil, List.replicate, List.cons_append, List.nil_append, List.append_nil, List.getElem?_cons_zero, List.getElem?_cons_succ, List.getElem?_nil, List.set_cons_zero, List.set_cons_succ, Nat.sub_self, Nat.reduceSub, Nat.reduceAdd, Bool.not_true, Bool.not_false, if_true, if_false, Bool.false_eq_true, eqD, eqDs, depth, depthL, Nat.zero_le, and_self, and_true, true_and, atZ_0, atZ_1, atZ_2, line_2, line_3, reduceCtorEq, Bool.and_true, Bool.true_and, Bool.and_false, Bool.false_and, Bool.or_true, Bool.or_false, Bool.true_or, Bool.false_or, List.all_cons, List.all_nil, line_1, Nat.reduceLeDiff, Nat.max_self, Nat.zero_max, Nat.max_zero, Int.reduceNe, Int.reduceEq, pz20, pz21, pz30, pz31, pz32, v30, v3, z1, z3, ne_eq, not_false_eq_true, ra]) ?_
  refine exs_step (ρ' := [some (.fz (.int n3)), some (.fz (.lst (sun.map rowD))), some (.fz (.int many)), some (.fz (t3 o1)), some (.fz (t3 t1)), some (.fz (t3 dr)), some (.fz (.int ah)), some (.fz (t3 c)), some (.fz (.int a)), some (.fz (.int b)), none, none]) (by simp only [run, exs, ex, evB, evM, evML, ev, evF, evA, evO, evT, evI, bndP, bndS, lift, liftS, own, callP, peekL, frzL, DY.peek, look, DY.get, DY.shl, DY.frz, nav, DY.put, blOf, intOf, lstOf, AV.erase, eraseL, binD, cmpD, bltD, isiD, asg, asgL, thin, thinD, thinL, ixP, Option.map_some, Option.map_none, Option.bind_some, Option.bind_none, List.map_cons, List.map_nil, List.length_cons, List.length_nil, List.replicate, List.cons_append, List.nil_append, List.append_nil, List.getElem?_cons_zero, List.getElem?_cons_succ, List.getElem?_nil, List.set_cons_zero, List.set_cons_succ, Nat.sub_self, Nat.reduceSub, Nat.reduceAdd, Bool.not_true, Bool.not_false, if_true, if_false, Bool.false_eq_true, eqD, eqDs, depth, depthL, Nat.zero_le, and_self, and_true, true_and, atZ_0, atZ_1, atZ_2, line_2, line_3, reduceCtorEq, Bool.and_true, Bool.true_and, Bool.and_false, Bool.false_and, Bool.or_true, Bool.or_false, Bool.true_or, Bool.false_or, List.all_cons, List.all_nil, line_1, Nat.reduceLeDiff, Nat.max_self, Nat.zero_max, Nat.max_zero, Int.reduceNe, Int.reduceEq, pz20, pz21, pz30, pz31, pz32, v120, v3600, v3, z1, z3, ne_eq, not_false_eq_true, rb]) ?_
  refine exs_step (ρ' := [some (.fz (.int n3)), some (.fz (.lst (sun.map rowD))), some (.fz (.int many)), some (.fz (t3 o1)), some (.fz (t3 t1)), some (.fz (t3 dr)), some (.fz (.int ah)), some (.fz (t3 c)), some (.fz (.int a)), some (.fz (.int b)), some (.fz (t3 ((c.on o1 a).on t1 b))), none]) (by simp only [t3] at lo1 lo2; simp only [t3, run, exs, ex, evB, evM, evML, ev, evF, evA, evO, evT, evI, bndP, bndS, lift, liftS, own, callP, peekL, frzL, DY.peek, look, DY.get, DY.shl, DY.frz, nav, DY.put, blOf, intOf, lstOf, AV.erase, eraseL, binD, cmpD, bltD, isiD, asg, asgL, thin, thinD, thinL, ixP, Option.map_some, Option.map_none, Option.bind_some, Option.bind_none, List.map_cons, List.map_nil, List.length_cons, List.length_nil, List.replicate, List.cons_append, List.nil_append, List.append_nil, List.getElem?_cons_zero, List.getElem?_cons_succ, List.getElem?_nil, List.set_cons_zero, List.set_cons_succ, Nat.sub_self, Nat.reduceSub, Nat.reduceAdd, Bool.not_true, Bool.not_false, if_true, if_false, Bool.false_eq_true, eqD, eqDs, depth, depthL, Nat.zero_le, and_self, and_true, true_and, atZ_0, atZ_1, atZ_2, line_2, line_3, reduceCtorEq, Bool.and_true, Bool.true_and, Bool.and_false, Bool.false_and, Bool.or_true, Bool.or_false, Bool.true_or, Bool.false_or, List.all_cons, List.all_nil, line_1, Nat.reduceLeDiff, Nat.max_self, Nat.zero_max, Nat.max_zero, Int.reduceNe, Int.reduceEq, pz20, pz21, pz30, pz31, pz32, Cs_Fn (show i__law_pair < i__law_dial by decide), Cs_Fn (show i__law_cross < i__law_dial by decide), Cs_Fn (show i__law_dot < i__law_dial by decide), Cs_Fn (show i__law_triple < i__law_dial by decide), Cs_Fn (show i__law_on < i__law_dial by decide), lo1, lo2]) ?_
  refine exs_step (ρ' := [some (.fz (.int n3)), some (.fz (.lst (sun.map rowD))), some (.fz (.int many)), some (.fz (t3 o1)), some (.fz (t3 t1)), some (.fz (t3 dr)), some (.fz (.int ah)), some (.fz (t3 c)), some (.fz (.int a)), some (.fz (.int b)), some (.fz (t3 ((c.on o1 a).on t1 b))), some (.fz (t3 (((c.on o1 a).on t1 b).on dr (1 + (n3.fdiv 14400).fmod 6))))]) (by simp only [t3] at lo3; simp only [t3, run, exs, ex, evB, evM, evML, ev, evF, evA, evO, evT, evI, bndP, bndS, lift, liftS, own, callP, peekL, frzL, DY.peek, look, DY.get, DY.shl, DY.frz, nav, DY.put, blOf, intOf, lstOf, AV.erase, eraseL, binD, cmpD, bltD, isiD, asg, asgL, thin, thinD, thinL, ixP, Option.map_some, Option.map_none, Option.bind_some, Option.bind_none, List.map_cons, List.map_nil, List.length_cons, List.length_nil, List.replicate, List.cons_append, List.nil_append, List.append_nil, List.getElem?_cons_zero, List.getElem?_cons_succ, List.getElem?_nil, List.set_cons_zero, List.set_cons_succ, Nat.sub_self, Nat.reduceSub, Nat.reduceAdd, Bool.not_true, Bool.not_false, if_true, if_false, Bool.false_eq_true, eqD, eqDs, depth, depthL, Nat.zero_le, and_self, and_true, true_and, atZ_0, atZ_1, atZ_2, line_2, line_3, reduceCtorEq, Bool.and_true, Bool.true_and, Bool.and_false, Bool.false_and, Bool.or_true, Bool.or_false, Bool.true_or, Bool.false_or, List.all_cons, List.all_nil, line_1, Nat.reduceLeDiff, Nat.max_self, Nat.zero_max, Nat.max_zero, Int.reduceNe, Int.reduceEq, pz20, pz21, pz30, pz31, pz32, Cs_Fn (show i__law_pair < i__law_dial by decide), Cs_Fn (show i__law_cross < i__law_dial by decide), Cs_Fn (show i__law_dot < i__law_dial by decide), Cs_Fn (show i__law_triple < i__law_dial by decide), Cs_Fn (show i__law_on < i__law_dial by decide), v14400, lo3]) ?_
  refine exs_ret ?_
  simp only [t3] at lo4 lo5
  simp only [t3, pl, run, exs, ex, evB, evM, evML, ev, evF, evA, evO, evT, evI, bndP, bndS, lift, liftS, own, callP, peekL, frzL, DY.peek, look, DY.get, DY.shl, DY.frz, nav, DY.put, blOf, intOf, lstOf, AV.erase, eraseL, binD, cmpD, bltD, isiD, asg, asgL, thin, thinD, thinL, ixP, Option.map_some, Option.map_none, Option.bind_some, Option.bind_none, List.map_cons, List.map_nil, List.length_cons, List.length_nil, List.replicate, List.cons_append, List.nil_append, List.append_nil, List.getElem?_cons_zero, List.getElem?_cons_succ, List.getElem?_nil, List.set_cons_zero, List.set_cons_succ, Nat.sub_self, Nat.reduceSub, Nat.reduceAdd, Bool.not_true, Bool.not_false, if_true, if_false, Bool.false_eq_true, eqD, eqDs, depth, depthL, Nat.zero_le, and_self, and_true, true_and, atZ_0, atZ_1, atZ_2, line_2, line_3, reduceCtorEq, Bool.and_true, Bool.true_and, Bool.and_false, Bool.false_and, Bool.or_true, Bool.or_false, Bool.true_or, Bool.false_or, List.all_cons, List.all_nil, line_1, Nat.reduceLeDiff, Nat.max_self, Nat.zero_max, Nat.max_zero, Int.reduceNe, Int.reduceEq, pz20, pz21, pz30, pz31, pz32, Cs_Fn (show i__law_pair < i__law_dial by decide), Cs_Fn (show i__law_cross < i__law_dial by decide), Cs_Fn (show i__law_dot < i__law_dial by decide), Cs_Fn (show i__law_triple < i__law_dial by decide), Cs_Fn (show i__law_on < i__law_dial by decide), lo4, lo5]
theorem F__law_fence {w : Int} {sun : List (Int × T3)} {dials : List (Pl × T3 × T3)} (hs : 0 < sun.length) (hA : ∀ r ∈ sun, A3 5 r.2) (hD : ∀ x ∈ dials, A3 26 x.2.2) : ∃ p : Pl, WlOk p ∧
    F i__law_fence [.int w, .lst (sun.map rowD), .lst (dials.map dlD)] = .ok (.fz (pl p)) := by
  rw [show F i__law_fence = _ from Fn_at (d := d__law_fence) rfl]
  obtain ⟨v2, v3, v4, v7, v9, v20, v26, v30, v60, v63, v100, v120, v300, v441, v2000, v2205, v3600, v10000, v14400⟩ := dvs
  have x1 : ∃ pt : T3, A3 26 pt ∧ ex (Cs G above Ds i__law_fence) G above (.ite (.cmp .ne (.var 2) (.lst [])) [.set (.nm 3) (.ix (.ix (.var 2) (.bin .mod (.var 0) (.blt .len [(.var 2)]))) (.int 2))] []) [some (.fz (.int w)), some (.fz (.lst (sun.map rowD))), some (.fz (.lst (dials.map dlD))), some (.fz (t3 (⟨0, 0, 1⟩))), none, none, none, none, none, none, none, none] = .ok (.nx [some (.fz (.int w)), some (.fz (.lst (sun.map rowD))), some (.fz (.lst (dials.map dlD))), some (.fz (t3 pt)), none, none, none, none, none, none, none, none]) := by
    cases dials with
    | nil => exact ⟨⟨0, 0, 1⟩, ⟨by decide, by decide, by decide⟩, by simp only [run, exs, ex, evB, evM, evML, ev, evF, evA, evO, evT, evI, bndP, bndS, lift, liftS, own, callP, peekL, frzL, DY.peek, look, DY.get, DY.shl, DY.frz, nav, DY.put, blOf, intOf, lstOf, AV.erase, eraseL, binD, cmpD, bltD, isiD, asg, asgL, thin, thinD, thinL, ixP, Option.map_some, Option.map_none, Option.bind_some, Option.bind_none, List.map_cons, List.map_nil, List.length_cons, List.length_nil, List.replicate, List.cons_append, List.nil_append, List.append_nil, List.getElem?_cons_zero, List.getElem?_cons_succ, List.getElem?_nil, List.set_cons_zero, List.set_cons_succ, Nat.sub_self, Nat.reduceSub, Nat.reduceAdd, Bool.not_true, Bool.not_false, if_true, if_false, Bool.false_eq_true, eqD, eqDs, depth, depthL, Nat.zero_le, and_self, and_true, true_and, atZ_0, atZ_1, atZ_2, line_2, line_3, reduceCtorEq, Bool.and_true, Bool.true_and, Bool.and_false, Bool.false_and, Bool.or_true, Bool.or_false, Bool.true_or, Bool.false_or, List.all_cons, List.all_nil, line_1, Nat.reduceLeDiff, Nat.max_self, Nat.zero_max, Nat.max_zero, Int.reduceNe, Int.reduceEq, pz20, pz21, pz30, pz31, pz32]⟩
    | cons x xs =>
      have hl : (0 : Int) < ((x :: xs).length : Int) := by rw [List.length_cons]; omega
      have fs := fmod_bd (a := w) hl
      obtain ⟨y, hy, hm⟩ := atZ_in (xs := x :: xs) fs.1 fs.2
      have hy2 : atZ ((x :: xs).map dlD) (w.fmod (x :: xs).length) = some (dlD y) := by
        unfold atZ at hy ⊢
        rw [if_pos fs.1] at hy ⊢
        rw [List.getElem?_map, hy]; rfl
      have hd := depth_dl (x :: xs)
      have hd2 : depthL ((x :: xs).map dlD) ≤ 63 := by omega
      have he : eqDs ((x :: xs).map dlD) [] = false := rfl
      have hdp : ¬ (((x :: xs).length : Int) = 0) := by omega
      have h1 : depthL ((x :: xs).map dlD) + 1 ≤ 64 ∧ 0 + 1 ≤ 64 := ⟨by omega, by decide⟩
      refine ⟨y.2.2, hD y hm, ?_⟩
      generalize hz : x :: xs = zs at *
      simp only [run, exs, ex, evB, evM, evML, ev, evF, evA, evO, evT, evI, bndP, bndS, lift, liftS, own, callP, peekL, frzL, DY.peek, look, DY.get, DY.shl, DY.frz, nav, DY.put, blOf, intOf, lstOf, AV.erase, eraseL, binD, cmpD, bltD, isiD, asg, asgL, thin, thinD, thinL, ixP, Option.map_some, Option.map_none, Option.bind_some, Option.bind_none, List.map_cons, List.map_nil, List.length_cons, List.length_nil, List.replicate, List.cons_append, List.nil_append, List.append_nil, List.getElem?_cons_zero, List.getElem?_cons_succ, List.getElem?_nil, List.set_cons_zero, List.set_cons_succ, Nat.sub_self, Nat.reduceSub, Nat.reduceAdd, Bool.not_true, Bool.not_false, if_true, if_false, Bool.false_eq_true, eqD, eqDs, depth, depthL, Nat.zero_le, and_self, and_true, true_and, atZ_0, atZ_1, atZ_2, line_2, line_3, reduceCtorEq, Bool.and_true, Bool.true_and, Bool.and_false, Bool.false_and, Bool.or_true, Bool.or_false, Bool.true_or, Bool.false_or, List.all_cons, List.all_nil, line_1, Nat.reduceLeDiff, Nat.max_self, Nat.zero_max, Nat.max_zero, Int.reduceNe, Int.reduceEq, pz20, pz21, pz30, pz31, pz32, he, h1, hy2, hdp, List.length_map, ne_eq, not_false_eq_true, dlD]
  obtain ⟨pt, hpt, x1⟩ := x1
  have hsl : (0 : Int) < (sun.length : Int) := by omega
  have fs := fmod_bd (a := w.fdiv 60) hsl
  obtain ⟨r, hr, hr2⟩ := sun_at fs.1 fs.2 hA
  have hdp : ¬ ((sun.length : Int) = 0) := by omega
  generalize hn1 : w.fdiv 3600 = n1 at *
  have f3 := fmod_bd (a := n1) (b := 3) (by decide)
  generalize hmany : 1 + n1.fmod 3 = many at *
  have hmb : 1 ≤ many ∧ many ≤ 3 := by omega
  obtain ⟨one, two, ho, ht, hc0, hp⟩ := F__law_pair (w := n1.fdiv 3) (m := 2) (by decide) (by decide)
  have ho : A3 2 one := ho
  have ht : A3 2 two := ht
  have p6 : powOk 10 6 := by decide
  have e6 : (10 : Int) ^ Int.toNat 6 = 1000000 := by decide
  have d6 : divOk 1000000 := by decide
  generalize hn2 : n1.fdiv 1000000 = n2 at *
  have f9 := fmod_bd (a := n2) (b := 9) (by decide)
  have z2 : ¬ (many + 2 = 0) := by omega
  have q : ∀ x : Int, (0 - (x.fmod (many + 2) - 1)).natAbs ≤ 4 := fun x => by have := fmod_bd (a := x) (b := many + 2) (by omega); omega
  have lo1 := F__law_on (hpt.b3 (n := 5) (by decide)) (hr.b3 (n := 3) (by decide)) (show Bt 4 (n2.fmod 9 - 1) by unfold Bt; omega) (by decide)
  have A1 : A3 61 (pt.on r.2 (n2.fmod 9 - 1)) := (hpt.on hr (show (n2.fmod 9 - 1).natAbs ≤ 7 by omega)).le (by decide)
  have qi := q (n2.fdiv 9)
  have qj := q (n2.fdiv 60)
  generalize hi : (n2.fdiv 9).fmod (many + 2) - 1 = i at *
  generalize hj : (n2.fdiv 60).fmod (many + 2) - 1 = j at *
  generalize hmet : pt.on r.2 (n2.fmod 9 - 1) = met at *
  have lo2 := F__law_on (A1.b3 (n := 6) (by decide)) (ho.b3 (n := 2) (by decide)) (show Bt 3 (0 - i) by unfold Bt; omega) (by decide)
  have A2 : A3 69 (met.on one (0 - i)) := (A1.on ho qi).le (by decide)
  have lo3 := F__law_on (A2.b3 (n := 7) (by decide)) (ht.b3 (n := 2) (by decide)) (show Bt 3 (0 - j) by unfold Bt; omega) (by decide)
  have A4 : A3 77 ((met.on one (0 - i)).on two (0 - j)) := (A2.on ht qj).le (by decide)
  have z0 : A3 0 ⟨0, 0, 0⟩ := ⟨by decide, by decide, by decide⟩
  have bm : Bt 3 many := by unfold Bt; omega
  have lo4 := F__law_on (z0.b3 (n := 1) (by decide)) (ho.b3 (n := 2) (by decide)) bm (by decide)
  have lo5 := F__law_on (z0.b3 (n := 1) (by decide)) (ht.b3 (n := 2) (by decide)) bm (by decide)
  have A5 : A3 6 ((T3.mk 0 0 0).on one many) := (z0.on ho (show many.natAbs ≤ 3 by omega)).le (by decide)
  have A6 : A3 6 ((T3.mk 0 0 0).on two many) := (z0.on ht (show many.natAbs ≤ 3 by omega)).le (by decide)
  refine ⟨⟨(met.on one (0 - i)).on two (0 - j), (T3.mk 0 0 0).on one many, (T3.mk 0 0 0).on two many⟩, ⟨A4, A5, A6, by
    unfold Pl.front
    rw [cross_scaled]
    exact scaled_ne hc0 (by omega)⟩, ?_⟩
  refine run_of (exs_step (ρ' := [some (.fz (.int w)), some (.fz (.lst (sun.map rowD))), some (.fz (.lst (dials.map dlD))), some (.fz (t3 (⟨0, 0, 1⟩))), none, none, none, none, none, none, none, none]) (by simp only [d__law_fence, t3, run, exs, ex, evB, evM, evML, ev, evF, evA, evO, evT, evI, bndP, bndS, lift, liftS, own, callP, peekL, frzL, DY.peek, look, DY.get, DY.shl, DY.frz, nav, DY.put, blOf, intOf, lstOf, AV.erase, eraseL, binD, cmpD, bltD, isiD, asg, asgL, thin, thinD, thinL, ixP, Option.map_some, Option.map_none, Option.bind_some, Option.bind_none, List.map_cons, List.map_nil, List.length_cons, List.length_nil, List.replicate, List.cons_append, List.nil_append, List.append_nil, List.getElem?_cons_zero, List.getElem?_cons_succ, List.getElem?_nil, List.set_cons_zero, List.set_cons_succ, Nat.sub_self, Nat.reduceSub, Nat.reduceAdd, Bool.not_true, Bool.not_false, if_true, if_false, Bool.false_eq_true, eqD, eqDs, depth, depthL, Nat.zero_le, and_self, and_true, true_and, atZ_0, atZ_1, atZ_2, line_2, line_3, reduceCtorEq, Bool.and_true, Bool.true_and, Bool.and_false, Bool.false_and, Bool.or_true, Bool.or_false, Bool.true_or, Bool.false_or, List.all_cons, List.all_nil, line_1, Nat.reduceLeDiff, Nat.max_self, Nat.zero_max, Nat.max_zero, Int.reduceNe, Int.reduceEq, pz20, pz21, pz30, pz31, pz32]) (exs_step x1 ?_))
  refine exs_step (ρ' := [some (.fz (.int w)), some (.fz (.lst (sun.map rowD))), some (.fz (.lst (dials.map dlD))), some (.fz (t3 pt)), some (.fz (t3 r.2)), none, none, none, none, none, none, none]) (by simp only [run, exs, ex, evB, evM, evML, ev, evF, evA, evO, evT, evI, bndP, bndS, lift, liftS, own, callP, peekL, frzL, DY.peek, look, DY.get, DY.shl, DY.frz, nav, DY.put, blOf, intOf, lstOf, AV.erase, eraseL, binD, cmpD, bltD, isiD, asg, asgL, thin, thinD, thinL, ixP, Option.map_some, Option.map_none, Option.bind_some, Option.bind_none, List.map_cons, List.map_nil, List.length_cons, List.length_nil, List.replicate, List.cons_append, List.nil_append, List.append_nil, List.getElem?_cons_zero, List.getElem?_cons_succ, List.getElem?_nil, List.set_cons_zero, List.set_cons_succ, Nat.sub_self, Nat.reduceSub, Nat.reduceAdd, Bool.not_true, Bool.not_false, if_true, if_false, Bool.false_eq_true, eqD, eqDs, depth, depthL, Nat.zero_le, and_self, and_true, true_and, atZ_0, atZ_1, atZ_2, line_2, line_3, reduceCtorEq, Bool.and_true, Bool.true_and, Bool.and_false, Bool.false_and, Bool.or_true, Bool.or_false, Bool.true_or, Bool.false_or, List.all_cons, List.all_nil, line_1, Nat.reduceLeDiff, Nat.max_self, Nat.zero_max, Nat.max_zero, Int.reduceNe, Int.reduceEq, pz20, pz21, pz30, pz31, pz32, List.length_map, hdp, ne_eq, not_false_eq_true, v60, hr2, rowD]) ?_
  refine exs_step (ρ' := [some (.fz (.int n1)), some (.fz (.lst (sun.map rowD))), some (.fz (.lst (dials.map dlD))), some (.fz (t3 pt)), some (.fz (t3 r.2)), none, none, none, none, none, none, none]) (by simp only [run, exs, ex, evB, evM, evML, ev, evF, evA, evO, evT, evI, bndP, bndS, lift, liftS, own, callP, peekL, frzL, DY.peek, look, DY.get, DY.shl, DY.frz, nav, DY.put, blOf, intOf, lstOf, AV.erase, eraseL, binD, cmpD, bltD, isiD, asg, asgL, thin, thinD, thinL, ixP, Option.map_some, Option.map_none, Option.bind_some, Option.bind_none, List.map_cons, List.map_nil, List.length_cons, List.length_nil, List.replicate, List.cons_append, List.nil_append, List.append_nil, List.getElem?_cons_zero, List.getElem?_cons_succ, List.getElem?_nil, List.set_cons_zero, List.set_cons_succ, Nat.sub_self, Nat.reduceSub, Nat.reduceAdd, Bool.not_true, Bool.not_false, if_true, if_false, Bool.false_eq_true, eqD, eqDs, depth, depthL, Nat.zero_le, and_self, and_true, true_and, atZ_0, atZ_1, atZ_2, line_2, line_3, reduceCtorEq, Bool.and_true, Bool.true_and, Bool.and_false, Bool.false_and, Bool.or_true, Bool.or_false, Bool.true_or, Bool.false_or, List.all_cons, List.all_nil, line_1, Nat.reduceLeDiff, Nat.max_self, Nat.zero_max, Nat.max_zero, Int.reduceNe, Int.reduceEq, pz20, pz21, pz30, pz31, pz32, v3600, hn1]) ?_
  refine exs_step (ρ' := [some (.fz (.int n1)), some (.fz (.lst (sun.map rowD))), some (.fz (.lst (dials.map dlD))), some (.fz (t3 pt)), some (.fz (t3 r.2)), some (.fz (.int many)), none, none, none, none, none, none]) (by simp only [run, exs, ex, evB, evM, evML, ev, evF, evA, evO, evT, evI, bndP, bndS, lift, liftS, own, callP, peekL, frzL, DY.peek, look, DY.get, DY.shl, DY.frz, nav, DY.put, blOf, intOf, lstOf, AV.erase, eraseL, binD, cmpD, bltD, isiD, asg, asgL, thin, thinD, thinL, ixP, Option.map_some, Option.map_none, Option.bind_some, Option.bind_none, List.map_cons, List.map_nil, List.length_cons, List.length_nil, List.replicate, List.cons_append, List.nil_append, List.append_nil, List.getElem?_cons_zero, List.getElem?_cons_succ, List.getElem?_nil, List.set_cons_zero, List.set_cons_succ, Nat.sub_self, Nat.reduceSub, Nat.reduceAdd, Bool.not_true, Bool.not_false, if_true, if_false, Bool.false_eq_true, eqD, eqDs, depth, depthL, Nat.zero_le, and_self, and_true, true_and, atZ_0, atZ_1, atZ_2, line_2, line_3, reduceCtorEq, Bool.and_true, Bool.true_and, Bool.and_false, Bool.false_and, Bool.or_true, Bool.or_false, Bool.true_or, Bool.false_or, List.all_cons, List.all_nil, line_1, Nat.reduceLeDiff, Nat.max_self, Nat.zero_max, Nat.max_zero, Int.reduceNe, Int.reduceEq, pz20, pz21, pz30, pz31, pz32, hmany]) ?_
  refine exs_step (ρ' := [some (.fz (.int n1)), some (.fz (.lst (sun.map rowD))), some (.fz (.lst (dials.map dlD))), some (.fz (t3 pt)), some (.fz (t3 r.2)), some (.fz (.int many)), some (.fz (t3 one)), some (.fz (t3 two)), none, none, none, none]) (by simp only [run, exs, ex, evB, evM, evML, ev, evF, evA, evO, evT, evI, bndP, bndS, lift, liftS, own, callP, peekL, frzL, DY.peek, look, DY.get, DY.shl, DY.frz, nav, DY.put, blOf, intOf, lstOf, AV.erase, eraseL, binD, cmpD, bltD, isiD, asg, asgL, thin, thinD, thinL, ixP, Option.map_some, Option.map_none, Option.bind_some, Option.bind_none, List.map_cons, List.map_nil, List.length_cons, List.length_nil, List.replicate, List.cons_append, List.nil_append, List.append_nil, List.getElem?_cons_zero, List.getElem?_cons_succ, List.getElem?_nil, List.set_cons_zero, List.set_cons_succ, Nat.sub_self, Nat.reduceSub, Nat.reduceAdd, Bool.not_true, Bool.not_false, if_true, if_false, Bool.false_eq_true, eqD, eqDs, depth, depthL, Nat.zero_le, and_self, and_true, true_and, atZ_0, atZ_1, atZ_2, line_2, line_3, reduceCtorEq, Bool.and_true, Bool.true_and, Bool.and_false, Bool.false_and, Bool.or_true, Bool.or_false, Bool.true_or, Bool.false_or, List.all_cons, List.all_nil, line_1, Nat.reduceLeDiff, Nat.max_self, Nat.zero_max, Nat.max_zero, Int.reduceNe, Int.reduceEq, pz20, pz21, pz30, pz31, pz32, v3, Cs_Fn (show i__law_pair < i__law_fence by decide), Cs_Fn (show i__law_on < i__law_fence by decide), hp, thin_t3]) ?_
  refine exs_step (ρ' := [some (.fz (.int n2)), some (.fz (.lst (sun.map rowD))), some (.fz (.lst (dials.map dlD))), some (.fz (t3 pt)), some (.fz (t3 r.2)), some (.fz (.int many)), some (.fz (t3 one)), some (.fz (t3 two)), none, none, none, none]) (by simp only [run, exs, ex, evB, evM, evML, ev, evF, evA, evO, evT, evI, bndP, bndS, lift, liftS, own, callP, peekL, frzL, DY.peek, look, DY.get, DY.shl, DY.frz, nav, DY.put, blOf, intOf, lstOf, AV.erase, eraseL, binD, cmpD, bltD, isiD, asg, asgL, thin, thinD, thinL, ixP, Option.map_some, Option.map_none, Option.bind_some, Option.bind_none, List.map_cons, List.map_nil, List.length_cons, List.length_nil, List.replicate, List.cons_append, List.nil_append, List.append_nil, List.getElem?_cons_zero, List.getElem?_cons_succ, List.getElem?_nil, List.set_cons_zero, List.set_cons_succ, Nat.sub_self, Nat.reduceSub, Nat.reduceAdd, Bool.not_true, Bool.not_false, if_true, if_false, Bool.false_eq_true, eqD, eqDs, depth, depthL, Nat.zero_le, and_self, and_true, true_and, atZ_0, atZ_1, atZ_2, line_2, line_3, reduceCtorEq, Bool.and_true, Bool.true_and, Bool.and_false, Bool.false_and, Bool.or_true, Bool.or_false, Bool.true_or, Bool.false_or, List.all_cons, List.all_nil, line_1, Nat.reduceLeDiff, Nat.max_self, Nat.zero_max, Nat.max_zero, Int.reduceNe, Int.reduceEq, pz20, pz21, pz30, pz31, pz32, p6, e6, d6, hn2]) ?_
  refine exs_step (ρ' := [some (.fz (.int n2)), some (.fz (.lst (sun.map rowD))), some (.fz (.lst (dials.map dlD))), some (.fz (t3 pt)), some (.fz (t3 r.2)), some (.fz (.int many)), some (.fz (t3 one)), some (.fz (t3 two)), some (.fz (t3 met)), none, none, none]) (by simp only [t3] at lo1; simp only [t3, run, exs, ex, evB, evM, evML, ev, evF, evA, evO, evT, evI, bndP, bndS, lift, liftS, own, callP, peekL, frzL, DY.peek, look, DY.get, DY.shl, DY.frz, nav, DY.put, blOf, intOf, lstOf, AV.erase, eraseL, binD, cmpD, bltD, isiD, asg, asgL, thin, thinD, thinL, ixP, Option.map_some, Option.map_none, Option.bind_some, Option.bind_none, List.map_cons, List.map_nil, List.length_cons, List.length_nil, List.replicate, List.cons_append, List.nil_append, List.append_nil, List.getElem?_cons_zero, List.getElem?_cons_succ, List.getElem?_nil, List.set_cons_zero, List.set_cons_succ, Nat.sub_self, Nat.reduceSub, Nat.reduceAdd, Bool.not_true, Bool.not_false, if_true, if_false, Bool.false_eq_true, eqD, eqDs, depth, depthL, Nat.zero_le, and_self, and_true, true_and, atZ_0, atZ_1, atZ_2, line_2, line_3, reduceCtorEq, Bool.and_true, Bool.true_and, Bool.and_false, Bool.false_and, Bool.or_true, Bool.or_false, Bool.true_or, Bool.false_or, List.all_cons, List.all_nil, line_1, Nat.reduceLeDiff, Nat.max_self, Nat.zero_max, Nat.max_zero, Int.reduceNe, Int.reduceEq, pz20, pz21, pz30, pz31, pz32, Cs_Fn (show i__law_pair < i__law_fence by decide), Cs_Fn (show i__law_on < i__law_fence by decide), lo1]) ?_
  refine exs_step (ρ' := [some (.fz (.int n2)), some (.fz (.lst (sun.map rowD))), some (.fz (.lst (dials.map dlD))), some (.fz (t3 pt)), some (.fz (t3 r.2)), some (.fz (.int many)), some (.fz (t3 one)), some (.fz (t3 two)), some (.fz (t3 met)), some (.fz (.int i)), none, none]) (by simp only [run, exs, ex, evB, evM, evML, ev, evF, evA, evO, evT, evI, bndP, bndS, lift, liftS, own, callP, peekL, frzL, DY.peek, look, DY.get, DY.shl, DY.frz, nav, DY.put, blOf, intOf, lstOf, AV.erase, eraseL, binD, cmpD, bltD, isiD, asg, asgL, thin, thinD, thinL, ixP, Option.map_some, Option.map_none, Option.bind_some, Option.bind_none, List.map_cons, List.map_nil, List.length_cons, List.length_nil, List.replicate, List.cons_append, List.nil_append, List.append_nil, List.getElem?_cons_zero, List.getElem?_cons_succ, List.getElem?_nil, List.set_cons_zero, List.set_cons_succ, Nat.sub_self, Nat.reduceSub, Nat.reduceAdd, Bool.not_true, Bool.not_false, if_true, if_false, Bool.false_eq_true, eqD, eqDs, depth, depthL, Nat.zero_le, and_self, and_true, true_and, atZ_0, atZ_1, atZ_2, line_2, line_3, reduceCtorEq, Bool.and_true, Bool.true_and, Bool.and_false, Bool.false_and, Bool.or_true, Bool.or_false, Bool.true_or, Bool.false_or, List.all_cons, List.all_nil, line_1, Nat.reduceLeDiff, Nat.max_self, Nat.zero_max, Nat.max_zero, Int.reduceNe, Int.reduceEq, pz20, pz21, pz30, pz31, pz32, v9, z2, ne_eq, not_false_eq_true, hi]) ?_
  refine exs_step (ρ' := [some (.fz (.int n2)), some (.fz (.lst (sun.map rowD))), some (.fz (.lst (dials.map dlD))), some (.fz (t3 pt)), some (.fz (t3 r.2)), some (.fz (.int many)), some (.fz (t3 one)), some (.fz (t3 two)), some (.fz (t3 met)), some (.fz (.int i)), some (.fz (.int j)), none]) (by simp only [run, exs, ex, evB, evM, evML, ev, evF, evA, evO, evT, evI, bndP, bndS, lift, liftS, own, callP, peekL, frzL, DY.peek, look, DY.get, DY.shl, DY.frz, nav, DY.put, blOf, intOf, lstOf, AV.erase, eraseL, binD, cmpD, bltD, isiD, asg, asgL, thin, thinD, thinL, ixP, Option.map_some, Option.map_none, Option.bind_some, Option.bind_none, List.map_cons, List.map_nil, List.length_cons, List.length_nil, List.replicate, List.cons_append, List.nil_append, List.append_nil, List.getElem?_cons_zero, List.getElem?_cons_succ, List.getElem?_nil, List.set_cons_zero, List.set_cons_succ, Nat.sub_self, Nat.reduceSub, Nat.reduceAdd, Bool.not_true, Bool.not_false, if_true, if_false, Bool.false_eq_true, eqD, eqDs, depth, depthL, Nat.zero_le, and_self, and_true, true_and, atZ_0, atZ_1, atZ_2, line_2, line_3, reduceCtorEq, Bool.and_true, Bool.true_and, Bool.and_false, Bool.false_and, Bool.or_true, Bool.or_false, Bool.true_or, Bool.false_or, List.all_cons, List.all_nil, line_1, Nat.reduceLeDiff, Nat.max_self, Nat.zero_max, Nat.max_zero, Int.reduceNe, Int.reduceEq, pz20, pz21, pz30, pz31, pz32, v60, z2, ne_eq, not_false_eq_true, hj]) ?_
  refine exs_step (ρ' := [some (.fz (.int n2)), some (.fz (.lst (sun.map rowD))), some (.fz (.lst (dials.map dlD))), some (.fz (t3 pt)), some (.fz (t3 r.2)), some (.fz (.int many)), some (.fz (t3 one)), some (.fz (t3 two)), some (.fz (t3 met)), some (.fz (.int i)), some (.fz (.int j)), some (.fz (t3 ((met.on one (0 - i)).on two (0 - j))))]) (by simp only [t3] at lo2 lo3; simp only [t3, run, exs, ex, evB, evM, evML, ev, evF, evA, evO, evT, evI, bndP, bndS, lift, liftS, own, callP, peekL, frzL, DY.peek, look, DY.get, DY.shl, DY.frz, nav, DY.put, blOf, intOf, lstOf, AV.erase, eraseL, binD, cmpD, bltD, isiD, asg, asgL, thin, thinD, thinL, ixP, Option.map_some, Option.map_none, Option.bind_some, Option.bind_none, List.map_cons, List.map_nil, List.length_cons, List.length_nil, List.replicate, List.cons_append, List.nil_append, List.append_nil, List.getElem?_cons_zero, List.getElem?_cons_succ, List.getElem?_nil, List.set_cons_zero, List.set_cons_succ, Nat.sub_self, Nat.reduceSub, Nat.reduceAdd, Bool.not_true, Bool.not_false, if_true, if_false, Bool.false_eq_true, eqD, eqDs, depth, depthL, Nat.zero_le, and_self, and_true, true_and, atZ_0, atZ_1, atZ_2, line_2, line_3, reduceCtorEq, Bool.and_true, Bool.true_and, Bool.and_false, Bool.false_and, Bool.or_true, Bool.or_false, Bool.true_or, Bool.false_or, List.all_cons, List.all_nil, line_1, Nat.reduceLeDiff, Nat.max_self, Nat.zero_max, Nat.max_zero, Int.reduceNe, Int.reduceEq, pz20, pz21, pz30, pz31, pz32, Cs_Fn (show i__law_pair < i__law_fence by decide), Cs_Fn (show i__law_on < i__law_fence by decide), lo2, lo3]) ?_
  refine exs_ret ?_
  simp only [t3] at lo4 lo5
  simp only [t3, pl, run, exs, ex, evB, evM, evML, ev, evF, evA, evO, evT, evI, bndP, bndS, lift, liftS, own, callP, peekL, frzL, DY.peek, look, DY.get, DY.shl, DY.frz, nav, DY.put, blOf, intOf, lstOf, AV.erase, eraseL, binD, cmpD, bltD, isiD, asg, asgL, thin, thinD, thinL, ixP, Option.map_some, Option.map_none, Option.bind_some, Option.bind_none, List.map_cons, List.map_nil, List.length_cons, List.length_nil, List.replicate, List.cons_append, List.nil_append, List.append_nil, List.getElem?_cons_zero, List.getElem?_cons_succ, List.getElem?_nil, List.set_cons_zero, List.set_cons_succ, Nat.sub_self, Nat.reduceSub, Nat.reduceAdd, Bool.not_true, Bool.not_false, if_true, if_false, Bool.false_eq_true, eqD, eqDs, depth, depthL, Nat.zero_le, and_self, and_true, true_and, atZ_0, atZ_1, atZ_2, line_2, line_3, reduceCtorEq, Bool.and_true, Bool.true_and, Bool.and_false, Bool.false_and, Bool.or_true, Bool.or_false, Bool.true_or, Bool.false_or, List.all_cons, List.all_nil, line_1, Nat.reduceLeDiff, Nat.max_self, Nat.zero_max, Nat.max_zero, Int.reduceNe, Int.reduceEq, pz20, pz21, pz30, pz31, pz32, Cs_Fn (show i__law_pair < i__law_fence by decide), Cs_Fn (show i__law_on < i__law_fence by decide), lo4, lo5]
theorem yard_dials {ns : List Int} {sun : List (Int × T3)} (hs : 0 < sun.length) (hA : ∀ r ∈ sun, A3 5 r.2) (m : Nat) (hm : m ≤ 20) (a1 a2 a3 a4 : Option AV) (C0 : Nat) (hC0 : i__law_dial < C0 ∧ i__law_wide < C0) : ∃ (ds : List (Pl × T3 × T3)) (v : Option AV), ds.length = m ∧ (∀ x ∈ ds, DlOk x.1 x.2.1 ∧ A3 26 x.2.2) ∧
    loopL (body1 (Cs G above Ds C0) G above (.nm 7) L__law_yard_1) ((List.range m).map fun k : Nat => D.int (0 + (k : Int))) [some (.fz (.scr ns)), a1, a2, a3, a4, some (.ol (sun.map rowD)), some (.ol []), none, none, none, none] =
      .ok (.nx [some (.fz (.scr ns)), a1, a2, a3, a4, some (.ol (sun.map rowD)), some (.ol (ds.map dlD)), v, none, none, none]) := by
  obtain ⟨ρ', e1, ds, v, h1, h2, e2⟩ := loop_foldi (f := body1 (Cs G above Ds C0) G above (.nm 7) L__law_yard_1) (g := fun k : Nat => D.int (0 + (k : Int))) (ok := fun k => k < m) (List.range m).length
    (fun i (_ : Unit) ρ => ∃ (ds : List (Pl × T3 × T3)) (v : Option AV), ds.length = i ∧ (∀ x ∈ ds, DlOk x.1 x.2.1 ∧ A3 26 x.2.2) ∧ ρ = [some (.fz (.scr ns)), a1, a2, a3, a4, some (.ol (sun.map rowD)), some (.ol (ds.map dlD)), v, none, none, none]) (fun _ _ => ())
    (fun i _ k ρ hi hk ⟨ds, v, hl, hd, hρ⟩ => by
      subst hρ
      rw [List.length_range] at hi
      have hbl : ds.length < line := line_big (by omega)
      obtain ⟨w, _, _, hw⟩ := F__law_wide (ns := ns) (k := 20 + (0 + (k : Int))) (by omega) (by unfold Bt; omega)
      obtain ⟨p, tip, pt, b1, b2, hdl⟩ := F__law_dial (w := w) hs hA
      exact ⟨_, by simp only [body1, run, exs, ex, evB, evM, evML, ev, evF, evA, evO, evT, evI, bndP, bndS, lift, liftS, own, callP, peekL, frzL, DY.peek, look, DY.get, DY.shl, DY.frz, nav, DY.put, blOf, intOf, lstOf, AV.erase, eraseL, binD, cmpD, bltD, isiD, asg, asgL, thin, thinD, thinL, ixP, Option.map_some, Option.map_none, Option.bind_some, Option.bind_none, List.map_cons, List.map_nil, List.length_cons, List.length_nil, List.replicate, List.cons_append, List.nil_append, List.append_nil, List.getElem?_cons_zero, List.getElem?_cons_succ, List.getElem?_nil, List.set_cons_zero, List.set_cons_succ, Nat.sub_self, Nat.reduceSub, Nat.reduceAdd, Bool.not_true, Bool.not_false, if_true, if_false, Bool.false_eq_true, eqD, eqDs, depth, depthL, Nat.zero_le, and_self, and_true, true_and, atZ_0, atZ_1, atZ_2, line_2, line_3, reduceCtorEq, Bool.and_true, Bool.true_and, Bool.and_false, Bool.false_and, Bool.or_true, Bool.or_false, Bool.true_or, Bool.false_or, List.all_cons, List.all_nil, line_1, Nat.reduceLeDiff, Nat.max_self, Nat.zero_max, Nat.max_zero, Int.reduceNe, Int.reduceEq, pz20, pz21, pz30, pz31, pz32, Cs_Fn hC0.1, Cs_Fn hC0.2, hw, hdl, pl, thin_t3, wrt, List.length_map, hbl]; rfl, ds ++ [(p, tip, pt)], _, by simp [hl], fun x hx => (List.mem_append.mp hx).elim (hd x) (fun z => by rw [List.mem_singleton.mp z]; exact ⟨b1, b2⟩), by rw [List.map_append]; rfl⟩)
    (List.range m) 0 () _ (by omega) (fun k hk => List.mem_range.mp hk) ⟨[], none, rfl, (fun x h => by cases h), rfl⟩
  exact ⟨ds, v, by simpa using h1, h2, by rw [e2] at e1; exact e1⟩
theorem yard_walls {ns : List Int} {sun : List (Int × T3)} {dials : List (Pl × T3 × T3)} (hs : 0 < sun.length) (hA : ∀ r ∈ sun, A3 5 r.2) (hD : ∀ x ∈ dials, A3 26 x.2.2) (m : Nat) (hm : m ≤ 20) (a1 a2 a3 a4 v0 : Option AV) (C0 : Nat) (hC0 : i__law_fence < C0 ∧ i__law_wide < C0) : ∃ (ps : List Pl) (v : Option AV), ps.length = m ∧ (∀ p ∈ ps, WlOk p) ∧
    loopL (body1 (Cs G above Ds C0) G above (.nm 7) L__law_yard_2) ((List.range m).map fun k : Nat => D.int (0 + (k : Int))) [some (.fz (.scr ns)), a1, a2, a3, a4, some (.ol (sun.map rowD)), some (.ol (dials.map dlD)), v0, some (.ol []), none, none] =
      .ok (.nx [some (.fz (.scr ns)), a1, a2, a3, a4, some (.ol (sun.map rowD)), some (.ol (dials.map dlD)), v, some (.ol (ps.map pl)), none, none]) := by
  obtain ⟨ρ', e1, ps, v, h1, h2, e2⟩ := loop_foldi (f := body1 (Cs G above Ds C0) G above (.nm 7) L__law_yard_2) (g := fun k : Nat => D.int (0 + (k : Int))) (ok := fun k => k < m) (List.range m).length
    (fun i (_ : Unit) ρ => ∃ (ps : List Pl) (v : Option AV), ps.length = i ∧ (∀ p ∈ ps, WlOk p) ∧ ρ = [some (.fz (.scr ns)), a1, a2, a3, a4, some (.ol (sun.map rowD)), some (.ol (dials.map dlD)), v, some (.ol (ps.map pl)), none, none]) (fun _ _ => ())
    (fun i _ k ρ hi hk ⟨ps, v, hl, hd, hρ⟩ => by
      subst hρ
      rw [List.length_range] at hi
      have hbl : ps.length < line := line_big (by omega)
      obtain ⟨w, _, _, hw⟩ := F__law_wide (ns := ns) (k := 40 + (0 + (k : Int))) (by omega) (by unfold Bt; omega)
      obtain ⟨p, b1, hdl⟩ := F__law_fence (w := w) hs hA hD
      exact ⟨_, by simp only [body1, run, exs, ex, evB, evM, evML, ev, evF, evA, evO, evT, evI, bndP, bndS, lift, liftS, own, callP, peekL, frzL, DY.peek, look, DY.get, DY.shl, DY.frz, nav, DY.put, blOf, intOf, lstOf, AV.erase, eraseL, binD, cmpD, bltD, isiD, asg, asgL, thin, thinD, thinL, ixP, Option.map_some, Option.map_none, Option.bind_some, Option.bind_none, List.map_cons, List.map_nil, List.length_cons, List.length_nil, List.replicate, List.cons_append, List.nil_append, List.append_nil, List.getElem?_cons_zero, List.getElem?_cons_succ, List.getElem?_nil, List.set_cons_zero, List.set_cons_succ, Nat.sub_self, Nat.reduceSub, Nat.reduceAdd, Bool.not_true, Bool.not_false, if_true, if_false, Bool.false_eq_true, eqD, eqDs, depth, depthL, Nat.zero_le, and_self, and_true, true_and, atZ_0, atZ_1, atZ_2, line_2, line_3, reduceCtorEq, Bool.and_true, Bool.true_and, Bool.and_false, Bool.false_and, Bool.or_true, Bool.or_false, Bool.true_or, Bool.false_or, List.all_cons, List.all_nil, line_1, Nat.reduceLeDiff, Nat.max_self, Nat.zero_max, Nat.max_zero, Int.reduceNe, Int.reduceEq, pz20, pz21, pz30, pz31, pz32, Cs_Fn hC0.1, Cs_Fn hC0.2, hw, hdl, thin_pl, wrt, List.length_map, hbl]; rfl, ps ++ [p], _, by simp [hl], fun x hx => (List.mem_append.mp hx).elim (hd x) (fun z => by rw [List.mem_singleton.mp z]; exact b1), by rw [List.map_append]; rfl⟩)
    (List.range m) 0 () _ (by omega) (fun k hk => List.mem_range.mp hk) ⟨[], v0, rfl, (fun x h => by cases h), rfl⟩
  exact ⟨ps, v, by simpa using h1, h2, by rw [e2] at e1; exact e1⟩
theorem F__law_yard {ns : List Int} {md mw mh : Nat} (h1 : md ≤ 10) (h2 : mw ≤ 10) (h3 : 0 < mh) (h4 : mh ≤ 12) : ∃ (sun : List (Int × T3)) (ds : List (Pl × T3 × T3)) (ps : List Pl), SunOk sun ∧ (0 < sun.length ∧ sun.length ≤ mh) ∧ (ds.length ≤ md ∧ ∀ x ∈ ds, DlOk x.1 x.2.1) ∧ (ps.length ≤ mw ∧ ∀ p ∈ ps, WlOk p) ∧
    F i__law_yard [.scr ns, .int md, .int mw, .int mh] = .ok (.ot [.ol (sun.map rowD), .ol ((yardW (nmOf ns) ps).map thD), .ol ((yardD (nmOf ns) ds).map thD)]) := by
  rw [show F i__law_yard = _ from Fn_at (d := d__law_yard) rfl]
  obtain ⟨hw0, _, hw⟩ := wide_of (ns := ns) (k := 0) (by decide) (by unfold Bt; decide)
  generalize wide ns 0 = w at *
  obtain ⟨v2, v3, v4, v7, v9, v20, v26, v30, v60, v63, v100, v120, v300, v441, v2000, v2205, v3600, v10000, v14400⟩ := dvs
  generalize hsh : w.fdiv 2 = sh at *
  have f1 := fmod_bd (a := sh) (b := (mh : Int)) (by omega)
  have f2 := fmod_bd (a := sh.fdiv 100) (b := (md : Int) + 1) (by omega)
  have f3 := fmod_bd (a := sh.fdiv 10000) (b := (mw : Int) + 1) (by omega)
  obtain ⟨m1, hm1⟩ : ∃ m1 : Nat, 1 + sh.fmod mh = (m1 : Int) := ⟨(1 + sh.fmod mh).toNat, by omega⟩
  obtain ⟨m2, hm2⟩ : ∃ m2 : Nat, (sh.fdiv 100).fmod (md + 1) = (m2 : Int) := ⟨((sh.fdiv 100).fmod (md + 1)).toNat, by omega⟩
  obtain ⟨m3, hm3⟩ : ∃ m3 : Nat, (sh.fdiv 10000).fmod (mw + 1) = (m3 : Int) := ⟨((sh.fdiv 10000).fmod (mw + 1)).toNat, by omega⟩
  obtain ⟨sun, hsl, hsun, hs⟩ := F__law_sun (ns := ns) (m := m1) (by omega)
  have hs0 : 0 < sun.length := by omega
  obtain ⟨ds, v, hdl, hd, e1⟩ := yard_dials (ns := ns) hs0 hsun.dir m2 (by omega) (some (.fz (.int md))) (some (.fz (.int mw))) (some (.fz (.int mh))) (some (.fz (.int sh))) i__law_yard (by decide)
  obtain ⟨ps, v', hpl, hp, e2⟩ := yard_walls (ns := ns) (dials := ds) hs0 hsun.dir (fun x hx => (hd x hx).2) m3 (by omega) (some (.fz (.int md))) (some (.fz (.int mw))) (some (.fz (.int mh))) (some (.fz (.int sh))) v i__law_yard (by decide)
  refine ⟨sun, ds, ps, hsun, ⟨hs0, by omega⟩, ⟨by omega, fun x hx => (hd x hx).1⟩, ⟨by omega, hp⟩, ?_⟩
  have z1 : ¬ ((mh : Int) = 0) := by omega
  have z2 : ¬ ((md : Int) + 1 = 0) := by omega
  have z3 : ¬ ((mw : Int) + 1 = 0) := by omega
  have s2 : small62 (m2 : Int) := by unfold small62; omega
  have s3 : small62 (m3 : Int) := by unfold small62; omega
  refine run_of (exs_step (ρ' := [some (.fz (.scr ns)), some (.fz (.int md)), some (.fz (.int mw)), some (.fz (.int mh)), some (.fz (.int sh)), none, none, none, none, none, none]) (by simp only [d__law_yard, b__law_yard, run, exs, ex, evB, evM, evML, ev, evF, evA, evO, evT, evI, bndP, bndS, lift, liftS, own, callP, peekL, frzL, DY.peek, look, DY.get, DY.shl, DY.frz, nav, DY.put, blOf, intOf, lstOf, AV.erase, eraseL, binD, cmpD, bltD, isiD, asg, asgL, thin, thinD, thinL, ixP, Option.map_some, Option.map_none, Option.bind_some, Option.bind_none, List.map_cons, List.map_nil, List.length_cons, List.length_nil, List.replicate, List.cons_append, List.nil_append, List.append_nil, List.getElem?_cons_zero, List.getElem?_cons_succ, List.getElem?_nil, List.set_cons_zero, List.set_cons_succ, Nat.sub_self, Nat.reduceSub, Nat.reduceAdd, Bool.not_true, Bool.not_false, if_true, if_false, Bool.false_eq_true, eqD, eqDs, depth, depthL, Nat.zero_le, and_self, and_true, true_and, atZ_0, atZ_1, atZ_2, line_2, line_3, reduceCtorEq, Bool.and_true, Bool.true_and, Bool.and_false, Bool.false_and, Bool.or_true, Bool.or_false, Bool.true_or, Bool.false_or, List.all_cons, List.all_nil, line_1, Nat.reduceLeDiff, Nat.max_self, Nat.zero_max, Nat.max_zero, Int.reduceNe, Int.reduceEq, pz20, pz21, pz30, pz31, pz32, Cs_Fn (show i__law_wide < i__law_yard by decide), Cs_Fn (show i__law_sun < i__law_yard by decide), Cs_Fn (show i__law_dial < i__law_yard by decide), Cs_Fn (show i__law_fence < i__law_yard by decide), Cs_Fn (show i__law_name < i__law_yard by decide), hw, v2, hsh]) ?_)
  refine exs_step (ρ' := [some (.fz (.scr ns)), some (.fz (.int md)), some (.fz (.int mw)), some (.fz (.int mh)), some (.fz (.int sh)), some (.ol (sun.map rowD)), none, none, none, none, none]) (by simp only [run, exs, ex, evB, evM, evML, ev, evF, evA, evO, evT, evI, bndP, bndS, lift, liftS, own, callP, peekL, frzL, DY.peek, look, DY.get, DY.shl, DY.frz, nav, DY.put, blOf, intOf, lstOf, AV.erase, eraseL, binD, cmpD, bltD, isiD, asg, asgL, thin, thinD, thinL, ixP, Option.map_some, Option.map_none, Option.bind_some, Option.bind_none, List.map_cons, List.map_nil, List.length_cons, List.length_nil, List.replicate, List.cons_append, List.nil_append, List.append_nil, List.getElem?_cons_zero, List.getElem?_cons_succ, List.getElem?_nil, List.set_cons_zero, List.set_cons_succ, Nat.sub_self, Nat.reduceSub, Nat.reduceAdd, Bool.not_true, Bool.not_false, if_true, if_false, Bool.false_eq_true, eqD, eqDs, depth, depthL, Nat.zero_le, and_self, and_true, true_and, atZ_0, atZ_1, atZ_2, line_2, line_3, reduceCtorEq, Bool.and_true, Bool.true_and, Bool.and_false, Bool.false_and, Bool.or_true, Bool.or_false, Bool.true_or, Bool.false_or, List.all_cons, List.all_nil, line_1, Nat.reduceLeDiff, Nat.max_self, Nat.zero_max, Nat.max_zero, Int.reduceNe, Int.reduceEq, pz20, pz21, pz30, pz31, pz32, Cs_Fn (show i__law_wide < i__law_yard by decide), Cs_Fn (show i__law_sun < i__law_yard by decide), Cs_Fn (show i__law_dial < i__law_yard by decide), Cs_Fn (show i__law_fence < i__law_yard by decide), Cs_Fn (show i__law_name < i__law_yard by decide), z1, hm1, hs, ne_eq, not_false_eq_true]) ?_
  refine exs_step (ρ' := [some (.fz (.scr ns)), some (.fz (.int md)), some (.fz (.int mw)), some (.fz (.int mh)), some (.fz (.int sh)), some (.ol (sun.map rowD)), some (.ol []), none, none, none, none]) (by simp only [run, exs, ex, evB, evM, evML, ev, evF, evA, evO, evT, evI, bndP, bndS, lift, liftS, own, callP, peekL, frzL, DY.peek, look, DY.get, DY.shl, DY.frz, nav, DY.put, blOf, intOf, lstOf, AV.erase, eraseL, binD, cmpD, bltD, isiD, asg, asgL, thin, thinD, thinL, ixP, Option.map_some, Option.map_none, Option.bind_some, Option.bind_none, List.map_cons, List.map_nil, List.length_cons, List.length_nil, List.replicate, List.cons_append, List.nil_append, List.append_nil, List.getElem?_cons_zero, List.getElem?_cons_succ, List.getElem?_nil, List.set_cons_zero, List.set_cons_succ, Nat.sub_self, Nat.reduceSub, Nat.reduceAdd, Bool.not_true, Bool.not_false, if_true, if_false, Bool.false_eq_true, eqD, eqDs, depth, depthL, Nat.zero_le, and_self, and_true, true_and, atZ_0, atZ_1, atZ_2, line_2, line_3, reduceCtorEq, Bool.and_true, Bool.true_and, Bool.and_false, Bool.false_and, Bool.or_true, Bool.or_false, Bool.true_or, Bool.false_or, List.all_cons, List.all_nil, line_1, Nat.reduceLeDiff, Nat.max_self, Nat.zero_max, Nat.max_zero, Int.reduceNe, Int.reduceEq, pz20, pz21, pz30, pz31, pz32, Cs_Fn (show i__law_wide < i__law_yard by decide), Cs_Fn (show i__law_sun < i__law_yard by decide), Cs_Fn (show i__law_dial < i__law_yard by decide), Cs_Fn (show i__law_fence < i__law_yard by decide), Cs_Fn (show i__law_name < i__law_yard by decide)]) ?_
  refine exs_step (ρ' := _) (by
    rw [ex_loop (ds := (List.range m2).map fun k : Nat => D.int (0 + (k : Int))) (ρ1 := [some (.fz (.scr ns)), some (.fz (.int md)), some (.fz (.int mw)), some (.fz (.int mh)), some (.fz (.int sh)), some (.ol (sun.map rowD)), some (.ol []), none, none, none, none]) (by simp only [run, exs, ex, evB, evM, evML, ev, evF, evA, evO, evT, evI, bndP, bndS, lift, liftS, own, callP, peekL, frzL, DY.peek, look, DY.get, DY.shl, DY.frz, nav, DY.put, blOf, intOf, lstOf, AV.erase, eraseL, binD, cmpD, bltD, isiD, asg, asgL, thin, thinD, thinL, ixP, Option.map_some, Option.map_none, Option.bind_some, Option.bind_none, List.map_cons, List.map_nil, List.length_cons, List.length_nil, List.replicate, List.cons_append, List.nil_append, List.append_nil, List.getElem?_cons_zero, List.getElem?_cons_succ, List.getElem?_nil, List.set_cons_zero, List.set_cons_succ, Nat.sub_self, Nat.reduceSub, Nat.reduceAdd, Bool.not_true, Bool.not_false, if_true, if_false, Bool.false_eq_true, eqD, eqDs, depth, depthL, Nat.zero_le, and_self, and_true, true_and, atZ_0, atZ_1, atZ_2, line_2, line_3, reduceCtorEq, Bool.and_true, Bool.true_and, Bool.and_false, Bool.false_and, Bool.or_true, Bool.or_false, Bool.true_or, Bool.false_or, List.all_cons, List.all_nil, line_1, Nat.reduceLeDiff, Nat.max_self, Nat.zero_max, Nat.max_zero, Int.reduceNe, Int.reduceEq, pz20, pz21, pz30, pz31, pz32, Cs_Fn (show i__law_wide < i__law_yard by decide), Cs_Fn (show i__law_sun < i__law_yard by decide), Cs_Fn (show i__law_dial < i__law_yard by decide), Cs_Fn (show i__law_fence < i__law_yard by decide), Cs_Fn (show i__law_name < i__law_yard by decide), z2, v100, hm2, s2, rangeD, Int.toNat_natCast, ne_eq, not_false_eq_true])]
    exact e1) ?_
  refine exs_step (ρ' := [some (.fz (.scr ns)), some (.fz (.int md)), some (.fz (.int mw)), some (.fz (.int mh)), some (.fz (.int sh)), some (.ol (sun.map rowD)), some (.ol (ds.map dlD)), v, some (.ol []), none, none]) (by simp only [run, exs, ex, evB, evM, evML, ev, evF, evA, evO, evT, evI, bndP, bndS, lift, liftS, own, callP, peekL, frzL, DY.peek, look, DY.get, DY.shl, DY.frz, nav, DY.put, blOf, intOf, lstOf, AV.erase, eraseL, binD, cmpD, bltD, isiD, asg, asgL, thin, thinD, thinL, ixP, Option.map_some, Option.map_none, Option.bind_some, Option.bind_none, List.map_cons, List.map_nil, List.length_cons, List.length_nil, List.replicate, List.cons_append, List.nil_append, List.append_nil, List.getElem?_cons_zero, List.getElem?_cons_succ, List.getElem?_nil, List.set_cons_zero, List.set_cons_succ, Nat.sub_self, Nat.reduceSub, Nat.reduceAdd, Bool.not_true, Bool.not_false, if_true, if_false, Bool.false_eq_true, eqD, eqDs, depth, depthL, Nat.zero_le, and_self, and_true, true_and, atZ_0, atZ_1, atZ_2, line_2, line_3, reduceCtorEq, Bool.and_true, Bool.true_and, Bool.and_false, Bool.false_and, Bool.or_true, Bool.or_false, Bool.true_or, Bool.false_or, List.all_cons, List.all_nil, line_1, Nat.reduceLeDiff, Nat.max_self, Nat.zero_max, Nat.max_zero, Int.reduceNe, Int.reduceEq, pz20, pz21, pz30, pz31, pz32, Cs_Fn (show i__law_wide < i__law_yard by decide), Cs_Fn (show i__law_sun < i__law_yard by decide), Cs_Fn (show i__law_dial < i__law_yard by decide), Cs_Fn (show i__law_fence < i__law_yard by decide), Cs_Fn (show i__law_name < i__law_yard by decide)]) ?_
  refine exs_step (ρ' := _) (by
    rw [ex_loop (ds := (List.range m3).map fun k : Nat => D.int (0 + (k : Int))) (ρ1 := [some (.fz (.scr ns)), some (.fz (.int md)), some (.fz (.int mw)), some (.fz (.int mh)), some (.fz (.int sh)), some (.ol (sun.map rowD)), some (.ol (ds.map dlD)), v, some (.ol []), none, none]) (by simp only [run, exs, ex, evB, evM, evML, ev, evF, evA, evO, evT, evI, bndP, bndS, lift, liftS, own, callP, peekL, frzL, DY.peek, look, DY.get, DY.shl, DY.frz, nav, DY.put, blOf, intOf, lstOf, AV.erase, eraseL, binD, cmpD, bltD, isiD, asg, asgL, thin, thinD, thinL, ixP, Option.map_some, Option.map_none, Option.bind_some, Option.bind_none, List.map_cons, List.map_nil, List.length_cons, List.length_nil, List.replicate, List.cons_append, List.nil_append, List.append_nil, List.getElem?_cons_zero, List.getElem?_cons_succ, List.getElem?_nil, List.set_cons_zero, List.set_cons_succ, Nat.sub_self, Nat.reduceSub, Nat.reduceAdd, Bool.not_true, Bool.not_false, if_true, if_false, Bool.false_eq_true, eqD, eqDs, depth, depthL, Nat.zero_le, and_self, and_true, true_and, atZ_0, atZ_1, atZ_2, line_2, line_3, reduceCtorEq, Bool.and_true, Bool.true_and, Bool.and_false, Bool.false_and, Bool.or_true, Bool.or_false, Bool.true_or, Bool.false_or, List.all_cons, List.all_nil, line_1, Nat.reduceLeDiff, Nat.max_self, Nat.zero_max, Nat.max_zero, Int.reduceNe, Int.reduceEq, pz20, pz21, pz30, pz31, pz32, Cs_Fn (show i__law_wide < i__law_yard by decide), Cs_Fn (show i__law_sun < i__law_yard by decide), Cs_Fn (show i__law_dial < i__law_yard by decide), Cs_Fn (show i__law_fence < i__law_yard by decide), Cs_Fn (show i__law_name < i__law_yard by decide), z3, v10000, hm3, s3, rangeD, Int.toNat_natCast, ne_eq, not_false_eq_true])]
    exact e2) ?_
  have s4 : small62 ((ps.length : Nat) : Int) := by unfold small62; omega
  have s5 : small62 ((ds.length : Nat) : Int) := by unfold small62; omega
  have C1 := ev_cmpr (C := Cs G above Ds i__law_yard) (G := G) (above := above) (ow := [7]) (t := .nm 7) (it := .rng1 (.blt .len [.var 8])) (ifs := []) (e := .tup [.call i__law_name [.var 0, .var 7], .ix (.var 8) (.var 7)])
    (ρ := [some (.fz (.scr ns)), some (.fz (.int md)), some (.fz (.int mw)), some (.fz (.int mh)), some (.fz (.int sh)), some (.ol (sun.map rowD)), some (.ol (ds.map dlD)), v', some (.ol (ps.map pl)), none, none]) (ρ1 := [some (.fz (.scr ns)), some (.fz (.int md)), some (.fz (.int mw)), some (.fz (.int mh)), some (.fz (.int sh)), some (.ol (sun.map rowD)), some (.ol (ds.map dlD)), v', some (.ol (ps.map pl)), none, none]) (ρ2 := [some (.fz (.scr ns)), some (.fz (.int md)), some (.fz (.int mw)), some (.fz (.int mh)), some (.fz (.int sh)), some (.ol (sun.map rowD)), some (.ol (ds.map dlD)), v', some (.fz (.lst (ps.map pl))), none, none]) (ρ3 := [some (.fz (.scr ns)), some (.fz (.int md)), some (.fz (.int mw)), some (.fz (.int mh)), some (.fz (.int sh)), none, none, none, some (.fz (.lst (ps.map pl))), none, none])
    (ds := (List.range ps.length).map fun k : Nat => D.int (0 + (k : Int))) (by simp only [run, exs, ex, evB, evM, evML, ev, evF, evA, evO, evT, evI, bndP, bndS, lift, liftS, own, callP, peekL, frzL, DY.peek, look, DY.get, DY.shl, DY.frz, nav, DY.put, blOf, intOf, lstOf, AV.erase, eraseL, binD, cmpD, bltD, isiD, asg, asgL, thin, thinD, thinL, ixP, Option.map_some, Option.map_none, Option.bind_some, Option.bind_none, List.map_cons, List.map_nil, List.length_cons, List.length_nil, List.replicate, List.cons_append, List.nil_append, List.append_nil, List.getElem?_cons_zero, List.getElem?_cons_succ, List.getElem?_nil, List.set_cons_zero, List.set_cons_succ, Nat.sub_self, Nat.reduceSub, Nat.reduceAdd, Bool.not_true, Bool.not_false, if_true, if_false, Bool.false_eq_true, eqD, eqDs, depth, depthL, Nat.zero_le, and_self, and_true, true_and, atZ_0, atZ_1, atZ_2, line_2, line_3, reduceCtorEq, Bool.and_true, Bool.true_and, Bool.and_false, Bool.false_and, Bool.or_true, Bool.or_false, Bool.true_or, Bool.false_or, List.all_cons, List.all_nil, line_1, Nat.reduceLeDiff, Nat.max_self, Nat.zero_max, Nat.max_zero, Int.reduceNe, Int.reduceEq, pz20, pz21, pz30, pz31, pz32, Cs_Fn (show i__law_wide < i__law_yard by decide), Cs_Fn (show i__law_sun < i__law_yard by decide), Cs_Fn (show i__law_dial < i__law_yard by decide), Cs_Fn (show i__law_fence < i__law_yard by decide), Cs_Fn (show i__law_name < i__law_yard by decide), List.length_map, s4, rangeD, Int.toNat_natCast]) (by rfl) (by rfl)
    (compL_range (g := fun k : Nat => .tup [.str (nmOf ns k), ((ps.map pl)[k]?).getD .non]) fun k hk => by
      have hk' := List.mem_range.mp hk
      have hn := F__law_name (ns := ns) (k := (k : Int)) (by omega) (by omega)
      have ha : atZ (ps.map pl) (k : Int) = some (((ps.map pl)[k]?).getD .non) := by rw [atZ_nat, List.getElem?_eq_getElem (by simpa using hk')]; rfl
      simp only [stepK, run, exs, ex, evB, evM, evML, ev, evF, evA, evO, evT, evI, bndP, bndS, lift, liftS, own, callP, peekL, frzL, DY.peek, look, DY.get, DY.shl, DY.frz, nav, DY.put, blOf, intOf, lstOf, AV.erase, eraseL, binD, cmpD, bltD, isiD, asg, asgL, thin, thinD, thinL, ixP, Option.map_some, Option.map_none, Option.bind_some, Option.bind_none, List.map_cons, List.map_nil, List.length_cons, List.length_nil, List.replicate, List.cons_append, List.nil_append, List.append_nil, List.getElem?_cons_zero, List.getElem?_cons_succ, List.getElem?_nil, List.set_cons_zero, List.set_cons_succ, Nat.sub_self, Nat.reduceSub, Nat.reduceAdd, Bool.not_true, Bool.not_false, if_true, if_false, Bool.false_eq_true, eqD, eqDs, depth, depthL, Nat.zero_le, and_self, and_true, true_and, atZ_0, atZ_1, atZ_2, line_2, line_3, reduceCtorEq, Bool.and_true, Bool.true_and, Bool.and_false, Bool.false_and, Bool.or_true, Bool.or_false, Bool.true_or, Bool.false_or, List.all_cons, List.all_nil, line_1, Nat.reduceLeDiff, Nat.max_self, Nat.zero_max, Nat.max_zero, Int.reduceNe, Int.reduceEq, pz20, pz21, pz30, pz31, pz32, Cs_Fn (show i__law_wide < i__law_yard by decide), Cs_Fn (show i__law_sun < i__law_yard by decide), Cs_Fn (show i__law_dial < i__law_yard by decide), Cs_Fn (show i__law_fence < i__law_yard by decide), Cs_Fn (show i__law_name < i__law_yard by decide), Int.zero_add, hn, ha]) (by rw [List.length_map, List.length_range]; exact Nat.le_of_lt (line_big (by omega)))
  rw [show (List.range ps.length).map (fun k : Nat => D.tup [.str (nmOf ns k), ((ps.map pl)[k]?).getD .non]) = (yardW (nmOf ns) ps).map thD from range_idx fun k hk => by simp [thD, hk]] at C1
  refine exs_step (ex_set C1) ?_
  have C2 := ev_cmpr (C := Cs G above Ds i__law_yard) (G := G) (above := above) (ow := [7]) (t := .nm 7) (it := .rng1 (.blt .len [.var 6])) (ifs := []) (e := .tup [.call i__law_name [.var 0, .bin .add (.int 20) (.var 7)], .ix (.ix (.var 6) (.var 7)) (.int 0), .ix (.ix (.var 6) (.var 7)) (.int 1)])
    (ρ := [some (.fz (.scr ns)), some (.fz (.int md)), some (.fz (.int mw)), some (.fz (.int mh)), some (.fz (.int sh)), some (.ol (sun.map rowD)), some (.ol (ds.map dlD)), v', some (.fz (.lst (ps.map pl))), some (.ol ((yardW (nmOf ns) ps).map thD)), none]) (ρ1 := [some (.fz (.scr ns)), some (.fz (.int md)), some (.fz (.int mw)), some (.fz (.int mh)), some (.fz (.int sh)), some (.ol (sun.map rowD)), some (.ol (ds.map dlD)), v', some (.fz (.lst (ps.map pl))), some (.ol ((yardW (nmOf ns) ps).map thD)), none]) (ρ2 := [some (.fz (.scr ns)), some (.fz (.int md)), some (.fz (.int mw)), some (.fz (.int mh)), some (.fz (.int sh)), some (.ol (sun.map rowD)), some (.fz (.lst (ds.map dlD))), v', some (.fz (.lst (ps.map pl))), some (.ol ((yardW (nmOf ns) ps).map thD)), none]) (ρ3 := [some (.fz (.scr ns)), some (.fz (.int md)), some (.fz (.int mw)), some (.fz (.int mh)), some (.fz (.int sh)), none, some (.fz (.lst (ds.map dlD))), none, some (.fz (.lst (ps.map pl))), none, none])
    (ds := (List.range ds.length).map fun k : Nat => D.int (0 + (k : Int))) (by simp only [run, exs, ex, evB, evM, evML, ev, evF, evA, evO, evT, evI, bndP, bndS, lift, liftS, own, callP, peekL, frzL, DY.peek, look, DY.get, DY.shl, DY.frz, nav, DY.put, blOf, intOf, lstOf, AV.erase, eraseL, binD, cmpD, bltD, isiD, asg, asgL, thin, thinD, thinL, ixP, Option.map_some, Option.map_none, Option.bind_some, Option.bind_none, List.map_cons, List.map_nil, List.length_cons, List.length_nil, List.replicate, List.cons_append, List.nil_append, List.append_nil, List.getElem?_cons_zero, List.getElem?_cons_succ, List.getElem?_nil, List.set_cons_zero, List.set_cons_succ, Nat.sub_self, Nat.reduceSub, Nat.reduceAdd, Bool.not_true, Bool.not_false, if_true, if_false, Bool.false_eq_true, eqD, eqDs, depth, depthL, Nat.zero_le, and_self, and_true, true_and, atZ_0, atZ_1, atZ_2, line_2, line_3, reduceCtorEq, Bool.and_true, Bool.true_and, Bool.and_false, Bool.false_and, Bool.or_true, Bool.or_false, Bool.true_or, Bool.false_or, List.all_cons, List.all_nil, line_1, Nat.reduceLeDiff, Nat.max_self, Nat.zero_max, Nat.max_zero, Int.reduceNe, Int.reduceEq, pz20, pz21, pz30, pz31, pz32, Cs_Fn (show i__law_wide < i__law_yard by decide), Cs_Fn (show i__law_sun < i__law_yard by decide), Cs_Fn (show i__law_dial < i__law_yard by decide), Cs_Fn (show i__law_fence < i__law_yard by decide), Cs_Fn (show i__law_name < i__law_yard by decide), List.length_map, s5, rangeD, Int.toNat_natCast]) (by rfl) (by rfl)
    (compL_range (g := fun k : Nat => ((ds[k]?).map fun x => D.tup [.str (nmOf ns (20 + k)), pl x.1, t3 x.2.1]).getD .non) fun k hk => by
      have hk' := List.mem_range.mp hk
      have hn := F__law_name (ns := ns) (k := 20 + (k : Int)) (by omega) (by omega)
      have ha : atZ (ds.map dlD) (k : Int) = some (dlD ds[k]) := by rw [atZ_nat, List.getElem?_eq_getElem (by simpa using hk'), List.getElem_map]
      simp only [stepK, run, exs, ex, evB, evM, evML, ev, evF, evA, evO, evT, evI, bndP, bndS, lift, liftS, own, callP, peekL, frzL, DY.peek, look, DY.get, DY.shl, DY.frz, nav, DY.put, blOf, intOf, lstOf, AV.erase, eraseL, binD, cmpD, bltD, isiD, asg, asgL, thin, thinD, thinL, ixP, Option.map_some, Option.map_none, Option.bind_some, Option.bind_none, List.map_cons, List.map_nil, List.length_cons, List.length_nil, List.replicate, List.cons_append, List.nil_append, List.append_nil, List.getElem?_cons_zero, List.getElem?_cons_succ, List.getElem?_nil, List.set_cons_zero, List.set_cons_succ, Nat.sub_self, Nat.reduceSub, Nat.reduceAdd, Bool.not_true, Bool.not_false, if_true, if_false, Bool.false_eq_true, eqD, eqDs, depth, depthL, Nat.zero_le, and_self, and_true, true_and, atZ_0, atZ_1, atZ_2, line_2, line_3, reduceCtorEq, Bool.and_true, Bool.true_and, Bool.and_false, Bool.false_and, Bool.or_true, Bool.or_false, Bool.true_or, Bool.false_or, List.all_cons, List.all_nil, line_1, Nat.reduceLeDiff, Nat.max_self, Nat.zero_max, Nat.max_zero, Int.reduceNe, Int.reduceEq, pz20, pz21, pz30, pz31, pz32, Cs_Fn (show i__law_wide < i__law_yard by decide), Cs_Fn (show i__law_sun < i__law_yard by decide), Cs_Fn (show i__law_dial < i__law_yard by decide), Cs_Fn (show i__law_fence < i__law_yard by decide), Cs_Fn (show i__law_name < i__law_yard by decide), Int.zero_add, hn, ha, dlD, List.getElem?_eq_getElem hk', Option.getD_some]) (by rw [List.length_map, List.length_range]; exact Nat.le_of_lt (line_big (by omega)))
  rw [show (List.range ds.length).map (fun k : Nat => ((ds[k]?).map fun x => D.tup [.str (nmOf ns (20 + k)), pl x.1, t3 x.2.1]).getD .non) = (yardD (nmOf ns) ds).map thD from range_idx fun k hk => by simp [thD, hk]] at C2
  refine exs_step (ex_set C2) (exs_ret ?_)
  simp only [run, exs, ex, evB, evM, evML, ev, evF, evA, evO, evT, evI, bndP, bndS, lift, liftS, own, callP, peekL, frzL, DY.peek, look, DY.get, DY.shl, DY.frz, nav, DY.put, blOf, intOf, lstOf, AV.erase, eraseL, binD, cmpD, bltD, isiD, asg, asgL, thin, thinD, thinL, ixP, Option.map_some, Option.map_none, Option.bind_some, Option.bind_none, List.map_cons, List.map_nil, List.length_cons, List.length_nil, List.replicate, List.cons_append, List.nil_append, List.append_nil, List.getElem?_cons_zero, List.getElem?_cons_succ, List.getElem?_nil, List.set_cons_zero, List.set_cons_succ, Nat.sub_self, Nat.reduceSub, Nat.reduceAdd, Bool.not_true, Bool.not_false, if_true, if_false, Bool.false_eq_true, eqD, eqDs, depth, depthL, Nat.zero_le, and_self, and_true, true_and, atZ_0, atZ_1, atZ_2, line_2, line_3, reduceCtorEq, Bool.and_true, Bool.true_and, Bool.and_false, Bool.false_and, Bool.or_true, Bool.or_false, Bool.true_or, Bool.false_or, List.all_cons, List.all_nil, line_1, Nat.reduceLeDiff, Nat.max_self, Nat.zero_max, Nat.max_zero, Int.reduceNe, Int.reduceEq, pz20, pz21, pz30, pz31, pz32]
end K37
set_option Elab.async false
set_option linter.all false
set_option maxRecDepth 100000
set_option maxHeartbeats 1000000
namespace K37
open DY
theorem F__law_without {x b : Td} {n : List Nat} (hx : ∀ ns, x = .hidden ns → ns.length < 60) : ∃ A, (A = .fz (tdA (lessT n x b)).erase ∨ A = tdA (lessT n x b)) ∧ F i__law_without [(tdA x).erase, .str n, (tdA b).erase] = .ok A := by
  rw [show F i__law_without = _ from Fn_at (d := d__law_without) rfl]
  have h01 : (0 + 1 ≤ 64) = True := by simp
  cases x with
  | down => exact ⟨_, .inl rfl, by simp only [tdA, lessT, AV.erase, d__law_without, b__law_without, run, exs, ex, evB, evM, evML, ev, evF, evA, evO, evT, evI, bndP, bndS, lift, liftS, own, callP, peekL, frzL, DY.peek, look, DY.get, DY.shl, DY.frz, nav, DY.put, blOf, intOf, lstOf, AV.erase, eraseL, binD, cmpD, bltD, isiD, asg, asgL, thin, thinD, thinL, ixP, Option.map_some, Option.map_none, Option.bind_some, Option.bind_none, List.map_cons, List.map_nil, List.length_cons, List.length_nil, List.replicate, List.cons_append, List.nil_append, List.append_nil, List.getElem?_cons_zero, List.getElem?_cons_succ, List.getElem?_nil, List.set_cons_zero, List.set_cons_succ, Nat.sub_self, Nat.reduceSub, Nat.reduceAdd, Bool.not_true, Bool.not_false, if_true, if_false, Bool.false_eq_true, eqD, eqDs, depth, depthL, Nat.zero_le, and_self, and_true, true_and, atZ_0, atZ_1, atZ_2, line_2, line_3, reduceCtorEq, Bool.and_true, Bool.true_and, Bool.and_false, Bool.false_and, Bool.or_true, Bool.or_false, Bool.true_or, Bool.false_or, List.all_cons, List.all_nil, line_1, Nat.reduceLeDiff, Nat.max_self, Nat.zero_max, Nat.max_zero, Int.reduceNe, Int.reduceEq, pz20, pz21, pz30, pz31, pz32]; rfl⟩
  | behind => exact ⟨_, .inl rfl, by simp only [tdA, lessT, AV.erase, d__law_without, b__law_without, run, exs, ex, evB, evM, evML, ev, evF, evA, evO, evT, evI, bndP, bndS, lift, liftS, own, callP, peekL, frzL, DY.peek, look, DY.get, DY.shl, DY.frz, nav, DY.put, blOf, intOf, lstOf, AV.erase, eraseL, binD, cmpD, bltD, isiD, asg, asgL, thin, thinD, thinL, ixP, Option.map_some, Option.map_none, Option.bind_some, Option.bind_none, List.map_cons, List.map_nil, List.length_cons, List.length_nil, List.replicate, List.cons_append, List.nil_append, List.append_nil, List.getElem?_cons_zero, List.getElem?_cons_succ, List.getElem?_nil, List.set_cons_zero, List.set_cons_succ, Nat.sub_self, Nat.reduceSub, Nat.reduceAdd, Bool.not_true, Bool.not_false, if_true, if_false, Bool.false_eq_true, eqD, eqDs, depth, depthL, Nat.zero_le, and_self, and_true, true_and, atZ_0, atZ_1, atZ_2, line_2, line_3, reduceCtorEq, Bool.and_true, Bool.true_and, Bool.and_false, Bool.false_and, Bool.or_true, Bool.or_false, Bool.true_or, Bool.false_or, List.all_cons, List.all_nil, line_1, Nat.reduceLeDiff, Nat.max_self, Nat.zero_max, Nat.max_zero, Int.reduceNe, Int.reduceEq, pz20, pz21, pz30, pz31, pz32]; rfl⟩
  | off s t => exact ⟨_, .inl rfl, by simp only [tdA, lessT, AV.erase, d__law_without, b__law_without, run, exs, ex, evB, evM, evML, ev, evF, evA, evO, evT, evI, bndP, bndS, lift, liftS, own, callP, peekL, frzL, DY.peek, look, DY.get, DY.shl, DY.frz, nav, DY.put, blOf, intOf, lstOf, AV.erase, eraseL, binD, cmpD, bltD, isiD, asg, asgL, thin, thinD, thinL, ixP, Option.map_some, Option.map_none, Option.bind_some, Option.bind_none, List.map_cons, List.map_nil, List.length_cons, List.length_nil, List.replicate, List.cons_append, List.nil_append, List.append_nil, List.getElem?_cons_zero, List.getElem?_cons_succ, List.getElem?_nil, List.set_cons_zero, List.set_cons_succ, Nat.sub_self, Nat.reduceSub, Nat.reduceAdd, Bool.not_true, Bool.not_false, if_true, if_false, Bool.false_eq_true, eqD, eqDs, depth, depthL, Nat.zero_le, and_self, and_true, true_and, atZ_0, atZ_1, atZ_2, line_2, line_3, reduceCtorEq, Bool.and_true, Bool.true_and, Bool.and_false, Bool.false_and, Bool.or_true, Bool.or_false, Bool.true_or, Bool.false_or, List.all_cons, List.all_nil, line_1, Nat.reduceLeDiff, Nat.max_self, Nat.zero_max, Nat.max_zero, Int.reduceNe, Int.reduceEq, pz20, pz21, pz30, pz31, pz32]; rfl⟩
  | read s t => exact ⟨_, .inl rfl, by simp only [tdA, lessT, AV.erase, d__law_without, b__law_without, run, exs, ex, evB, evM, evML, ev, evF, evA, evO, evT, evI, bndP, bndS, lift, liftS, own, callP, peekL, frzL, DY.peek, look, DY.get, DY.shl, DY.frz, nav, DY.put, blOf, intOf, lstOf, AV.erase, eraseL, binD, cmpD, bltD, isiD, asg, asgL, thin, thinD, thinL, ixP, Option.map_some, Option.map_none, Option.bind_some, Option.bind_none, List.map_cons, List.map_nil, List.length_cons, List.length_nil, List.replicate, List.cons_append, List.nil_append, List.append_nil, List.getElem?_cons_zero, List.getElem?_cons_succ, List.getElem?_nil, List.set_cons_zero, List.set_cons_succ, Nat.sub_self, Nat.reduceSub, Nat.reduceAdd, Bool.not_true, Bool.not_false, if_true, if_false, Bool.false_eq_true, eqD, eqDs, depth, depthL, Nat.zero_le, and_self, and_true, true_and, atZ_0, atZ_1, atZ_2, line_2, line_3, reduceCtorEq, Bool.and_true, Bool.true_and, Bool.and_false, Bool.false_and, Bool.or_true, Bool.or_false, Bool.true_or, Bool.false_or, List.all_cons, List.all_nil, line_1, Nat.reduceLeDiff, Nat.max_self, Nat.zero_max, Nat.max_zero, Int.reduceNe, Int.reduceEq, pz20, pz21, pz30, pz31, pz32]; rfl⟩
  | hidden ns =>
    have hl := hx ns rfl
    have dp := depth_strs ns
    have an : (ns.map D.str).any (fun d => eqD d (.str n)) = ns.any fun s => s == n := by
      rw [List.any_map]; rfl
    cases h1 : ns.any fun s => s == n with
    | false =>
      rw [h1] at an
      refine ⟨_, .inl rfl, ?_⟩
      simp only [tdA, lessT, AV.erase, eraseL, h1, d__law_without, b__law_without, run, exs, ex, evB, evM, evML, ev, evF, evA, evO, evT, evI, bndP, bndS, lift, liftS, own, callP, peekL, frzL, DY.peek, look, DY.get, DY.shl, DY.frz, nav, DY.put, blOf, intOf, lstOf, AV.erase, eraseL, binD, cmpD, bltD, isiD, asg, asgL, thin, thinD, thinL, ixP, Option.map_some, Option.map_none, Option.bind_some, Option.bind_none, List.map_cons, List.map_nil, List.length_cons, List.length_nil, List.replicate, List.cons_append, List.nil_append, List.append_nil, List.getElem?_cons_zero, List.getElem?_cons_succ, List.getElem?_nil, List.set_cons_zero, List.set_cons_succ, Nat.sub_self, Nat.reduceSub, Nat.reduceAdd, Bool.not_true, Bool.not_false, if_true, if_false, Bool.false_eq_true, eqD, eqDs, depth, depthL, Nat.zero_le, and_self, and_true, true_and, atZ_0, atZ_1, atZ_2, line_2, line_3, reduceCtorEq, Bool.and_true, Bool.true_and, Bool.and_false, Bool.false_and, Bool.or_true, Bool.or_false, Bool.true_or, Bool.false_or, List.all_cons, List.all_nil, line_1, Nat.reduceLeDiff, Nat.max_self, Nat.zero_max, Nat.max_zero, Int.reduceNe, Int.reduceEq, pz20, pz21, pz30, pz31, pz32, beq_self_eq_true, dp, an]
    | true =>
      rw [h1] at an
      have C1 := ev_cmpr (C := Cs G above Ds i__law_without) (G := G) (above := above) (ow := [4]) (t := .nm 4) (it := .seq (.ix (.var 0) (.int 1))) (ifs := [(.cmp .ne (.var 4) (.var 1))]) (e := .var 4)
        (ρ := [some (.fz (.tup [.str [104, 105, 100, 100, 101, 110], .lst (ns.map .str)])), some (.fz (.str n)), some (.fz (tdA b).erase), none, none]) (ρ1 := [some (.fz (.tup [.str [104, 105, 100, 100, 101, 110], .lst (ns.map .str)])), some (.fz (.str n)), some (.fz (tdA b).erase), none, none]) (ρ2 := [some (.fz (.tup [.str [104, 105, 100, 100, 101, 110], .lst (ns.map .str)])), some (.fz (.str n)), some (.fz (tdA b).erase), none, none]) (ρ3 := [some (.fz (.tup [.str [104, 105, 100, 100, 101, 110], .lst (ns.map .str)])), some (.fz (.str n)), some (.fz (tdA b).erase), none, none])
        (ds := ns.map .str) (by simp only [run, exs, ex, evB, evM, evML, ev, evF, evA, evO, evT, evI, bndP, bndS, lift, liftS, own, callP, peekL, frzL, DY.peek, look, DY.get, DY.shl, DY.frz, nav, DY.put, blOf, intOf, lstOf, AV.erase, eraseL, binD, cmpD, bltD, isiD, asg, asgL, thin, thinD, thinL, ixP, Option.map_some, Option.map_none, Option.bind_some, Option.bind_none, List.map_cons, List.map_nil, List.length_cons, List.length_nil, List.replicate, List.cons_append, List.nil_append, List.append_nil, List.getElem?_cons_zero, List.getElem?_cons_succ, List.getElem?_nil, List.set_cons_zero, List.set_cons_succ, Nat.sub_self, Nat.reduceSub, Nat.reduceAdd, Bool.not_true, Bool.not_false, if_true, if_false, Bool.false_eq_true, eqD, eqDs, depth, depthL, Nat.zero_le, and_self, and_true, true_and, atZ_0, atZ_1, atZ_2, line_2, line_3, reduceCtorEq, Bool.and_true, Bool.true_and, Bool.and_false, Bool.false_and, Bool.or_true, Bool.or_false, Bool.true_or, Bool.false_or, List.all_cons, List.all_nil, line_1, Nat.reduceLeDiff, Nat.max_self, Nat.zero_max, Nat.max_zero, Int.reduceNe, Int.reduceEq, pz20, pz21, pz30, pz31, pz32]) (by rfl) (by rfl)
        (compL_pick (xs := ns) (g := D.str) (c := fun s => !(s == n)) (k := D.str) fun s _ => by
          cases q : s == n <;> simp only [stepK, run, exs, ex, evB, evM, evML, ev, evF, evA, evO, evT, evI, bndP, bndS, lift, liftS, own, callP, peekL, frzL, DY.peek, look, DY.get, DY.shl, DY.frz, nav, DY.put, blOf, intOf, lstOf, AV.erase, eraseL, binD, cmpD, bltD, isiD, asg, asgL, thin, thinD, thinL, ixP, Option.map_some, Option.map_none, Option.bind_some, Option.bind_none, List.map_cons, List.map_nil, List.length_cons, List.length_nil, List.replicate, List.cons_append, List.nil_append, List.append_nil, List.getElem?_cons_zero, List.getElem?_cons_succ, List.getElem?_nil, List.set_cons_zero, List.set_cons_succ, Nat.sub_self, Nat.reduceSub, Nat.reduceAdd, Bool.not_true, Bool.not_false, if_true, if_false, Bool.false_eq_true, eqD, eqDs, depth, depthL, Nat.zero_le, and_self, and_true, true_and, atZ_0, atZ_1, atZ_2, line_2, line_3, reduceCtorEq, Bool.and_true, Bool.true_and, Bool.and_false, Bool.false_and, Bool.or_true, Bool.or_false, Bool.true_or, Bool.false_or, List.all_cons, List.all_nil, line_1, Nat.reduceLeDiff, Nat.max_self, Nat.zero_max, Nat.max_zero, Int.reduceNe, Int.reduceEq, pz20, pz21, pz30, pz31, pz32, q])
        (by rw [List.length_map]; exact Nat.le_of_lt (Nat.lt_of_le_of_lt (List.length_filter_le _ _) (line_big (by omega))))
      simp only [lessT, h1, if_true]
      generalize hf : ns.filter (fun s => !(s == n)) = fs at *
      have dp2 := depth_strs fs
      have ne := eqDs_nil fs
      cases h2 : fs.isEmpty with
      | true =>
        rw [h2] at ne
        refine ⟨_, .inl rfl, run_of (exs_step (ρ' := [some (.fz (.tup [.str [104, 105, 100, 100, 101, 110], .lst (ns.map .str)])), some (.fz (.str n)), some (.fz (tdA b).erase), none, none]) (by simp only [tdA, AV.erase, eraseL, d__law_without, b__law_without, run, exs, ex, evB, evM, evML, ev, evF, evA, evO, evT, evI, bndP, bndS, lift, liftS, own, callP, peekL, frzL, DY.peek, look, DY.get, DY.shl, DY.frz, nav, DY.put, blOf, intOf, lstOf, AV.erase, eraseL, binD, cmpD, bltD, isiD, asg, asgL, thin, thinD, thinL, ixP, Option.map_some, Option.map_none, Option.bind_some, Option.bind_none, List.map_cons, List.map_nil, List.length_cons, List.length_nil, List.replicate, List.cons_append, List.nil_append, List.append_nil, List.getElem?_cons_zero, List.getElem?_cons_succ, List.getElem?_nil, List.set_cons_zero, List.set_cons_succ, Nat.sub_self, Nat.reduceSub, Nat.reduceAdd, Bool.not_true, Bool.not_false, if_true, if_false, Bool.false_eq_true, eqD, eqDs, depth, depthL, Nat.zero_le, and_self, and_true, true_and, atZ_0, atZ_1, atZ_2, line_2, line_3, reduceCtorEq, Bool.and_true, Bool.true_and, Bool.and_false, Bool.false_and, Bool.or_true, Bool.or_false, Bool.true_or, Bool.false_or, List.all_cons, List.all_nil, line_1, Nat.reduceLeDiff, Nat.max_self, Nat.zero_max, Nat.max_zero, Int.reduceNe, Int.reduceEq, pz20, pz21, pz30, pz31, pz32, beq_self_eq_true, dp, an]) (exs_step (ex_set C1) ?_))⟩
        simp only [run, exs, ex, evB, evM, evML, ev, evF, evA, evO, evT, evI, bndP, bndS, lift, liftS, own, callP, peekL, frzL, DY.peek, look, DY.get, DY.shl, DY.frz, nav, DY.put, blOf, intOf, lstOf, AV.erase, eraseL, binD, cmpD, bltD, isiD, asg, asgL, thin, thinD, thinL, ixP, Option.map_some, Option.map_none, Option.bind_some, Option.bind_none, List.map_cons, List.map_nil, List.length_cons, List.length_nil, List.replicate, List.cons_append, List.nil_append, List.append_nil, List.getElem?_cons_zero, List.getElem?_cons_succ, List.getElem?_nil, List.set_cons_zero, List.set_cons_succ, Nat.sub_self, Nat.reduceSub, Nat.reduceAdd, Bool.not_true, Bool.not_false, if_true, if_false, Bool.false_eq_true, eqD, eqDs, depth, depthL, Nat.zero_le, and_self, and_true, true_and, atZ_0, atZ_1, atZ_2, line_2, line_3, reduceCtorEq, Bool.and_true, Bool.true_and, Bool.and_false, Bool.false_and, Bool.or_true, Bool.or_false, Bool.true_or, Bool.false_or, List.all_cons, List.all_nil, line_1, Nat.reduceLeDiff, Nat.max_self, Nat.zero_max, Nat.max_zero, Int.reduceNe, Int.reduceEq, pz20, pz21, pz30, pz31, pz32, dp2, ne, h01]
      | false =>
        rw [h2] at ne
        refine ⟨_, .inr rfl, run_of (exs_step (ρ' := [some (.fz (.tup [.str [104, 105, 100, 100, 101, 110], .lst (ns.map .str)])), some (.fz (.str n)), some (.fz (tdA b).erase), none, none]) (by simp only [tdA, AV.erase, eraseL, d__law_without, b__law_without, run, exs, ex, evB, evM, evML, ev, evF, evA, evO, evT, evI, bndP, bndS, lift, liftS, own, callP, peekL, frzL, DY.peek, look, DY.get, DY.shl, DY.frz, nav, DY.put, blOf, intOf, lstOf, AV.erase, eraseL, binD, cmpD, bltD, isiD, asg, asgL, thin, thinD, thinL, ixP, Option.map_some, Option.map_none, Option.bind_some, Option.bind_none, List.map_cons, List.map_nil, List.length_cons, List.length_nil, List.replicate, List.cons_append, List.nil_append, List.append_nil, List.getElem?_cons_zero, List.getElem?_cons_succ, List.getElem?_nil, List.set_cons_zero, List.set_cons_succ, Nat.sub_self, Nat.reduceSub, Nat.reduceAdd, Bool.not_true, Bool.not_false, if_true, if_false, Bool.false_eq_true, eqD, eqDs, depth, depthL, Nat.zero_le, and_self, and_true, true_and, atZ_0, atZ_1, atZ_2, line_2, line_3, reduceCtorEq, Bool.and_true, Bool.true_and, Bool.and_false, Bool.false_and, Bool.or_true, Bool.or_false, Bool.true_or, Bool.false_or, List.all_cons, List.all_nil, line_1, Nat.reduceLeDiff, Nat.max_self, Nat.zero_max, Nat.max_zero, Int.reduceNe, Int.reduceEq, pz20, pz21, pz30, pz31, pz32, beq_self_eq_true, dp, an]) (exs_step (ex_set C1) ?_))⟩
        simp only [tdA, run, exs, ex, evB, evM, evML, ev, evF, evA, evO, evT, evI, bndP, bndS, lift, liftS, own, callP, peekL, frzL, DY.peek, look, DY.get, DY.shl, DY.frz, nav, DY.put, blOf, intOf, lstOf, AV.erase, eraseL, binD, cmpD, bltD, isiD, asg, asgL, thin, thinD, thinL, ixP, Option.map_some, Option.map_none, Option.bind_some, Option.bind_none, List.map_cons, List.map_nil, List.length_cons, List.length_nil, List.replicate, List.cons_append, List.nil_append, List.append_nil, List.getElem?_cons_zero, List.getElem?_cons_succ, List.getElem?_nil, List.set_cons_zero, List.set_cons_succ, Nat.sub_self, Nat.reduceSub, Nat.reduceAdd, Bool.not_true, Bool.not_false, if_true, if_false, Bool.false_eq_true, eqD, eqDs, depth, depthL, Nat.zero_le, and_self, and_true, true_and, atZ_0, atZ_1, atZ_2, line_2, line_3, reduceCtorEq, Bool.and_true, Bool.true_and, Bool.and_false, Bool.false_and, Bool.or_true, Bool.or_false, Bool.true_or, Bool.false_or, List.all_cons, List.all_nil, line_1, Nat.reduceLeDiff, Nat.max_self, Nat.zero_max, Nat.max_zero, Int.reduceNe, Int.reduceEq, pz20, pz21, pz30, pz31, pz32, dp2, ne, h01]
theorem nm_inj (ns : List Int) : NmInj (nmOf ns) := by
  intro a b ha hb ha2 hb2 e
  unfold nmOf at e
  have h := nameS_inj e (fmod_bd (by decide)).1 (by rw [Int.fdiv_eq_ediv_of_nonneg _ (by decide)]; omega) (fmod_bd (by decide)).1 (by rw [Int.fdiv_eq_ediv_of_nonneg _ (by decide)]; omega)
  generalize (wide ns 60).fdiv 20 = p at *
  obtain ⟨h1, h2⟩ := h
  rw [Int.fmod_eq_emod_of_nonneg _ (by decide), Int.fmod_eq_emod_of_nonneg _ (by decide)] at h1
  rw [Int.fdiv_eq_ediv_of_nonneg _ (by decide), Int.fdiv_eq_ediv_of_nonneg _ (by decide)] at h2
  omega
theorem inner {sun : List (Int × T3)} {W Dl : List Th} {k : Nat} {number : Int} {r : Int × T3} {t : Th}
    (hY : YdOk 7 ⟨sun, W, Dl⟩) (hup : sun.Pairwise fun a b => a.1 < b.1) (hn : ((W ++ Dl).map (·.nm)).Nodup) (hk : W ≠ [] → k < W.length) (hr : r ∈ sun) (ht : t ∈ Dl) (s0 v9 v10 v11 v12 v13 v14 : Option AV) : ∃ u9 u10 u11 u12 u13 u14 : Option AV,
    body1 (Cs G above Ds i_law) G above (.tp [(.nm 9), (.nm 10), (.nm 11)]) L_law_1 (thD t) [s0, some (.fz (.lst (sun.map rowD))), some (.fz (.lst (W.map thD))), some (.fz (.lst (Dl.map thD))), some (.fz (.int number)), some (.fz (.int k)), some (.fz (ydD ⟨sun, W.eraseIdx k, Dl⟩)), some (.fz (.int r.1)), some (.fz (t3 r.2)), v9, v10, v11, v12, v13, v14] =
      .ok (.nx [s0, some (.fz (.lst (sun.map rowD))), some (.fz (.lst (W.map thD))), some (.fz (.lst (Dl.map thD))), some (.fz (.int number)), some (.fz (.int k)), some (.fz (ydD ⟨sun, W.eraseIdx k, Dl⟩)), some (.fz (.int r.1)), some (.fz (t3 r.2)), u9, u10, u11, u12, u13, u14]) := by
  obtain ⟨h, d⟩ := r
  have hs : sunAt sun h = some d := sunAt_of hup (h, d) hr
  have nd := nodup_right hn
  have d0 : dialAt ⟨sun, W, Dl⟩ t.nm = some t := dialAt_of (y := ⟨sun, W, Dl⟩) nd ht
  have d1 : dialAt ⟨sun, W.reverse, Dl.reverse⟩ t.nm = some t := dialAt_of (y := ⟨sun, W.reverse, Dl.reverse⟩) (by show (Dl.reverse.map (·.nm)).Nodup; rw [List.map_reverse]; exact (List.reverse_perm _).nodup_iff.mpr nd) (by show t ∈ Dl.reverse; simpa using ht)
  have d2 : dialAt ⟨[(h, d)], W, Dl⟩ t.nm = some t := d0
  have d3 : dialAt ⟨sun, [], [t]⟩ t.nm = some t := by unfold dialAt; simp
  have d4 : dialAt ⟨sun, W.eraseIdx k, Dl⟩ t.nm = some t := d0
  obtain ⟨a, ha⟩ := (hY.dials t ht).2
  have y1 : YdOk 7 ⟨sun, W.reverse, Dl.reverse⟩ := ⟨hY.sun, fun s hs => hY.walls s (by simpa using hs), fun s hs => hY.dials s (by simpa using hs), by simpa using hY.few⟩
  have y2 : YdOk 7 ⟨[(h, d)], W, Dl⟩ := ⟨fun s hs => by rw [List.mem_singleton.mp hs]; exact hY.sun (h, d) hr, hY.walls, hY.dials, hY.few⟩
  have y3 : YdOk 7 ⟨sun, [], [t]⟩ := ⟨hY.sun, (fun s hs => by cases hs), (fun s hs => by rw [List.mem_singleton.mp hs]; exact hY.dials t ht), by show 0 + 1 < 60; decide⟩
  have y4 : YdOk 7 ⟨sun, W.eraseIdx k, Dl⟩ := ⟨hY.sun, fun s hs => hY.walls s (List.mem_of_mem_eraseIdx hs), hY.dials, by
    have h1 := hY.few
    have h2 : (W.eraseIdx k).length ≤ W.length := List.length_eraseIdx_le W k
    show (W.eraseIdx k).length + Dl.length < 60
    have h3 : W.length + Dl.length < 60 := h1
    omega⟩
  have r0 := F_told_at hY (by decide) hs d0 ha
  have r1 := F_told_at y1 (by decide) hs d1 ha
  have r2 := F_told_at y2 (by decide) (by unfold sunAt; simp : sunAt [(h, d)] h = some d) d2 ha
  have r3' := F_told_at y3 (by decide) hs d3 ha
  have r4 := F_told_at y4 (by decide) hs d4 ha
  have e1 : tell ⟨sun, W.reverse, Dl.reverse⟩ t a d = tell ⟨sun, W, Dl⟩ t a d := tellBy_perm fun q => hid_rev.symm
  have e2 : tell ⟨[(h, d)], W, Dl⟩ t a d = tell ⟨sun, W, Dl⟩ t a d := rfl
  have e3 : tell ⟨sun, [], [t]⟩ t a d = tellBy (fun _ => []) t a d := by
    rw [tell_by]
    exact tellBy_perm fun q => by show (hid ⟨sun, [], [t]⟩ t.nm q d).Perm []; rw [hid_one]
  have e4 : ∀ w, W[k]? = some w → tell ⟨sun, W.eraseIdx k, Dl⟩ t a d = lessT w.nm (tell ⟨sun, W, Dl⟩ t a d) (tellBy (fun _ => []) t a d) := fun w hw => by
    rw [tell_by ⟨sun, W, Dl⟩, ← tell_less]
    exact tellBy_perm fun q => by show (hid ⟨sun, W.eraseIdx k, Dl⟩ t.nm q d).Perm _; rw [hid_less hn hw]
  have hfew := fun ns (e : tell ⟨sun, W, Dl⟩ t a d = .hidden ns) => tell_few hY e
  have hb1 : ∀ ns, tellBy (fun _ => []) t a d ≠ .hidden ns := fun ns => bare_not
  have hb2 : (∀ ns, tell ⟨sun, W, Dl⟩ t a d ≠ .hidden ns) → tell ⟨sun, W, Dl⟩ t a d = tellBy (fun _ => []) t a d := by
    rw [tell_by]
    exact tell_bare
  rw [e1] at r1
  rw [e2] at r2
  rw [e3] at r3'
  have hz : ∃ z, tell ⟨sun, W.eraseIdx k, Dl⟩ t a d = z ∧ (W = [] → z = tell ⟨sun, W, Dl⟩ t a d) := ⟨_, rfl, fun e => by subst e; rfl⟩
  obtain ⟨z, hz1, hz2⟩ := hz
  rw [hz1] at r4 e4
  generalize tell ⟨sun, W, Dl⟩ t a d = x at *
  generalize tellBy (fun _ => []) t a d = b at *
  have ey : thD t = .tup [.str t.nm, pl t.p, t3 a] := by simp only [thD, ha]
  simp only [ydD, List.map_reverse, List.map_cons, List.map_nil, rowD, ey] at r0 r1 r2 r3' r4
  have wle : W.length ≤ line := Nat.le_of_lt (line_big (by have h1 : W.length + Dl.length < 60 := hY.few; omega))
  have hd3 := depth_map (f := thD) (n := 3) (fun a => Nat.le_of_eq (depth_th a)) W
  have hd2 : (depthL (W.map thD) + 1 ≤ 64) = True := by simp; omega
  have h01 : (0 + 1 ≤ 64) = True := by simp
  have hE := eqDs_map_nil (f := thD) W
  have qx := eq_td x
  have qz := eq_td z
  have qb := eq_td b
  have px : depth (tdA x).erase ≤ 64 := by have := depth_td x; omega
  have pz : depth (tdA z).erase ≤ 64 := by have := depth_td z; omega
  have pb : depth (tdA b).erase ≤ 64 := by have := depth_td b; omega
  rcases td_cases b with ⟨sb, rb, B1, B2, B3, -⟩ | ⟨nb, B1⟩
  case inr => exact absurd B1 (hb1 nb)
  rw [B1] at r3'
  rw [B2] at qb pb
  have nsb : (sb == [104, 105, 100, 100, 101, 110]) = false := B3
  rcases Classical.em (W = []) with hW | hW
  · have ez := hz2 hW
    subst ez
    subst hW
    simp only [List.map_nil, List.eraseIdx_nil, List.reverse_nil] at *
    rcases td_cases z with ⟨sx, rx, X1, X2, X3, X4⟩ | ⟨nx, X1⟩
    · have exb := hb2 X4
      subst exb
      rw [X1] at r0 r1 r2 r4
      rw [X2] at qx px
      simp only [run, exs, ex, evB, evM, evML, ev, evF, evA, evO, evT, evI, bndP, bndS, lift, liftS, own, callP, peekL, frzL, DY.peek, look, DY.get, DY.shl, DY.frz, nav, DY.put, blOf, intOf, lstOf, AV.erase, eraseL, binD, cmpD, bltD, isiD, asg, asgL, thin, thinD, thinL, ixP, Option.map_some, Option.map_none, Option.bind_some, Option.bind_none, List.map_cons, List.map_nil, List.length_cons, List.length_nil, List.replicate, List.cons_append, List.nil_append, List.append_nil, List.getElem?_cons_zero, List.getElem?_cons_succ, List.getElem?_nil, List.set_cons_zero, List.set_cons_succ, Nat.sub_self, Nat.reduceSub, Nat.reduceAdd, Bool.not_true, Bool.not_false, if_true, if_false, Bool.false_eq_true, eqD, eqDs, depth, depthL, Nat.zero_le, and_self, and_true, true_and, atZ_0, atZ_1, atZ_2, line_2, line_3, reduceCtorEq, Bool.and_true, Bool.true_and, Bool.and_false, Bool.false_and, Bool.or_true, Bool.or_false, Bool.true_or, Bool.false_or, List.all_cons, List.all_nil, line_1, Nat.reduceLeDiff, Nat.max_self, Nat.zero_max, Nat.max_zero, Int.reduceNe, Int.reduceEq, pz20, pz21, pz30, pz31, pz32, beq_self_eq_true] at qx px
      have eb := B2.symm.trans X2
      simp only [D.tup.injEq, List.cons.injEq, D.str.injEq] at eb
      obtain ⟨eb1, eb2⟩ := eb
      subst eb1
      subst eb2
      exact ⟨_, _, _, _, _, _, by
        rw [ey]
        simp only [body1, ydD, run, exs, ex, evB, evM, evML, ev, evF, evA, evO, evT, evI, bndP, bndS, lift, liftS, own, callP, peekL, frzL, DY.peek, look, DY.get, DY.shl, DY.frz, nav, DY.put, blOf, intOf, lstOf, AV.erase, eraseL, binD, cmpD, bltD, isiD, asg, asgL, thin, thinD, thinL, ixP, Option.map_some, Option.map_none, Option.bind_some, Option.bind_none, List.map_cons, List.map_nil, List.length_cons, List.length_nil, List.replicate, List.cons_append, List.nil_append, List.append_nil, List.getElem?_cons_zero, List.getElem?_cons_succ, List.getElem?_nil, List.set_cons_zero, List.set_cons_succ, Nat.sub_self, Nat.reduceSub, Nat.reduceAdd, Bool.not_true, Bool.not_false, if_true, if_false, Bool.false_eq_true, eqD, eqDs, depth, depthL, Nat.zero_le, and_self, and_true, true_and, atZ_0, atZ_1, atZ_2, line_2, line_3, reduceCtorEq, Bool.and_true, Bool.true_and, Bool.and_false, Bool.false_and, Bool.or_true, Bool.or_false, Bool.true_or, Bool.false_or, List.all_cons, List.all_nil, line_1, Nat.reduceLeDiff, Nat.max_self, Nat.zero_max, Nat.max_zero, Int.reduceNe, Int.reduceEq, pz20, pz21, pz30, pz31, pz32, Cs_Fn (show i__law_yard < i_law by decide), Cs_Fn (show i__law_wide < i_law by decide), Cs_Fn (show i_told_at < i_law by decide), Cs_Fn (show i__law_without < i_law by decide), r0, r1, r2, r3', r4, qx, px, ite_self, List.reverse_nil, nsb, wle, List.map_nil, List.length_map, List.map_cons, beq_self_eq_true]
        rfl⟩
    · subst X1
      have dn := depth_strs nx
      have en := eqDs_strs nx
      simp only [tdA, AV.erase, eraseL] at r0 r1 r2 r4
      exact ⟨_, _, _, _, _, _, by
        rw [ey]
        simp only [body1, ydD, run, exs, ex, evB, evM, evML, ev, evF, evA, evO, evT, evI, bndP, bndS, lift, liftS, own, callP, peekL, frzL, DY.peek, look, DY.get, DY.shl, DY.frz, nav, DY.put, blOf, intOf, lstOf, AV.erase, eraseL, binD, cmpD, bltD, isiD, asg, asgL, thin, thinD, thinL, ixP, Option.map_some, Option.map_none, Option.bind_some, Option.bind_none, List.map_cons, List.map_nil, List.length_cons, List.length_nil, List.replicate, List.cons_append, List.nil_append, List.append_nil, List.getElem?_cons_zero, List.getElem?_cons_succ, List.getElem?_nil, List.set_cons_zero, List.set_cons_succ, Nat.sub_self, Nat.reduceSub, Nat.reduceAdd, Bool.not_true, Bool.not_false, if_true, if_false, Bool.false_eq_true, eqD, eqDs, depth, depthL, Nat.zero_le, and_self, and_true, true_and, atZ_0, atZ_1, atZ_2, line_2, line_3, reduceCtorEq, Bool.and_true, Bool.true_and, Bool.and_false, Bool.false_and, Bool.or_true, Bool.or_false, Bool.true_or, Bool.false_or, List.all_cons, List.all_nil, line_1, Nat.reduceLeDiff, Nat.max_self, Nat.zero_max, Nat.max_zero, Int.reduceNe, Int.reduceEq, pz20, pz21, pz30, pz31, pz32, Cs_Fn (show i__law_yard < i_law by decide), Cs_Fn (show i__law_wide < i_law by decide), Cs_Fn (show i_told_at < i_law by decide), Cs_Fn (show i__law_without < i_law by decide), r0, r1, r2, r3', r4, dn, en, ite_self, List.reverse_nil, nsb, wle, List.map_nil, List.length_map, List.map_cons, beq_self_eq_true]
        rfl⟩
  · have hkl : k < W.length := hk hW
    obtain ⟨w, hw⟩ : ∃ w, W[k]? = some w := ⟨_, List.getElem?_eq_getElem hkl⟩
    have hE2 : eqDs (W.map thD) [] = false := by rw [hE]; cases W with | nil => exact absurd rfl hW | cons _ _ => rfl
    have ez := e4 w hw
    obtain ⟨A, hA, rA⟩ := F__law_without (x := x) (b := b) (n := w.nm) hfew
    rw [← ez] at hA
    have hat : atZ (W.map thD) (k : Int) = some (thD w) := by rw [atZ_nat, List.getElem?_map, hw]; rfl
    have ew : thD w = .tup (.str w.nm :: pl w.p :: (match w.tip with | some a => [t3 a] | none => [])) := rfl
    rw [ew] at hat
    generalize (match w.tip with | some a => [t3 a] | none => []) = wr at *
    rw [B2] at rA
    have main : (∃ s r, A = .fz (.tup (.str s :: r)) ∧ (tdA z).erase = .tup (.str s :: r) ∧ tdA z = .fz (.tup (.str s :: r))) ∨ ∃ nz, z = .hidden nz ∧ (A = tdA z ∨ A = .fz (tdA z).erase) := by
      rcases td_cases z with ⟨sz, rz, Z1, Z2, -, -⟩ | ⟨nz, Z1⟩
      · refine .inl ⟨sz, rz, ?_, Z2, Z1⟩
        rcases hA with h | h
        · rw [h, Z2]
        · rw [h, Z1]
      · exact .inr ⟨nz, Z1, hA.symm⟩
    rcases td_cases x with ⟨sx, rx, X1, X2, X3, X4⟩ | ⟨nx, X1⟩
    · have exb := hb2 X4
      subst exb
      rw [X1] at r0 r1 r2
      rw [X2] at qx px rA
      simp only [run, exs, ex, evB, evM, evML, ev, evF, evA, evO, evT, evI, bndP, bndS, lift, liftS, own, callP, peekL, frzL, DY.peek, look, DY.get, DY.shl, DY.frz, nav, DY.put, blOf, intOf, lstOf, AV.erase, eraseL, binD, cmpD, bltD, isiD, asg, asgL, thin, thinD, thinL, ixP, Option.map_some, Option.map_none, Option.bind_some, Option.bind_none, List.map_cons, List.map_nil, List.length_cons, List.length_nil, List.replicate, List.cons_append, List.nil_append, List.append_nil, List.getElem?_cons_zero, List.getElem?_cons_succ, List.getElem?_nil, List.set_cons_zero, List.set_cons_succ, Nat.sub_self, Nat.reduceSub, Nat.reduceAdd, Bool.not_true, Bool.not_false, if_true, if_false, Bool.false_eq_true, eqD, eqDs, depth, depthL, Nat.zero_le, and_self, and_true, true_and, atZ_0, atZ_1, atZ_2, line_2, line_3, reduceCtorEq, Bool.and_true, Bool.true_and, Bool.and_false, Bool.false_and, Bool.or_true, Bool.or_false, Bool.true_or, Bool.false_or, List.all_cons, List.all_nil, line_1, Nat.reduceLeDiff, Nat.max_self, Nat.zero_max, Nat.max_zero, Int.reduceNe, Int.reduceEq, pz20, pz21, pz30, pz31, pz32, beq_self_eq_true] at qx px
      have eb := B2.symm.trans X2
      simp only [D.tup.injEq, List.cons.injEq, D.str.injEq] at eb
      obtain ⟨eb1, eb2⟩ := eb
      subst eb1
      subst eb2
      rcases main with ⟨sz, rz, hA1, hA2, Z1⟩ | ⟨nz, hz0, hA'⟩
      · subst hA1
        rw [hA2] at qz pz
        rw [Z1] at r4
        simp only [run, exs, ex, evB, evM, evML, ev, evF, evA, evO, evT, evI, bndP, bndS, lift, liftS, own, callP, peekL, frzL, DY.peek, look, DY.get, DY.shl, DY.frz, nav, DY.put, blOf, intOf, lstOf, AV.erase, eraseL, binD, cmpD, bltD, isiD, asg, asgL, thin, thinD, thinL, ixP, Option.map_some, Option.map_none, Option.bind_some, Option.bind_none, List.map_cons, List.map_nil, List.length_cons, List.length_nil, List.replicate, List.cons_append, List.nil_append, List.append_nil, List.getElem?_cons_zero, List.getElem?_cons_succ, List.getElem?_nil, List.set_cons_zero, List.set_cons_succ, Nat.sub_self, Nat.reduceSub, Nat.reduceAdd, Bool.not_true, Bool.not_false, if_true, if_false, Bool.false_eq_true, eqD, eqDs, depth, depthL, Nat.zero_le, and_self, and_true, true_and, atZ_0, atZ_1, atZ_2, line_2, line_3, reduceCtorEq, Bool.and_true, Bool.true_and, Bool.and_false, Bool.false_and, Bool.or_true, Bool.or_false, Bool.true_or, Bool.false_or, List.all_cons, List.all_nil, line_1, Nat.reduceLeDiff, Nat.max_self, Nat.zero_max, Nat.max_zero, Int.reduceNe, Int.reduceEq, pz20, pz21, pz30, pz31, pz32, beq_self_eq_true] at qz pz
        exact ⟨_, _, _, _, _, _, by
          rw [ey]
          simp only [body1, ydD, run, exs, ex, evB, evM, evML, ev, evF, evA, evO, evT, evI, bndP, bndS, lift, liftS, own, callP, peekL, frzL, DY.peek, look, DY.get, DY.shl, DY.frz, nav, DY.put, blOf, intOf, lstOf, AV.erase, eraseL, binD, cmpD, bltD, isiD, asg, asgL, thin, thinD, thinL, ixP, Option.map_some, Option.map_none, Option.bind_some, Option.bind_none, List.map_cons, List.map_nil, List.length_cons, List.length_nil, List.replicate, List.cons_append, List.nil_append, List.append_nil, List.getElem?_cons_zero, List.getElem?_cons_succ, List.getElem?_nil, List.set_cons_zero, List.set_cons_succ, Nat.sub_self, Nat.reduceSub, Nat.reduceAdd, Bool.not_true, Bool.not_false, if_true, if_false, Bool.false_eq_true, eqD, eqDs, depth, depthL, Nat.zero_le, and_self, and_true, true_and, atZ_0, atZ_1, atZ_2, line_2, line_3, reduceCtorEq, Bool.and_true, Bool.true_and, Bool.and_false, Bool.false_and, Bool.or_true, Bool.or_false, Bool.true_or, Bool.false_or, List.all_cons, List.all_nil, line_1, Nat.reduceLeDiff, Nat.max_self, Nat.zero_max, Nat.max_zero, Int.reduceNe, Int.reduceEq, pz20, pz21, pz30, pz31, pz32, Cs_Fn (show i__law_yard < i_law by decide), Cs_Fn (show i__law_wide < i_law by decide), Cs_Fn (show i_told_at < i_law by decide), Cs_Fn (show i__law_without < i_law by decide), r0, r1, r2, r3', r4, rA, qx, px, qz, pz, hE2, hd2, h01, hat, ite_self, nsb, wle, List.map_nil, List.length_map, List.map_cons, beq_self_eq_true]
          rfl⟩
      · subst hz0
        have dz := depth_strs nz
        have fz := eqDs_strs nz
        rcases hA' with hA' | hA'
        all_goals
          subst hA'
          simp only [tdA, AV.erase, eraseL] at r4 rA
          exact ⟨_, _, _, _, _, _, by
            rw [ey]
            simp only [body1, ydD, tdA, run, exs, ex, evB, evM, evML, ev, evF, evA, evO, evT, evI, bndP, bndS, lift, liftS, own, callP, peekL, frzL, DY.peek, look, DY.get, DY.shl, DY.frz, nav, DY.put, blOf, intOf, lstOf, AV.erase, eraseL, binD, cmpD, bltD, isiD, asg, asgL, thin, thinD, thinL, ixP, Option.map_some, Option.map_none, Option.bind_some, Option.bind_none, List.map_cons, List.map_nil, List.length_cons, List.length_nil, List.replicate, List.cons_append, List.nil_append, List.append_nil, List.getElem?_cons_zero, List.getElem?_cons_succ, List.getElem?_nil, List.set_cons_zero, List.set_cons_succ, Nat.sub_self, Nat.reduceSub, Nat.reduceAdd, Bool.not_true, Bool.not_false, if_true, if_false, Bool.false_eq_true, eqD, eqDs, depth, depthL, Nat.zero_le, and_self, and_true, true_and, atZ_0, atZ_1, atZ_2, line_2, line_3, reduceCtorEq, Bool.and_true, Bool.true_and, Bool.and_false, Bool.false_and, Bool.or_true, Bool.or_false, Bool.true_or, Bool.false_or, List.all_cons, List.all_nil, line_1, Nat.reduceLeDiff, Nat.max_self, Nat.zero_max, Nat.max_zero, Int.reduceNe, Int.reduceEq, pz20, pz21, pz30, pz31, pz32, Cs_Fn (show i__law_yard < i_law by decide), Cs_Fn (show i__law_wide < i_law by decide), Cs_Fn (show i_told_at < i_law by decide), Cs_Fn (show i__law_without < i_law by decide), r0, r1, r2, r3', r4, rA, qx, px, dz, fz, hE2, hd2, h01, hat, ite_self, nsb, wle, List.map_nil, List.length_map, List.map_cons, beq_self_eq_true]
            rfl⟩
    · subst X1
      have dn := depth_strs nx
      have en := eqDs_strs nx
      simp only [tdA, AV.erase, eraseL] at r0 r1 r2 rA
      rcases main with ⟨sz, rz, hA1, hA2, Z1⟩ | ⟨nz, hz0, hA'⟩
      · subst hA1
        rw [hA2] at qz pz
        rw [Z1] at r4
        simp only [run, exs, ex, evB, evM, evML, ev, evF, evA, evO, evT, evI, bndP, bndS, lift, liftS, own, callP, peekL, frzL, DY.peek, look, DY.get, DY.shl, DY.frz, nav, DY.put, blOf, intOf, lstOf, AV.erase, eraseL, binD, cmpD, bltD, isiD, asg, asgL, thin, thinD, thinL, ixP, Option.map_some, Option.map_none, Option.bind_some, Option.bind_none, List.map_cons, List.map_nil, List.length_cons, List.length_nil, List.replicate, List.cons_append, List.nil_append, List.append_nil, List.getElem?_cons_zero, List.getElem?_cons_succ, List.getElem?_nil, List.set_cons_zero, List.set_cons_succ, Nat.sub_self, Nat.reduceSub, Nat.reduceAdd, Bool.not_true, Bool.not_false, if_true, if_false, Bool.false_eq_true, eqD, eqDs, depth, depthL, Nat.zero_le, and_self, and_true, true_and, atZ_0, atZ_1, atZ_2, line_2, line_3, reduceCtorEq, Bool.and_true, Bool.true_and, Bool.and_false, Bool.false_and, Bool.or_true, Bool.or_false, Bool.true_or, Bool.false_or, List.all_cons, List.all_nil, line_1, Nat.reduceLeDiff, Nat.max_self, Nat.zero_max, Nat.max_zero, Int.reduceNe, Int.reduceEq, pz20, pz21, pz30, pz31, pz32, beq_self_eq_true] at qz pz
        exact ⟨_, _, _, _, _, _, by
          rw [ey]
          simp only [body1, ydD, tdA, run, exs, ex, evB, evM, evML, ev, evF, evA, evO, evT, evI, bndP, bndS, lift, liftS, own, callP, peekL, frzL, DY.peek, look, DY.get, DY.shl, DY.frz, nav, DY.put, blOf, intOf, lstOf, AV.erase, eraseL, binD, cmpD, bltD, isiD, asg, asgL, thin, thinD, thinL, ixP, Option.map_some, Option.map_none, Option.bind_some, Option.bind_none, List.map_cons, List.map_nil, List.length_cons, List.length_nil, List.replicate, List.cons_append, List.nil_append, List.append_nil, List.getElem?_cons_zero, List.getElem?_cons_succ, List.getElem?_nil, List.set_cons_zero, List.set_cons_succ, Nat.sub_self, Nat.reduceSub, Nat.reduceAdd, Bool.not_true, Bool.not_false, if_true, if_false, Bool.false_eq_true, eqD, eqDs, depth, depthL, Nat.zero_le, and_self, and_true, true_and, atZ_0, atZ_1, atZ_2, line_2, line_3, reduceCtorEq, Bool.and_true, Bool.true_and, Bool.and_false, Bool.false_and, Bool.or_true, Bool.or_false, Bool.true_or, Bool.false_or, List.all_cons, List.all_nil, line_1, Nat.reduceLeDiff, Nat.max_self, Nat.zero_max, Nat.max_zero, Int.reduceNe, Int.reduceEq, pz20, pz21, pz30, pz31, pz32, Cs_Fn (show i__law_yard < i_law by decide), Cs_Fn (show i__law_wide < i_law by decide), Cs_Fn (show i_told_at < i_law by decide), Cs_Fn (show i__law_without < i_law by decide), r0, r1, r2, r3', r4, rA, dn, en, qz, pz, hE2, hd2, h01, hat, ite_self, nsb, wle, List.map_nil, List.length_map, List.map_cons, beq_self_eq_true]
          rfl⟩
      · subst hz0
        have dz := depth_strs nz
        have fz := eqDs_strs nz
        rcases hA' with hA' | hA'
        all_goals
          subst hA'
          simp only [tdA, AV.erase, eraseL] at r4 rA
          exact ⟨_, _, _, _, _, _, by
            rw [ey]
            simp only [body1, ydD, tdA, run, exs, ex, evB, evM, evML, ev, evF, evA, evO, evT, evI, bndP, bndS, lift, liftS, own, callP, peekL, frzL, DY.peek, look, DY.get, DY.shl, DY.frz, nav, DY.put, blOf, intOf, lstOf, AV.erase, eraseL, binD, cmpD, bltD, isiD, asg, asgL, thin, thinD, thinL, ixP, Option.map_some, Option.map_none, Option.bind_some, Option.bind_none, List.map_cons, List.map_nil, List.length_cons, List.length_nil, List.replicate, List.cons_append, List.nil_append, List.append_nil, List.getElem?_cons_zero, List.getElem?_cons_succ, List.getElem?_nil, List.set_cons_zero, List.set_cons_succ, Nat.sub_self, Nat.reduceSub, Nat.reduceAdd, Bool.not_true, Bool.not_false, if_true, if_false, Bool.false_eq_true, eqD, eqDs, depth, depthL, Nat.zero_le, and_self, and_true, true_and, atZ_0, atZ_1, atZ_2, line_2, line_3, reduceCtorEq, Bool.and_true, Bool.true_and, Bool.and_false, Bool.false_and, Bool.or_true, Bool.or_false, Bool.true_or, Bool.false_or, List.all_cons, List.all_nil, line_1, Nat.reduceLeDiff, Nat.max_self, Nat.zero_max, Nat.max_zero, Int.reduceNe, Int.reduceEq, pz20, pz21, pz30, pz31, pz32, Cs_Fn (show i__law_yard < i_law by decide), Cs_Fn (show i__law_wide < i_law by decide), Cs_Fn (show i_told_at < i_law by decide), Cs_Fn (show i__law_without < i_law by decide), r0, r1, r2, r3', r4, rA, dn, en, dz, fz, hE2, hd2, h01, hat, ite_self, nsb, wle, List.map_nil, List.length_map, List.map_cons, beq_self_eq_true]
            rfl⟩
end K37
set_option Elab.async false
set_option linter.all false
set_option maxRecDepth 100000
set_option maxHeartbeats 1000000
namespace K37
open DY
theorem F_law {ns : List Int} : F i_law [.scr ns] = .ok (.fz (.bl true)) := by
  rw [show F i_law = _ from Fn_at (d := d_law) rfl]
  obtain ⟨sun, ds, ps, hsun, hsl, ⟨hdl, hds⟩, ⟨hpl, hps⟩, hy⟩ := F__law_yard (ns := ns) (md := 5) (mw := 5) (mh := 8) (by decide) (by decide) (by decide) (by decide)
  obtain ⟨w, hw0, _, hw⟩ := F__law_wide (ns := ns) (k := 0) (by decide) (by unfold Bt; decide)
  have hW0 : ∀ t ∈ yardW (nmOf ns) ps, ThOk 7 t := fun t ht => by
    obtain ⟨k, p, _, hp, e⟩ := mem_yardW ht
    rw [e]; exact (hps p hp).th
  have hD0 : ∀ t ∈ yardD (nmOf ns) ds, ThOk 7 t ∧ ∃ a, t.tip = some a := fun t ht => by
    obtain ⟨k, x, _, hx, e⟩ := mem_yardD ht
    rw [e]; exact ⟨(hds x hx).th, _, rfl⟩
  have lW : (yardW (nmOf ns) ps).length ≤ 5 := by rw [len_yardW]; exact hpl
  have lD : (yardD (nmOf ns) ds).length ≤ 5 := by rw [len_yardD]; exact hdl
  have hnn := names_nodup (nm_inj ns) (ps := ps) (ds := ds) (by omega) (by omega)
  generalize yardW (nmOf ns) ps = W at *
  generalize yardD (nmOf ns) ds = Dl at *
  have hY : YdOk 7 ⟨sun, W, Dl⟩ := ⟨fun r hr => (hsun.dir r hr).b3 (by decide), hW0, hD0, by show W.length + Dl.length < 60; omega⟩
  have p10 : powOk 10 10 := by decide
  have e10 : (10 : Int) ^ Int.toNat 10 = 10000000000 := by decide
  have dv10 : divOk 10000000000 := by decide
  have hd := depth_map (f := thD) (n := 3) (fun a => Nat.le_of_eq (depth_th a)) W
  have hd2 : (depthL (W.map thD) + 1 ≤ 64) = True := by simp; omega
  have h01 : (0 + 1 ≤ 64) = True := by simp
  have he := eqDs_map_nil (f := thD) W
  have x1 : ∃ k : Nat, (W ≠ [] → k < W.length) ∧ k ≤ W.length ∧ exs (Cs G above Ds i_law) G above [.set (.nm 5) (.int 0), .ite (.cmp .ne (.var 2) (.lst [])) [.set (.nm 5) (.bin .mod (.var 4) (.blt .len [(.var 2)]))] []]
      [some (.fz (.scr ns)), some (.fz (.lst (sun.map rowD))), some (.fz (.lst (W.map thD))), some (.fz (.lst (Dl.map thD))), some (.fz (.int (w.fdiv 10000000000))), none, none, none, none, none, none, none, none, none, none] =
      .ok (.nx [some (.fz (.scr ns)), some (.fz (.lst (sun.map rowD))), some (.fz (.lst (W.map thD))), some (.fz (.lst (Dl.map thD))), some (.fz (.int (w.fdiv 10000000000))), some (.fz (.int k)), none, none, none, none, none, none, none, none, none]) := by
    cases hw : W.isEmpty with
    | true =>
      rw [hw] at he
      exact ⟨0, fun h => absurd (List.isEmpty_iff.mp hw) h, by omega, by simp only [run, exs, ex, evB, evM, evML, ev, evF, evA, evO, evT, evI, bndP, bndS, lift, liftS, own, callP, peekL, frzL, DY.peek, look, DY.get, DY.shl, DY.frz, nav, DY.put, blOf, intOf, lstOf, AV.erase, eraseL, binD, cmpD, bltD, isiD, asg, asgL, thin, thinD, thinL, ixP, Option.map_some, Option.map_none, Option.bind_some, Option.bind_none, List.map_cons, List.map_nil, List.length_cons, List.length_nil, List.replicate, List.cons_append, List.nil_append, List.append_nil, List.getElem?_cons_zero, List.getElem?_cons_succ, List.getElem?_nil, List.set_cons_zero, List.set_cons_succ, Nat.sub_self, Nat.reduceSub, Nat.reduceAdd, Bool.not_true, Bool.not_false, if_true, if_false, Bool.false_eq_true, eqD, eqDs, depth, depthL, Nat.zero_le, and_self, and_true, true_and, atZ_0, atZ_1, atZ_2, line_2, line_3, reduceCtorEq, Bool.and_true, Bool.true_and, Bool.and_false, Bool.false_and, Bool.or_true, Bool.or_false, Bool.true_or, Bool.false_or, List.all_cons, List.all_nil, line_1, Nat.reduceLeDiff, Nat.max_self, Nat.zero_max, Nat.max_zero, Int.reduceNe, Int.reduceEq, pz20, pz21, pz30, pz31, pz32, Cs_Fn (show i__law_yard < i_law by decide), Cs_Fn (show i__law_wide < i_law by decide), Cs_Fn (show i_told_at < i_law by decide), Cs_Fn (show i__law_without < i_law by decide), hd2, h01, he]; rfl⟩
    | false =>
      rw [hw] at he
      have hl0 : (0 : Int) < (W.length : Int) := by cases W with | nil => cases hw | cons _ _ => rw [List.length_cons]; omega
      have hln : ¬ ((W.length : Int) = 0) := by omega
      have fb := fmod_bd (a := w.fdiv 10000000000) hl0
      exact ⟨((w.fdiv 10000000000).fmod W.length).toNat, fun _ => by omega, by omega, by simp only [run, exs, ex, evB, evM, evML, ev, evF, evA, evO, evT, evI, bndP, bndS, lift, liftS, own, callP, peekL, frzL, DY.peek, look, DY.get, DY.shl, DY.frz, nav, DY.put, blOf, intOf, lstOf, AV.erase, eraseL, binD, cmpD, bltD, isiD, asg, asgL, thin, thinD, thinL, ixP, Option.map_some, Option.map_none, Option.bind_some, Option.bind_none, List.map_cons, List.map_nil, List.length_cons, List.length_nil, List.replicate, List.cons_append, List.nil_append, List.append_nil, List.getElem?_cons_zero, List.getElem?_cons_succ, List.getElem?_nil, List.set_cons_zero, List.set_cons_succ, Nat.sub_self, Nat.reduceSub, Nat.reduceAdd, Bool.not_true, Bool.not_false, if_true, if_false, Bool.false_eq_true, eqD, eqDs, depth, depthL, Nat.zero_le, and_self, and_true, true_and, atZ_0, atZ_1, atZ_2, line_2, line_3, reduceCtorEq, Bool.and_true, Bool.true_and, Bool.and_false, Bool.false_and, Bool.or_true, Bool.or_false, Bool.true_or, Bool.false_or, List.all_cons, List.all_nil, line_1, Nat.reduceLeDiff, Nat.max_self, Nat.zero_max, Nat.max_zero, Int.reduceNe, Int.reduceEq, pz20, pz21, pz30, pz31, pz32, Cs_Fn (show i__law_yard < i_law by decide), Cs_Fn (show i__law_wide < i_law by decide), Cs_Fn (show i_told_at < i_law by decide), Cs_Fn (show i__law_without < i_law by decide), hd2, h01, he, hln, List.length_map, ne_eq, not_false_eq_true, Int.toNat_of_nonneg fb.1]⟩
  obtain ⟨k, hk1, hk2, x1⟩ := x1
  have sl := slice_cut (W.map thD) k (by rw [List.length_map]; exact hk2)
  rw [eraseIdx_map] at sl
  have sll : (slice (W.map thD) none (some (k : Int))).length + (slice (W.map thD) (some ((k : Int) + 1)) none).length ≤ line := by
    have := congrArg List.length sl
    rw [List.length_append, List.length_map] at this
    rw [this]
    have := List.length_eraseIdx_le W k
    exact Nat.le_of_lt (line_big (by omega))
  refine run_of (exs_step (ρ' := [some (.fz (.scr ns)), some (.fz (.lst (sun.map rowD))), some (.fz (.lst (W.map thD))), some (.fz (.lst (Dl.map thD))), none, none, none, none, none, none, none, none, none, none, none]) (by simp only [d_law, b_law, run, exs, ex, evB, evM, evML, ev, evF, evA, evO, evT, evI, bndP, bndS, lift, liftS, own, callP, peekL, frzL, DY.peek, look, DY.get, DY.shl, DY.frz, nav, DY.put, blOf, intOf, lstOf, AV.erase, eraseL, binD, cmpD, bltD, isiD, asg, asgL, thin, thinD, thinL, ixP, Option.map_some, Option.map_none, Option.bind_some, Option.bind_none, List.map_cons, List.map_nil, List.length_cons, List.length_nil, List.replicate, List.cons_append, List.nil_append, List.append_nil, List.getElem?_cons_zero, List.getElem?_cons_succ, List.getElem?_nil, List.set_cons_zero, List.set_cons_succ, Nat.sub_self, Nat.reduceSub, Nat.reduceAdd, Bool.not_true, Bool.not_false, if_true, if_false, Bool.false_eq_true, eqD, eqDs, depth, depthL, Nat.zero_le, and_self, and_true, true_and, atZ_0, atZ_1, atZ_2, line_2, line_3, reduceCtorEq, Bool.and_true, Bool.true_and, Bool.and_false, Bool.false_and, Bool.or_true, Bool.or_false, Bool.true_or, Bool.false_or, List.all_cons, List.all_nil, line_1, Nat.reduceLeDiff, Nat.max_self, Nat.zero_max, Nat.max_zero, Int.reduceNe, Int.reduceEq, pz20, pz21, pz30, pz31, pz32, Cs_Fn (show i__law_yard < i_law by decide), Cs_Fn (show i__law_wide < i_law by decide), Cs_Fn (show i_told_at < i_law by decide), Cs_Fn (show i__law_without < i_law by decide), show F i__law_yard [.scr ns, .int 5, .int 5, .int 8] = _ from hy]) ?_)
  refine exs_step (ρ' := [some (.fz (.scr ns)), some (.fz (.lst (sun.map rowD))), some (.fz (.lst (W.map thD))), some (.fz (.lst (Dl.map thD))), some (.fz (.int (w.fdiv 10000000000))), none, none, none, none, none, none, none, none, none, none]) (by simp only [run, exs, ex, evB, evM, evML, ev, evF, evA, evO, evT, evI, bndP, bndS, lift, liftS, own, callP, peekL, frzL, DY.peek, look, DY.get, DY.shl, DY.frz, nav, DY.put, blOf, intOf, lstOf, AV.erase, eraseL, binD, cmpD, bltD, isiD, asg, asgL, thin, thinD, thinL, ixP, Option.map_some, Option.map_none, Option.bind_some, Option.bind_none, List.map_cons, List.map_nil, List.length_cons, List.length_nil, List.replicate, List.cons_append, List.nil_append, List.append_nil, List.getElem?_cons_zero, List.getElem?_cons_succ, List.getElem?_nil, List.set_cons_zero, List.set_cons_succ, Nat.sub_self, Nat.reduceSub, Nat.reduceAdd, Bool.not_true, Bool.not_false, if_true, if_false, Bool.false_eq_true, eqD, eqDs, depth, depthL, Nat.zero_le, and_self, and_true, true_and, atZ_0, atZ_1, atZ_2, line_2, line_3, reduceCtorEq, Bool.and_true, Bool.true_and, Bool.and_false, Bool.false_and, Bool.or_true, Bool.or_false, Bool.true_or, Bool.false_or, List.all_cons, List.all_nil, line_1, Nat.reduceLeDiff, Nat.max_self, Nat.zero_max, Nat.max_zero, Int.reduceNe, Int.reduceEq, pz20, pz21, pz30, pz31, pz32, Cs_Fn (show i__law_yard < i_law by decide), Cs_Fn (show i__law_wide < i_law by decide), Cs_Fn (show i_told_at < i_law by decide), Cs_Fn (show i__law_without < i_law by decide), hw, p10, e10, dv10]) ?_
  refine exs_two x1 ?_
  refine exs_step (ρ' := [some (.fz (.scr ns)), some (.fz (.lst (sun.map rowD))), some (.fz (.lst (W.map thD))), some (.fz (.lst (Dl.map thD))), some (.fz (.int (w.fdiv 10000000000))), some (.fz (.int k)), some (.fz (ydD ⟨sun, W.eraseIdx k, Dl⟩)), none, none, none, none, none, none, none, none]) (by simp only [ydD, run, exs, ex, evB, evM, evML, ev, evF, evA, evO, evT, evI, bndP, bndS, lift, liftS, own, callP, peekL, frzL, DY.peek, look, DY.get, DY.shl, DY.frz, nav, DY.put, blOf, intOf, lstOf, AV.erase, eraseL, binD, cmpD, bltD, isiD, asg, asgL, thin, thinD, thinL, ixP, Option.map_some, Option.map_none, Option.bind_some, Option.bind_none, List.map_cons, List.map_nil, List.length_cons, List.length_nil, List.replicate, List.cons_append, List.nil_append, List.append_nil, List.getElem?_cons_zero, List.getElem?_cons_succ, List.getElem?_nil, List.set_cons_zero, List.set_cons_succ, Nat.sub_self, Nat.reduceSub, Nat.reduceAdd, Bool.not_true, Bool.not_false, if_true, if_false, Bool.false_eq_true, eqD, eqDs, depth, depthL, Nat.zero_le, and_self, and_true, true_and, atZ_0, atZ_1, atZ_2, line_2, line_3, reduceCtorEq, Bool.and_true, Bool.true_and, Bool.and_false, Bool.false_and, Bool.or_true, Bool.or_false, Bool.true_or, Bool.false_or, List.all_cons, List.all_nil, line_1, Nat.reduceLeDiff, Nat.max_self, Nat.zero_max, Nat.max_zero, Int.reduceNe, Int.reduceEq, pz20, pz21, pz30, pz31, pz32, Cs_Fn (show i__law_yard < i_law by decide), Cs_Fn (show i__law_wide < i_law by decide), Cs_Fn (show i_told_at < i_law by decide), Cs_Fn (show i__law_without < i_law by decide), sll, sl]) ?_
  obtain ⟨ρ', eL, u7, u8, u9, u10, u11, u12, u13, u14, hρ⟩ := loop_fold (f := body1 (Cs G above Ds i_law) G above (.tp [(.nm 7), (.nm 8)]) L_law_2) (g := rowD) (ok := fun r => r ∈ sun)
    (fun (_ : Unit) ρ => ∃ u7 u8 u9 u10 u11 u12 u13 u14 : Option AV, ρ = [some (.fz (.scr ns)), some (.fz (.lst (sun.map rowD))), some (.fz (.lst (W.map thD))), some (.fz (.lst (Dl.map thD))), some (.fz (.int (w.fdiv 10000000000))), some (.fz (.int k)), some (.fz (ydD ⟨sun, W.eraseIdx k, Dl⟩)), u7, u8, u9, u10, u11, u12, u13, u14]) (fun _ _ => ())
    (fun _ r ρ hr ⟨x7, x8, x9, x10, x11, x12, x13, x14, hρ⟩ => by
      subst hρ
      obtain ⟨ρ', eL, u9, u10, u11, u12, u13, u14, hρ⟩ := loop_fold (f := body1 (Cs G above Ds i_law) G above (.tp [(.nm 9), (.nm 10), (.nm 11)]) L_law_1) (g := thD) (ok := fun t => t ∈ Dl)
        (fun (_ : Unit) ρ => ∃ u9 u10 u11 u12 u13 u14 : Option AV, ρ = [some (.fz (.scr ns)), some (.fz (.lst (sun.map rowD))), some (.fz (.lst (W.map thD))), some (.fz (.lst (Dl.map thD))), some (.fz (.int (w.fdiv 10000000000))), some (.fz (.int k)), some (.fz (ydD ⟨sun, W.eraseIdx k, Dl⟩)), some (.fz (.int r.1)), some (.fz (t3 r.2)), u9, u10, u11, u12, u13, u14]) (fun _ _ => ())
        (fun _ t ρ ht ⟨u9, u10, u11, u12, u13, u14, hρ⟩ => by
          subst hρ
          obtain ⟨y9, y10, y11, y12, y13, y14, e⟩ := inner hY hsun.up hnn hk1 hr ht (some (.fz (.scr ns))) u9 u10 u11 u12 u13 u14 (number := w.fdiv 10000000000)
          exact ⟨_, e, _, _, _, _, _, _, rfl⟩) Dl () [some (.fz (.scr ns)), some (.fz (.lst (sun.map rowD))), some (.fz (.lst (W.map thD))), some (.fz (.lst (Dl.map thD))), some (.fz (.int (w.fdiv 10000000000))), some (.fz (.int k)), some (.fz (ydD ⟨sun, W.eraseIdx k, Dl⟩)), some (.fz (.int r.1)), some (.fz (t3 r.2)), x9, x10, x11, x12, x13, x14] (fun t h => h) ⟨x9, x10, x11, x12, x13, x14, rfl⟩
      subst hρ
      refine ⟨_, ?_, some (.fz (.int r.1)), some (.fz (t3 r.2)), u9, u10, u11, u12, u13, u14, rfl⟩
      unfold body1
      simp only [rowD, asg, asgL, Option.bind_some, List.set_cons_succ, List.set_cons_zero]
      unfold L_law_2
      refine exs_step ?_ rfl
      rw [ex_loop (ds := Dl.map thD) (ρ1 := [some (.fz (.scr ns)), some (.fz (.lst (sun.map rowD))), some (.fz (.lst (W.map thD))), some (.fz (.lst (Dl.map thD))), some (.fz (.int (w.fdiv 10000000000))), some (.fz (.int k)), some (.fz (ydD ⟨sun, W.eraseIdx k, Dl⟩)), some (.fz (.int r.1)), some (.fz (t3 r.2)), x9, x10, x11, x12, x13, x14]) (by simp only [run, exs, ex, evB, evM, evML, ev, evF, evA, evO, evT, evI, bndP, bndS, lift, liftS, own, callP, peekL, frzL, DY.peek, look, DY.get, DY.shl, DY.frz, nav, DY.put, blOf, intOf, lstOf, AV.erase, eraseL, binD, cmpD, bltD, isiD, asg, asgL, thin, thinD, thinL, ixP, Option.map_some, Option.map_none, Option.bind_some, Option.bind_none, List.map_cons, List.map_nil, List.length_cons, List.length_nil, List.replicate, List.cons_append, List.nil_append, List.append_nil, List.getElem?_cons_zero, List.getElem?_cons_succ, List.getElem?_nil, List.set_cons_zero, List.set_cons_succ, Nat.sub_self, Nat.reduceSub, Nat.reduceAdd, Bool.not_true, Bool.not_false, if_true, if_false, Bool.false_eq_true, eqD, eqDs, depth, depthL, Nat.zero_le, and_self, and_true, true_and, atZ_0, atZ_1, atZ_2, line_2, line_3, reduceCtorEq, Bool.and_true, Bool.true_and, Bool.and_false, Bool.false_and, Bool.or_true, Bool.or_false, Bool.true_or, Bool.false_or, List.all_cons, List.all_nil, line_1, Nat.reduceLeDiff, Nat.max_self, Nat.zero_max, Nat.max_zero, Int.reduceNe, Int.reduceEq, pz20, pz21, pz30, pz31, pz32, Cs_Fn (show i__law_yard < i_law by decide), Cs_Fn (show i__law_wide < i_law by decide), Cs_Fn (show i_told_at < i_law by decide), Cs_Fn (show i__law_without < i_law by decide)])]
      exact eL)
    sun () [some (.fz (.scr ns)), some (.fz (.lst (sun.map rowD))), some (.fz (.lst (W.map thD))), some (.fz (.lst (Dl.map thD))), some (.fz (.int (w.fdiv 10000000000))), some (.fz (.int k)), some (.fz (ydD ⟨sun, W.eraseIdx k, Dl⟩)), none, none, none, none, none, none, none, none] (fun r h => h) ⟨_, _, _, _, _, _, _, _, rfl⟩
  refine exs_step (ρ' := ρ') ?_ ?_
  · rw [ex_loop (ds := sun.map rowD) (ρ1 := [some (.fz (.scr ns)), some (.fz (.lst (sun.map rowD))), some (.fz (.lst (W.map thD))), some (.fz (.lst (Dl.map thD))), some (.fz (.int (w.fdiv 10000000000))), some (.fz (.int k)), some (.fz (ydD ⟨sun, W.eraseIdx k, Dl⟩)), none, none, none, none, none, none, none, none]) (by simp only [run, exs, ex, evB, evM, evML, ev, evF, evA, evO, evT, evI, bndP, bndS, lift, liftS, own, callP, peekL, frzL, DY.peek, look, DY.get, DY.shl, DY.frz, nav, DY.put, blOf, intOf, lstOf, AV.erase, eraseL, binD, cmpD, bltD, isiD, asg, asgL, thin, thinD, thinL, ixP, Option.map_some, Option.map_none, Option.bind_some, Option.bind_none, List.map_cons, List.map_nil, List.length_cons, List.length_nil, List.replicate, List.cons_append, List.nil_append, List.append_nil, List.getElem?_cons_zero, List.getElem?_cons_succ, List.getElem?_nil, List.set_cons_zero, List.set_cons_succ, Nat.sub_self, Nat.reduceSub, Nat.reduceAdd, Bool.not_true, Bool.not_false, if_true, if_false, Bool.false_eq_true, eqD, eqDs, depth, depthL, Nat.zero_le, and_self, and_true, true_and, atZ_0, atZ_1, atZ_2, line_2, line_3, reduceCtorEq, Bool.and_true, Bool.true_and, Bool.and_false, Bool.false_and, Bool.or_true, Bool.or_false, Bool.true_or, Bool.false_or, List.all_cons, List.all_nil, line_1, Nat.reduceLeDiff, Nat.max_self, Nat.zero_max, Nat.max_zero, Int.reduceNe, Int.reduceEq, pz20, pz21, pz30, pz31, pz32, Cs_Fn (show i__law_yard < i_law by decide), Cs_Fn (show i__law_wide < i_law by decide), Cs_Fn (show i_told_at < i_law by decide), Cs_Fn (show i__law_without < i_law by decide)])]
    exact eL
  · subst hρ
    simp only [run, exs, ex, evB, evM, evML, ev, evF, evA, evO, evT, evI, bndP, bndS, lift, liftS, own, callP, peekL, frzL, DY.peek, look, DY.get, DY.shl, DY.frz, nav, DY.put, blOf, intOf, lstOf, AV.erase, eraseL, binD, cmpD, bltD, isiD, asg, asgL, thin, thinD, thinL, ixP, Option.map_some, Option.map_none, Option.bind_some, Option.bind_none, List.map_cons, List.map_nil, List.length_cons, List.length_nil, List.replicate, List.cons_append, List.nil_append, List.append_nil, List.getElem?_cons_zero, List.getElem?_cons_succ, List.getElem?_nil, List.set_cons_zero, List.set_cons_succ, Nat.sub_self, Nat.reduceSub, Nat.reduceAdd, Bool.not_true, Bool.not_false, if_true, if_false, Bool.false_eq_true, eqD, eqDs, depth, depthL, Nat.zero_le, and_self, and_true, true_and, atZ_0, atZ_1, atZ_2, line_2, line_3, reduceCtorEq, Bool.and_true, Bool.true_and, Bool.and_false, Bool.false_and, Bool.or_true, Bool.or_false, Bool.true_or, Bool.false_or, List.all_cons, List.all_nil, line_1, Nat.reduceLeDiff, Nat.max_self, Nat.zero_max, Nat.max_zero, Int.reduceNe, Int.reduceEq, pz20, pz21, pz30, pz31, pz32]
end K37
set_option Elab.async false
set_option linter.all false
set_option maxRecDepth 100000
set_option maxHeartbeats 0
namespace K37
open PySem PySem.Spec PyProof.Rows L2 DY
def top (i : Nat) : Stmt := PySem.Challenge.pw_dialyard_k37_whole_more_and_fewer_plates.main.body.getD i (.Pass ⟨0, 0, 0, 0⟩)
def dd (x : Str) (i : Nat) : He.DefD := ⟨(x, none), x, x, defArgs (top i), defBody (top i), defScope (top i), [], []⟩
def fn : List He.DefD := [dd "is_whole" 6, dd "divisor_of" 7, dd "ratio_of" 8, dd "ratio_sum" 9, dd "ratio_less" 10, dd "ratio_times" 11, dd "ratio_by" 12, dd "is_under" 13, dd "dot_of" 15, dd "cross_of" 16, dd "front_of" 18, dd "point_of" 19, dd "lies_on" 20, dd "comes_from_ahead" 21, dd "as_point" 23, dd "point_less" 24, dd "point_dot" 25, dd "meeting_of" 26, dd "shadow_of" 27, dd "is_beyond" 29, dd "hides_point" 30, dd "direction_at" 32, dd "is_up" 33, dd "dial_of" 35, dd "hiders" 36, dd "told_at" 37, dd "_law_cell" 39, dd "_law_wide" 40, dd "_law_triple" 41, dd "_law_cross" 42, dd "_law_dot" 43, dd "_law_on" 44, dd "_law_pair" 45, dd "_law_sun" 46, dd "_law_dial" 47, dd "_law_fence" 48, dd "_law_name" 49, dd "_law_yard" 50, dd "_law_without" 51, dd "law" 52]
def fa : List He.Fa := [.glo "is_whole", .glo "divisor_of", .glo "ratio_of", .glo "ratio_sum", .glo "ratio_less", .glo "ratio_times", .glo "ratio_by", .glo "is_under", .glo "dot_of", .glo "cross_of", .glo "front_of", .glo "point_of", .glo "lies_on", .glo "comes_from_ahead", .glo "as_point", .glo "point_less", .glo "point_dot", .glo "meeting_of", .glo "shadow_of", .glo "is_beyond", .glo "hides_point", .glo "direction_at", .glo "is_up", .glo "dial_of", .glo "hiders", .glo "told_at", .glo "_law_cell", .glo "_law_wide", .glo "_law_triple", .glo "_law_cross", .glo "_law_dot", .glo "_law_on", .glo "_law_pair", .glo "_law_sun", .glo "_law_dial", .glo "_law_fence", .glo "_law_name", .glo "_law_yard", .glo "_law_without", .glo "law"] ++ [.free "len", .free "abs", .free "max", .free "min", .free "list", .free "tuple", .free "sorted", .free "int", .free "all", .free "isinstance", .free "bool", .free "str", .free "range", .free "zip", .free "enumerate"]
def loose : List Str := (["is_whole", "divisor_of", "ratio_of", "ratio_sum", "ratio_less", "ratio_times", "ratio_by", "is_under", "dot_of", "cross_of", "front_of", "point_of", "lies_on", "comes_from_ahead", "as_point", "point_less", "point_dot", "meeting_of", "shadow_of", "is_beyond", "hides_point", "direction_at", "is_up", "dial_of", "hiders", "told_at", "_law_cell", "_law_wide", "_law_triple", "_law_cross"] : List Str) ++ (["_law_dot", "_law_on", "_law_pair", "_law_sun", "_law_dial", "_law_fence", "_law_name", "_law_yard", "_law_without", "YardError", "NoNumber", "NoHour", "NoName"] : List Str)
abbrev RowK : PySem.W.OpenRow := PySem.W.OpenLaw.row PySem.Challenge.rw_dialyard_k37_whole_more_and_fewer_plates
abbrev hk : PySem.W.Hook := He.hookD 4 fa fn
def ob (s : PySem.W.SharedT) : He.AlD := He.obsDG 4 fa fn (HandSHeadRun.getT s)
theorem ob_eq (s : PySem.W.SharedT) : ob s = hk.obs s.abs := He.obsDG_eq (HandSHeadRun.getT_eq s)
theorem run_head (w : World) : HandSHeadRun.RunEq RowK (PySem.W.view RowK.prog [52]) hk ob 30000 loose w := by
  intro os
  kernel_rfl
theorem sc0 : FnScope d_is_whole.N d_is_whole.ps (defScope (top 6)) := ⟨rfl, rfl, rfl, by decide +kernel, rfl, by decide +kernel, by decide +kernel⟩
theorem ms0 : mSs ⟨d_is_whole.N, fnT, cn, 0⟩ d_is_whole.body (defScope (top 6)) (defBody (top 6)) = true := by kernel_rfl
theorem sc1 : FnScope d_divisor_of.N d_divisor_of.ps (defScope (top 7)) := ⟨rfl, rfl, rfl, by decide +kernel, rfl, by decide +kernel, by decide +kernel⟩
theorem ms1 : mSs ⟨d_divisor_of.N, fnT, cn, 1⟩ d_divisor_of.body (defScope (top 7)) (defBody (top 7)) = true := by kernel_rfl
theorem sc2 : FnScope d_ratio_of.N d_ratio_of.ps (defScope (top 8)) := ⟨rfl, rfl, rfl, by decide +kernel, rfl, by decide +kernel, by decide +kernel⟩
theorem ms2 : mSs ⟨d_ratio_of.N, fnT, cn, 2⟩ d_ratio_of.body (defScope (top 8)) (defBody (top 8)) = true := by kernel_rfl
theorem sc3 : FnScope d_ratio_sum.N d_ratio_sum.ps (defScope (top 9)) := ⟨rfl, rfl, rfl, by decide +kernel, rfl, by decide +kernel, by decide +kernel⟩
theorem ms3 : mSs ⟨d_ratio_sum.N, fnT, cn, 3⟩ d_ratio_sum.body (defScope (top 9)) (defBody (top 9)) = true := by kernel_rfl
theorem sc4 : FnScope d_ratio_less.N d_ratio_less.ps (defScope (top 10)) := ⟨rfl, rfl, rfl, by decide +kernel, rfl, by decide +kernel, by decide +kernel⟩
theorem ms4 : mSs ⟨d_ratio_less.N, fnT, cn, 4⟩ d_ratio_less.body (defScope (top 10)) (defBody (top 10)) = true := by kernel_rfl
theorem sc5 : FnScope d_ratio_times.N d_ratio_times.ps (defScope (top 11)) := ⟨rfl, rfl, rfl, by decide +kernel, rfl, by decide +kernel, by decide +kernel⟩
theorem ms5 : mSs ⟨d_ratio_times.N, fnT, cn, 5⟩ d_ratio_times.body (defScope (top 11)) (defBody (top 11)) = true := by kernel_rfl
theorem sc6 : FnScope d_ratio_by.N d_ratio_by.ps (defScope (top 12)) := ⟨rfl, rfl, rfl, by decide +kernel, rfl, by decide +kernel, by decide +kernel⟩
theorem ms6 : mSs ⟨d_ratio_by.N, fnT, cn, 6⟩ d_ratio_by.body (defScope (top 12)) (defBody (top 12)) = true := by kernel_rfl
theorem sc7 : FnScope d_is_under.N d_is_under.ps (defScope (top 13)) := ⟨rfl, rfl, rfl, by decide +kernel, rfl, by decide +kernel, by decide +kernel⟩
theorem ms7 : mSs ⟨d_is_under.N, fnT, cn, 7⟩ d_is_under.body (defScope (top 13)) (defBody (top 13)) = true := by kernel_rfl
theorem sc8 : FnScope d_dot_of.N d_dot_of.ps (defScope (top 15)) := ⟨rfl, rfl, rfl, by decide +kernel, rfl, by decide +kernel, by decide +kernel⟩
theorem ms8 : mSs ⟨d_dot_of.N, fnT, cn, 8⟩ d_dot_of.body (defScope (top 15)) (defBody (top 15)) = true := by kernel_rfl
theorem sc9 : FnScope d_cross_of.N d_cross_of.ps (defScope (top 16)) := ⟨rfl, rfl, rfl, by decide +kernel, rfl, by decide +kernel, by decide +kernel⟩
theorem ms9 : mSs ⟨d_cross_of.N, fnT, cn, 9⟩ d_cross_of.body (defScope (top 16)) (defBody (top 16)) = true := by kernel_rfl
theorem sc10 : FnScope d_front_of.N d_front_of.ps (defScope (top 18)) := ⟨rfl, rfl, rfl, by decide +kernel, rfl, by decide +kernel, by decide +kernel⟩
theorem ms10 : mSs ⟨d_front_of.N, fnT, cn, 10⟩ d_front_of.body (defScope (top 18)) (defBody (top 18)) = true := by kernel_rfl
theorem sc11 : FnScope d_point_of.N d_point_of.ps (defScope (top 19)) := ⟨rfl, rfl, rfl, by decide +kernel, rfl, by decide +kernel, by decide +kernel⟩
theorem ms11 : mSs ⟨d_point_of.N, fnT, cn, 11⟩ d_point_of.body (defScope (top 19)) (defBody (top 19)) = true := by kernel_rfl
theorem sc12 : FnScope d_lies_on.N d_lies_on.ps (defScope (top 20)) := ⟨rfl, rfl, rfl, by decide +kernel, rfl, by decide +kernel, by decide +kernel⟩
theorem ms12 : mSs ⟨d_lies_on.N, fnT, cn, 12⟩ d_lies_on.body (defScope (top 20)) (defBody (top 20)) = true := by kernel_rfl
theorem sc13 : FnScope d_comes_from_ahead.N d_comes_from_ahead.ps (defScope (top 21)) := ⟨rfl, rfl, rfl, by decide +kernel, rfl, by decide +kernel, by decide +kernel⟩
theorem ms13 : mSs ⟨d_comes_from_ahead.N, fnT, cn, 13⟩ d_comes_from_ahead.body (defScope (top 21)) (defBody (top 21)) = true := by kernel_rfl
theorem sc14 : FnScope d_as_point.N d_as_point.ps (defScope (top 23)) := ⟨rfl, rfl, rfl, by decide +kernel, rfl, by decide +kernel, by decide +kernel⟩
theorem ms14 : mSs ⟨d_as_point.N, fnT, cn, 14⟩ d_as_point.body (defScope (top 23)) (defBody (top 23)) = true := by kernel_rfl
theorem sc15 : FnScope d_point_less.N d_point_less.ps (defScope (top 24)) := ⟨rfl, rfl, rfl, by decide +kernel, rfl, by decide +kernel, by decide +kernel⟩
theorem ms15 : mSs ⟨d_point_less.N, fnT, cn, 15⟩ d_point_less.body (defScope (top 24)) (defBody (top 24)) = true := by kernel_rfl
theorem sc16 : FnScope d_point_dot.N d_point_dot.ps (defScope (top 25)) := ⟨rfl, rfl, rfl, by decide +kernel, rfl, by decide +kernel, by decide +kernel⟩
theorem ms16 : mSs ⟨d_point_dot.N, fnT, cn, 16⟩ d_point_dot.body (defScope (top 25)) (defBody (top 25)) = true := by kernel_rfl
theorem sc17 : FnScope d_meeting_of.N d_meeting_of.ps (defScope (top 26)) := ⟨rfl, rfl, rfl, by decide +kernel, rfl, by decide +kernel, by decide +kernel⟩
theorem ms17 : mSs ⟨d_meeting_of.N, fnT, cn, 17⟩ d_meeting_of.body (defScope (top 26)) (defBody (top 26)) = true := by kernel_rfl
theorem sc18 : FnScope d_shadow_of.N d_shadow_of.ps (defScope (top 27)) := ⟨rfl, rfl, rfl, by decide +kernel, rfl, by decide +kernel, by decide +kernel⟩
theorem ms18 : mSs ⟨d_shadow_of.N, fnT, cn, 18⟩ d_shadow_of.body (defScope (top 27)) (defBody (top 27)) = true := by kernel_rfl
theorem sc19 : FnScope d_is_beyond.N d_is_beyond.ps (defScope (top 29)) := ⟨rfl, rfl, rfl, by decide +kernel, rfl, by decide +kernel, by decide +kernel⟩
theorem ms19 : mSs ⟨d_is_beyond.N, fnT, cn, 19⟩ d_is_beyond.body (defScope (top 29)) (defBody (top 29)) = true := by kernel_rfl
theorem sc20 : FnScope d_hides_point.N d_hides_point.ps (defScope (top 30)) := ⟨rfl, rfl, rfl, by decide +kernel, rfl, by decide +kernel, by decide +kernel⟩
theorem ms20 : mSs ⟨d_hides_point.N, fnT, cn, 20⟩ d_hides_point.body (defScope (top 30)) (defBody (top 30)) = true := by kernel_rfl
theorem sc21 : FnScope d_direction_at.N d_direction_at.ps (defScope (top 32)) := ⟨rfl, rfl, rfl, by decide +kernel, rfl, by decide +kernel, by decide +kernel⟩
theorem ms21 : mSs ⟨d_direction_at.N, fnT, cn, 21⟩ d_direction_at.body (defScope (top 32)) (defBody (top 32)) = true := by kernel_rfl
theorem sc22 : FnScope d_is_up.N d_is_up.ps (defScope (top 33)) := ⟨rfl, rfl, rfl, by decide +kernel, rfl, by decide +kernel, by decide +kernel⟩
theorem ms22 : mSs ⟨d_is_up.N, fnT, cn, 22⟩ d_is_up.body (defScope (top 33)) (defBody (top 33)) = true := by kernel_rfl
theorem sc23 : FnScope d_dial_of.N d_dial_of.ps (defScope (top 35)) := ⟨rfl, rfl, rfl, by decide +kernel, rfl, by decide +kernel, by decide +kernel⟩
theorem ms23 : mSs ⟨d_dial_of.N, fnT, cn, 23⟩ d_dial_of.body (defScope (top 35)) (defBody (top 35)) = true := by kernel_rfl
theorem sc24 : FnScope d_hiders.N d_hiders.ps (defScope (top 36)) := ⟨rfl, rfl, rfl, by decide +kernel, rfl, by decide +kernel, by decide +kernel⟩
theorem ms24 : mSs ⟨d_hiders.N, fnT, cn, 24⟩ d_hiders.body (defScope (top 36)) (defBody (top 36)) = true := by kernel_rfl
theorem sc25 : FnScope d_told_at.N d_told_at.ps (defScope (top 37)) := ⟨rfl, rfl, rfl, by decide +kernel, rfl, by decide +kernel, by decide +kernel⟩
theorem ms25 : mSs ⟨d_told_at.N, fnT, cn, 25⟩ d_told_at.body (defScope (top 37)) (defBody (top 37)) = true := by kernel_rfl
theorem sc26 : FnScope d__law_cell.N d__law_cell.ps (defScope (top 39)) := ⟨rfl, rfl, rfl, by decide +kernel, rfl, by decide +kernel, by decide +kernel⟩
theorem ms26 : mSs ⟨d__law_cell.N, fnT, cn, 26⟩ d__law_cell.body (defScope (top 39)) (defBody (top 39)) = true := by kernel_rfl
theorem sc27 : FnScope d__law_wide.N d__law_wide.ps (defScope (top 40)) := ⟨rfl, rfl, rfl, by decide +kernel, rfl, by decide +kernel, by decide +kernel⟩
theorem ms27 : mSs ⟨d__law_wide.N, fnT, cn, 27⟩ d__law_wide.body (defScope (top 40)) (defBody (top 40)) = true := by kernel_rfl
theorem sc28 : FnScope d__law_triple.N d__law_triple.ps (defScope (top 41)) := ⟨rfl, rfl, rfl, by decide +kernel, rfl, by decide +kernel, by decide +kernel⟩
theorem ms28 : mSs ⟨d__law_triple.N, fnT, cn, 28⟩ d__law_triple.body (defScope (top 41)) (defBody (top 41)) = true := by kernel_rfl
theorem sc29 : FnScope d__law_cross.N d__law_cross.ps (defScope (top 42)) := ⟨rfl, rfl, rfl, by decide +kernel, rfl, by decide +kernel, by decide +kernel⟩
theorem ms29 : mSs ⟨d__law_cross.N, fnT, cn, 29⟩ d__law_cross.body (defScope (top 42)) (defBody (top 42)) = true := by kernel_rfl
theorem sc30 : FnScope d__law_dot.N d__law_dot.ps (defScope (top 43)) := ⟨rfl, rfl, rfl, by decide +kernel, rfl, by decide +kernel, by decide +kernel⟩
theorem ms30 : mSs ⟨d__law_dot.N, fnT, cn, 30⟩ d__law_dot.body (defScope (top 43)) (defBody (top 43)) = true := by kernel_rfl
theorem sc31 : FnScope d__law_on.N d__law_on.ps (defScope (top 44)) := ⟨rfl, rfl, rfl, by decide +kernel, rfl, by decide +kernel, by decide +kernel⟩
theorem ms31 : mSs ⟨d__law_on.N, fnT, cn, 31⟩ d__law_on.body (defScope (top 44)) (defBody (top 44)) = true := by kernel_rfl
theorem sc32 : FnScope d__law_pair.N d__law_pair.ps (defScope (top 45)) := ⟨rfl, rfl, rfl, by decide +kernel, rfl, by decide +kernel, by decide +kernel⟩
theorem ms32 : mSs ⟨d__law_pair.N, fnT, cn, 32⟩ d__law_pair.body (defScope (top 45)) (defBody (top 45)) = true := by kernel_rfl
theorem sc33 : FnScope d__law_sun.N d__law_sun.ps (defScope (top 46)) := ⟨rfl, rfl, rfl, by decide +kernel, rfl, by decide +kernel, by decide +kernel⟩
theorem ms33 : mSs ⟨d__law_sun.N, fnT, cn, 33⟩ d__law_sun.body (defScope (top 46)) (defBody (top 46)) = true := by kernel_rfl
theorem sc34 : FnScope d__law_dial.N d__law_dial.ps (defScope (top 47)) := ⟨rfl, rfl, rfl, by decide +kernel, rfl, by decide +kernel, by decide +kernel⟩
theorem ms34 : mSs ⟨d__law_dial.N, fnT, cn, 34⟩ d__law_dial.body (defScope (top 47)) (defBody (top 47)) = true := by kernel_rfl
theorem sc35 : FnScope d__law_fence.N d__law_fence.ps (defScope (top 48)) := ⟨rfl, rfl, rfl, by decide +kernel, rfl, by decide +kernel, by decide +kernel⟩
theorem ms35 : mSs ⟨d__law_fence.N, fnT, cn, 35⟩ d__law_fence.body (defScope (top 48)) (defBody (top 48)) = true := by kernel_rfl
theorem sc36 : FnScope d__law_name.N d__law_name.ps (defScope (top 49)) := ⟨rfl, rfl, rfl, by decide +kernel, rfl, by decide +kernel, by decide +kernel⟩
theorem ms36 : mSs ⟨d__law_name.N, fnT, cn, 36⟩ d__law_name.body (defScope (top 49)) (defBody (top 49)) = true := by kernel_rfl
theorem sc37 : FnScope d__law_yard.N d__law_yard.ps (defScope (top 50)) := ⟨rfl, rfl, rfl, by decide +kernel, rfl, by decide +kernel, by decide +kernel⟩
theorem ms37 : mSs ⟨d__law_yard.N, fnT, cn, 37⟩ d__law_yard.body (defScope (top 50)) (defBody (top 50)) = true := by kernel_rfl
theorem sc38 : FnScope d__law_without.N d__law_without.ps (defScope (top 51)) := ⟨rfl, rfl, rfl, by decide +kernel, rfl, by decide +kernel, by decide +kernel⟩
theorem ms38 : mSs ⟨d__law_without.N, fnT, cn, 38⟩ d__law_without.body (defScope (top 51)) (defBody (top 51)) = true := by kernel_rfl
theorem sc39 : FnScope d_law.N d_law.ps (defScope (top 52)) := ⟨rfl, rfl, rfl, by decide +kernel, rfl, by decide +kernel, by decide +kernel⟩
theorem ms39 : mSs ⟨d_law.N, fnT, cn, 39⟩ d_law.body (defScope (top 52)) (defBody (top 52)) = true := by kernel_rfl
section
variable {K : PySem.W.Frag} {h : Heap} {mg : Str → Option Value}
theorem dk0 (X : K.In h) (Gn : h.Ns mainGlobals mg) (c : He.SaysD fa fn K) : ∃ f fd, DOk K mg fnT cn 0 d_is_whole f fd := by
  obtain ⟨fd, F⟩ := c.def_ 0 (d := dd "is_whole" 6) rfl
  exact ⟨_, fd, ⟨⟨"is_whole", "is_whole", _, _, _, rfl, He.glo_ok X Gn (c.fact 0 (f := .glo "is_whole") rfl), F, sc0, ms0⟩, F.kp, FunD.bindsN F fun _ _ _ _ _ _ us hl => match us, hl with | [_], _ => rfl⟩⟩
theorem dk1 (X : K.In h) (Gn : h.Ns mainGlobals mg) (c : He.SaysD fa fn K) : ∃ f fd, DOk K mg fnT cn 1 d_divisor_of f fd := by
  obtain ⟨fd, F⟩ := c.def_ 1 (d := dd "divisor_of" 7) rfl
  exact ⟨_, fd, ⟨⟨"divisor_of", "divisor_of", _, _, _, rfl, He.glo_ok X Gn (c.fact 1 (f := .glo "divisor_of") rfl), F, sc1, ms1⟩, F.kp, FunD.bindsN F fun _ _ _ _ _ _ us hl => match us, hl with | [_, _], _ => rfl⟩⟩
theorem dk2 (X : K.In h) (Gn : h.Ns mainGlobals mg) (c : He.SaysD fa fn K) : ∃ f fd, DOk K mg fnT cn 2 d_ratio_of f fd := by
  obtain ⟨fd, F⟩ := c.def_ 2 (d := dd "ratio_of" 8) rfl
  exact ⟨_, fd, ⟨⟨"ratio_of", "ratio_of", _, _, _, rfl, He.glo_ok X Gn (c.fact 2 (f := .glo "ratio_of") rfl), F, sc2, ms2⟩, F.kp, FunD.bindsN F fun _ _ _ _ _ _ us hl => match us, hl with | [_, _], _ => rfl⟩⟩
theorem dk3 (X : K.In h) (Gn : h.Ns mainGlobals mg) (c : He.SaysD fa fn K) : ∃ f fd, DOk K mg fnT cn 3 d_ratio_sum f fd := by
  obtain ⟨fd, F⟩ := c.def_ 3 (d := dd "ratio_sum" 9) rfl
  exact ⟨_, fd, ⟨⟨"ratio_sum", "ratio_sum", _, _, _, rfl, He.glo_ok X Gn (c.fact 3 (f := .glo "ratio_sum") rfl), F, sc3, ms3⟩, F.kp, FunD.bindsN F fun _ _ _ _ _ _ us hl => match us, hl with | [_, _], _ => rfl⟩⟩
theorem dk4 (X : K.In h) (Gn : h.Ns mainGlobals mg) (c : He.SaysD fa fn K) : ∃ f fd, DOk K mg fnT cn 4 d_ratio_less f fd := by
  obtain ⟨fd, F⟩ := c.def_ 4 (d := dd "ratio_less" 10) rfl
  exact ⟨_, fd, ⟨⟨"ratio_less", "ratio_less", _, _, _, rfl, He.glo_ok X Gn (c.fact 4 (f := .glo "ratio_less") rfl), F, sc4, ms4⟩, F.kp, FunD.bindsN F fun _ _ _ _ _ _ us hl => match us, hl with | [_, _], _ => rfl⟩⟩
theorem dk5 (X : K.In h) (Gn : h.Ns mainGlobals mg) (c : He.SaysD fa fn K) : ∃ f fd, DOk K mg fnT cn 5 d_ratio_times f fd := by
  obtain ⟨fd, F⟩ := c.def_ 5 (d := dd "ratio_times" 11) rfl
  exact ⟨_, fd, ⟨⟨"ratio_times", "ratio_times", _, _, _, rfl, He.glo_ok X Gn (c.fact 5 (f := .glo "ratio_times") rfl), F, sc5, ms5⟩, F.kp, FunD.bindsN F fun _ _ _ _ _ _ us hl => match us, hl with | [_, _], _ => rfl⟩⟩
theorem dk6 (X : K.In h) (Gn : h.Ns mainGlobals mg) (c : He.SaysD fa fn K) : ∃ f fd, DOk K mg fnT cn 6 d_ratio_by f fd := by
  obtain ⟨fd, F⟩ := c.def_ 6 (d := dd "ratio_by" 12) rfl
  exact ⟨_, fd, ⟨⟨"ratio_by", "ratio_by", _, _, _, rfl, He.glo_ok X Gn (c.fact 6 (f := .glo "ratio_by") rfl), F, sc6, ms6⟩, F.kp, FunD.bindsN F fun _ _ _ _ _ _ us hl => match us, hl with | [_, _], _ => rfl⟩⟩
theorem dk7 (X : K.In h) (Gn : h.Ns mainGlobals mg) (c : He.SaysD fa fn K) : ∃ f fd, DOk K mg fnT cn 7 d_is_under f fd := by
  obtain ⟨fd, F⟩ := c.def_ 7 (d := dd "is_under" 13) rfl
  exact ⟨_, fd, ⟨⟨"is_under", "is_under", _, _, _, rfl, He.glo_ok X Gn (c.fact 7 (f := .glo "is_under") rfl), F, sc7, ms7⟩, F.kp, FunD.bindsN F fun _ _ _ _ _ _ us hl => match us, hl with | [_, _], _ => rfl⟩⟩
theorem dk8 (X : K.In h) (Gn : h.Ns mainGlobals mg) (c : He.SaysD fa fn K) : ∃ f fd, DOk K mg fnT cn 8 d_dot_of f fd := by
  obtain ⟨fd, F⟩ := c.def_ 8 (d := dd "dot_of" 15) rfl
  exact ⟨_, fd, ⟨⟨"dot_of", "dot_of", _, _, _, rfl, He.glo_ok X Gn (c.fact 8 (f := .glo "dot_of") rfl), F, sc8, ms8⟩, F.kp, FunD.bindsN F fun _ _ _ _ _ _ us hl => match us, hl with | [_, _], _ => rfl⟩⟩
theorem dk9 (X : K.In h) (Gn : h.Ns mainGlobals mg) (c : He.SaysD fa fn K) : ∃ f fd, DOk K mg fnT cn 9 d_cross_of f fd := by
  obtain ⟨fd, F⟩ := c.def_ 9 (d := dd "cross_of" 16) rfl
  exact ⟨_, fd, ⟨⟨"cross_of", "cross_of", _, _, _, rfl, He.glo_ok X Gn (c.fact 9 (f := .glo "cross_of") rfl), F, sc9, ms9⟩, F.kp, FunD.bindsN F fun _ _ _ _ _ _ us hl => match us, hl with | [_, _], _ => rfl⟩⟩
theorem dk10 (X : K.In h) (Gn : h.Ns mainGlobals mg) (c : He.SaysD fa fn K) : ∃ f fd, DOk K mg fnT cn 10 d_front_of f fd := by
  obtain ⟨fd, F⟩ := c.def_ 10 (d := dd "front_of" 18) rfl
  exact ⟨_, fd, ⟨⟨"front_of", "front_of", _, _, _, rfl, He.glo_ok X Gn (c.fact 10 (f := .glo "front_of") rfl), F, sc10, ms10⟩, F.kp, FunD.bindsN F fun _ _ _ _ _ _ us hl => match us, hl with | [_], _ => rfl⟩⟩
theorem dk11 (X : K.In h) (Gn : h.Ns mainGlobals mg) (c : He.SaysD fa fn K) : ∃ f fd, DOk K mg fnT cn 11 d_point_of f fd := by
  obtain ⟨fd, F⟩ := c.def_ 11 (d := dd "point_of" 19) rfl
  exact ⟨_, fd, ⟨⟨"point_of", "point_of", _, _, _, rfl, He.glo_ok X Gn (c.fact 11 (f := .glo "point_of") rfl), F, sc11, ms11⟩, F.kp, FunD.bindsN F fun _ _ _ _ _ _ us hl => match us, hl with | [_, _], _ => rfl⟩⟩
theorem dk12 (X : K.In h) (Gn : h.Ns mainGlobals mg) (c : He.SaysD fa fn K) : ∃ f fd, DOk K mg fnT cn 12 d_lies_on f fd := by
  obtain ⟨fd, F⟩ := c.def_ 12 (d := dd "lies_on" 20) rfl
  exact ⟨_, fd, ⟨⟨"lies_on", "lies_on", _, _, _, rfl, He.glo_ok X Gn (c.fact 12 (f := .glo "lies_on") rfl), F, sc12, ms12⟩, F.kp, FunD.bindsN F fun _ _ _ _ _ _ us hl => match us, hl with | [_], _ => rfl⟩⟩
theorem dk13 (X : K.In h) (Gn : h.Ns mainGlobals mg) (c : He.SaysD fa fn K) : ∃ f fd, DOk K mg fnT cn 13 d_comes_from_ahead f fd := by
  obtain ⟨fd, F⟩ := c.def_ 13 (d := dd "comes_from_ahead" 21) rfl
  exact ⟨_, fd, ⟨⟨"comes_from_ahead", "comes_from_ahead", _, _, _, rfl, He.glo_ok X Gn (c.fact 13 (f := .glo "comes_from_ahead") rfl), F, sc13, ms13⟩, F.kp, FunD.bindsN F fun _ _ _ _ _ _ us hl => match us, hl with | [_, _], _ => rfl⟩⟩
theorem dk14 (X : K.In h) (Gn : h.Ns mainGlobals mg) (c : He.SaysD fa fn K) : ∃ f fd, DOk K mg fnT cn 14 d_as_point f fd := by
  obtain ⟨fd, F⟩ := c.def_ 14 (d := dd "as_point" 23) rfl
  exact ⟨_, fd, ⟨⟨"as_point", "as_point", _, _, _, rfl, He.glo_ok X Gn (c.fact 14 (f := .glo "as_point") rfl), F, sc14, ms14⟩, F.kp, FunD.bindsN F fun _ _ _ _ _ _ us hl => match us, hl with | [_], _ => rfl⟩⟩
theorem dk15 (X : K.In h) (Gn : h.Ns mainGlobals mg) (c : He.SaysD fa fn K) : ∃ f fd, DOk K mg fnT cn 15 d_point_less f fd := by
  obtain ⟨fd, F⟩ := c.def_ 15 (d := dd "point_less" 24) rfl
  exact ⟨_, fd, ⟨⟨"point_less", "point_less", _, _, _, rfl, He.glo_ok X Gn (c.fact 15 (f := .glo "point_less") rfl), F, sc15, ms15⟩, F.kp, FunD.bindsN F fun _ _ _ _ _ _ us hl => match us, hl with | [_, _], _ => rfl⟩⟩
theorem dk16 (X : K.In h) (Gn : h.Ns mainGlobals mg) (c : He.SaysD fa fn K) : ∃ f fd, DOk K mg fnT cn 16 d_point_dot f fd := by
  obtain ⟨fd, F⟩ := c.def_ 16 (d := dd "point_dot" 25) rfl
  exact ⟨_, fd, ⟨⟨"point_dot", "point_dot", _, _, _, rfl, He.glo_ok X Gn (c.fact 16 (f := .glo "point_dot") rfl), F, sc16, ms16⟩, F.kp, FunD.bindsN F fun _ _ _ _ _ _ us hl => match us, hl with | [_, _], _ => rfl⟩⟩
theorem dk17 (X : K.In h) (Gn : h.Ns mainGlobals mg) (c : He.SaysD fa fn K) : ∃ f fd, DOk K mg fnT cn 17 d_meeting_of f fd := by
  obtain ⟨fd, F⟩ := c.def_ 17 (d := dd "meeting_of" 26) rfl
  exact ⟨_, fd, ⟨⟨"meeting_of", "meeting_of", _, _, _, rfl, He.glo_ok X Gn (c.fact 17 (f := .glo "meeting_of") rfl), F, sc17, ms17⟩, F.kp, FunD.bindsN F fun _ _ _ _ _ _ us hl => match us, hl with | [_, _, _], _ => rfl⟩⟩
theorem dk18 (X : K.In h) (Gn : h.Ns mainGlobals mg) (c : He.SaysD fa fn K) : ∃ f fd, DOk K mg fnT cn 18 d_shadow_of f fd := by
  obtain ⟨fd, F⟩ := c.def_ 18 (d := dd "shadow_of" 27) rfl
  exact ⟨_, fd, ⟨⟨"shadow_of", "shadow_of", _, _, _, rfl, He.glo_ok X Gn (c.fact 18 (f := .glo "shadow_of") rfl), F, sc18, ms18⟩, F.kp, FunD.bindsN F fun _ _ _ _ _ _ us hl => match us, hl with | [_, _, _], _ => rfl⟩⟩
theorem dk19 (X : K.In h) (Gn : h.Ns mainGlobals mg) (c : He.SaysD fa fn K) : ∃ f fd, DOk K mg fnT cn 19 d_is_beyond f fd := by
  obtain ⟨fd, F⟩ := c.def_ 19 (d := dd "is_beyond" 29) rfl
  exact ⟨_, fd, ⟨⟨"is_beyond", "is_beyond", _, _, _, rfl, He.glo_ok X Gn (c.fact 19 (f := .glo "is_beyond") rfl), F, sc19, ms19⟩, F.kp, FunD.bindsN F fun _ _ _ _ _ _ us hl => match us, hl with | [_, _, _], _ => rfl⟩⟩
theorem dk20 (X : K.In h) (Gn : h.Ns mainGlobals mg) (c : He.SaysD fa fn K) : ∃ f fd, DOk K mg fnT cn 20 d_hides_point f fd := by
  obtain ⟨fd, F⟩ := c.def_ 20 (d := dd "hides_point" 30) rfl
  exact ⟨_, fd, ⟨⟨"hides_point", "hides_point", _, _, _, rfl, He.glo_ok X Gn (c.fact 20 (f := .glo "hides_point") rfl), F, sc20, ms20⟩, F.kp, FunD.bindsN F fun _ _ _ _ _ _ us hl => match us, hl with | [_, _, _], _ => rfl⟩⟩
theorem dk21 (X : K.In h) (Gn : h.Ns mainGlobals mg) (c : He.SaysD fa fn K) : ∃ f fd, DOk K mg fnT cn 21 d_direction_at f fd := by
  obtain ⟨fd, F⟩ := c.def_ 21 (d := dd "direction_at" 32) rfl
  exact ⟨_, fd, ⟨⟨"direction_at", "direction_at", _, _, _, rfl, He.glo_ok X Gn (c.fact 21 (f := .glo "direction_at") rfl), F, sc21, ms21⟩, F.kp, FunD.bindsN F fun _ _ _ _ _ _ us hl => match us, hl with | [_, _], _ => rfl⟩⟩
theorem dk22 (X : K.In h) (Gn : h.Ns mainGlobals mg) (c : He.SaysD fa fn K) : ∃ f fd, DOk K mg fnT cn 22 d_is_up f fd := by
  obtain ⟨fd, F⟩ := c.def_ 22 (d := dd "is_up" 33) rfl
  exact ⟨_, fd, ⟨⟨"is_up", "is_up", _, _, _, rfl, He.glo_ok X Gn (c.fact 22 (f := .glo "is_up") rfl), F, sc22, ms22⟩, F.kp, FunD.bindsN F fun _ _ _ _ _ _ us hl => match us, hl with | [_, _], _ => rfl⟩⟩
theorem dk23 (X : K.In h) (Gn : h.Ns mainGlobals mg) (c : He.SaysD fa fn K) : ∃ f fd, DOk K mg fnT cn 23 d_dial_of f fd := by
  obtain ⟨fd, F⟩ := c.def_ 23 (d := dd "dial_of" 35) rfl
  exact ⟨_, fd, ⟨⟨"dial_of", "dial_of", _, _, _, rfl, He.glo_ok X Gn (c.fact 23 (f := .glo "dial_of") rfl), F, sc23, ms23⟩, F.kp, FunD.bindsN F fun _ _ _ _ _ _ us hl => match us, hl with | [_, _], _ => rfl⟩⟩
theorem dk24 (X : K.In h) (Gn : h.Ns mainGlobals mg) (c : He.SaysD fa fn K) : ∃ f fd, DOk K mg fnT cn 24 d_hiders f fd := by
  obtain ⟨fd, F⟩ := c.def_ 24 (d := dd "hiders" 36) rfl
  exact ⟨_, fd, ⟨⟨"hiders", "hiders", _, _, _, rfl, He.glo_ok X Gn (c.fact 24 (f := .glo "hiders") rfl), F, sc24, ms24⟩, F.kp, FunD.bindsN F fun _ _ _ _ _ _ us hl => match us, hl with | [_, _, _, _], _ => rfl⟩⟩
theorem dk25 (X : K.In h) (Gn : h.Ns mainGlobals mg) (c : He.SaysD fa fn K) : ∃ f fd, DOk K mg fnT cn 25 d_told_at f fd := by
  obtain ⟨fd, F⟩ := c.def_ 25 (d := dd "told_at" 37) rfl
  exact ⟨_, fd, ⟨⟨"told_at", "told_at", _, _, _, rfl, He.glo_ok X Gn (c.fact 25 (f := .glo "told_at") rfl), F, sc25, ms25⟩, F.kp, FunD.bindsN F fun _ _ _ _ _ _ us hl => match us, hl with | [_, _, _], _ => rfl⟩⟩
theorem dk26 (X : K.In h) (Gn : h.Ns mainGlobals mg) (c : He.SaysD fa fn K) : ∃ f fd, DOk K mg fnT cn 26 d__law_cell f fd := by
  obtain ⟨fd, F⟩ := c.def_ 26 (d := dd "_law_cell" 39) rfl
  exact ⟨_, fd, ⟨⟨"_law_cell", "_law_cell", _, _, _, rfl, He.glo_ok X Gn (c.fact 26 (f := .glo "_law_cell") rfl), F, sc26, ms26⟩, F.kp, FunD.bindsN F fun _ _ _ _ _ _ us hl => match us, hl with | [_, _], _ => rfl⟩⟩
theorem dk27 (X : K.In h) (Gn : h.Ns mainGlobals mg) (c : He.SaysD fa fn K) : ∃ f fd, DOk K mg fnT cn 27 d__law_wide f fd := by
  obtain ⟨fd, F⟩ := c.def_ 27 (d := dd "_law_wide" 40) rfl
  exact ⟨_, fd, ⟨⟨"_law_wide", "_law_wide", _, _, _, rfl, He.glo_ok X Gn (c.fact 27 (f := .glo "_law_wide") rfl), F, sc27, ms27⟩, F.kp, FunD.bindsN F fun _ _ _ _ _ _ us hl => match us, hl with | [_, _], _ => rfl⟩⟩
theorem dk28 (X : K.In h) (Gn : h.Ns mainGlobals mg) (c : He.SaysD fa fn K) : ∃ f fd, DOk K mg fnT cn 28 d__law_triple f fd := by
  obtain ⟨fd, F⟩ := c.def_ 28 (d := dd "_law_triple" 41) rfl
  exact ⟨_, fd, ⟨⟨"_law_triple", "_law_triple", _, _, _, rfl, He.glo_ok X Gn (c.fact 28 (f := .glo "_law_triple") rfl), F, sc28, ms28⟩, F.kp, FunD.bindsN F fun _ _ _ _ _ _ us hl => match us, hl with | [_, _], _ => rfl⟩⟩
theorem dk29 (X : K.In h) (Gn : h.Ns mainGlobals mg) (c : He.SaysD fa fn K) : ∃ f fd, DOk K mg fnT cn 29 d__law_cross f fd := by
  obtain ⟨fd, F⟩ := c.def_ 29 (d := dd "_law_cross" 42) rfl
  exact ⟨_, fd, ⟨⟨"_law_cross", "_law_cross", _, _, _, rfl, He.glo_ok X Gn (c.fact 29 (f := .glo "_law_cross") rfl), F, sc29, ms29⟩, F.kp, FunD.bindsN F fun _ _ _ _ _ _ us hl => match us, hl with | [_, _], _ => rfl⟩⟩
theorem dk30 (X : K.In h) (Gn : h.Ns mainGlobals mg) (c : He.SaysD fa fn K) : ∃ f fd, DOk K mg fnT cn 30 d__law_dot f fd := by
  obtain ⟨fd, F⟩ := c.def_ 30 (d := dd "_law_dot" 43) rfl
  exact ⟨_, fd, ⟨⟨"_law_dot", "_law_dot", _, _, _, rfl, He.glo_ok X Gn (c.fact 30 (f := .glo "_law_dot") rfl), F, sc30, ms30⟩, F.kp, FunD.bindsN F fun _ _ _ _ _ _ us hl => match us, hl with | [_, _], _ => rfl⟩⟩
theorem dk31 (X : K.In h) (Gn : h.Ns mainGlobals mg) (c : He.SaysD fa fn K) : ∃ f fd, DOk K mg fnT cn 31 d__law_on f fd := by
  obtain ⟨fd, F⟩ := c.def_ 31 (d := dd "_law_on" 44) rfl
  exact ⟨_, fd, ⟨⟨"_law_on", "_law_on", _, _, _, rfl, He.glo_ok X Gn (c.fact 31 (f := .glo "_law_on") rfl), F, sc31, ms31⟩, F.kp, FunD.bindsN F fun _ _ _ _ _ _ us hl => match us, hl with | [_, _, _], _ => rfl⟩⟩
theorem dk32 (X : K.In h) (Gn : h.Ns mainGlobals mg) (c : He.SaysD fa fn K) : ∃ f fd, DOk K mg fnT cn 32 d__law_pair f fd := by
  obtain ⟨fd, F⟩ := c.def_ 32 (d := dd "_law_pair" 45) rfl
  exact ⟨_, fd, ⟨⟨"_law_pair", "_law_pair", _, _, _, rfl, He.glo_ok X Gn (c.fact 32 (f := .glo "_law_pair") rfl), F, sc32, ms32⟩, F.kp, FunD.bindsN F fun _ _ _ _ _ _ us hl => match us, hl with | [_, _], _ => rfl⟩⟩
theorem dk33 (X : K.In h) (Gn : h.Ns mainGlobals mg) (c : He.SaysD fa fn K) : ∃ f fd, DOk K mg fnT cn 33 d__law_sun f fd := by
  obtain ⟨fd, F⟩ := c.def_ 33 (d := dd "_law_sun" 46) rfl
  exact ⟨_, fd, ⟨⟨"_law_sun", "_law_sun", _, _, _, rfl, He.glo_ok X Gn (c.fact 33 (f := .glo "_law_sun") rfl), F, sc33, ms33⟩, F.kp, FunD.bindsN F fun _ _ _ _ _ _ us hl => match us, hl with | [_, _], _ => rfl⟩⟩
theorem dk34 (X : K.In h) (Gn : h.Ns mainGlobals mg) (c : He.SaysD fa fn K) : ∃ f fd, DOk K mg fnT cn 34 d__law_dial f fd := by
  obtain ⟨fd, F⟩ := c.def_ 34 (d := dd "_law_dial" 47) rfl
  exact ⟨_, fd, ⟨⟨"_law_dial", "_law_dial", _, _, _, rfl, He.glo_ok X Gn (c.fact 34 (f := .glo "_law_dial") rfl), F, sc34, ms34⟩, F.kp, FunD.bindsN F fun _ _ _ _ _ _ us hl => match us, hl with | [_, _], _ => rfl⟩⟩
theorem dk35 (X : K.In h) (Gn : h.Ns mainGlobals mg) (c : He.SaysD fa fn K) : ∃ f fd, DOk K mg fnT cn 35 d__law_fence f fd := by
  obtain ⟨fd, F⟩ := c.def_ 35 (d := dd "_law_fence" 48) rfl
  exact ⟨_, fd, ⟨⟨"_law_fence", "_law_fence", _, _, _, rfl, He.glo_ok X Gn (c.fact 35 (f := .glo "_law_fence") rfl), F, sc35, ms35⟩, F.kp, FunD.bindsN F fun _ _ _ _ _ _ us hl => match us, hl with | [_, _, _], _ => rfl⟩⟩
theorem dk36 (X : K.In h) (Gn : h.Ns mainGlobals mg) (c : He.SaysD fa fn K) : ∃ f fd, DOk K mg fnT cn 36 d__law_name f fd := by
  obtain ⟨fd, F⟩ := c.def_ 36 (d := dd "_law_name" 49) rfl
  exact ⟨_, fd, ⟨⟨"_law_name", "_law_name", _, _, _, rfl, He.glo_ok X Gn (c.fact 36 (f := .glo "_law_name") rfl), F, sc36, ms36⟩, F.kp, FunD.bindsN F fun _ _ _ _ _ _ us hl => match us, hl with | [_, _], _ => rfl⟩⟩
theorem dk37 (X : K.In h) (Gn : h.Ns mainGlobals mg) (c : He.SaysD fa fn K) : ∃ f fd, DOk K mg fnT cn 37 d__law_yard f fd := by
  obtain ⟨fd, F⟩ := c.def_ 37 (d := dd "_law_yard" 50) rfl
  exact ⟨_, fd, ⟨⟨"_law_yard", "_law_yard", _, _, _, rfl, He.glo_ok X Gn (c.fact 37 (f := .glo "_law_yard") rfl), F, sc37, ms37⟩, F.kp, FunD.bindsN F fun _ _ _ _ _ _ us hl => match us, hl with | [_, _, _, _], _ => rfl⟩⟩
theorem dk38 (X : K.In h) (Gn : h.Ns mainGlobals mg) (c : He.SaysD fa fn K) : ∃ f fd, DOk K mg fnT cn 38 d__law_without f fd := by
  obtain ⟨fd, F⟩ := c.def_ 38 (d := dd "_law_without" 51) rfl
  exact ⟨_, fd, ⟨⟨"_law_without", "_law_without", _, _, _, rfl, He.glo_ok X Gn (c.fact 38 (f := .glo "_law_without") rfl), F, sc38, ms38⟩, F.kp, FunD.bindsN F fun _ _ _ _ _ _ us hl => match us, hl with | [_, _, _], _ => rfl⟩⟩
theorem dk39 (X : K.In h) (Gn : h.Ns mainGlobals mg) (c : He.SaysD fa fn K) : ∃ f fd, DOk K mg fnT cn 39 d_law f fd := by
  obtain ⟨fd, F⟩ := c.def_ 39 (d := dd "law" 52) rfl
  exact ⟨_, fd, ⟨⟨"law", "law", _, _, _, rfl, He.glo_ok X Gn (c.fact 39 (f := .glo "law") rfl), F, sc39, ms39⟩, F.kp, FunD.bindsN F fun _ _ _ _ _ _ us hl => match us, hl with | [_], _ => rfl⟩⟩
theorem dk (X : K.In h) (Gn : h.Ns mainGlobals mg) (c : He.SaysD fa fn K) (i : Nat) (d : Df) (e : Ds[i]? = some d) : ∃ f fd, DOk K mg fnT cn i d f fd := by
  match i, e with
  | 0, e => exact (Option.some.inj e : d_is_whole = d) ▸ dk0 X Gn c
  | 1, e => exact (Option.some.inj e : d_divisor_of = d) ▸ dk1 X Gn c
  | 2, e => exact (Option.some.inj e : d_ratio_of = d) ▸ dk2 X Gn c
  | 3, e => exact (Option.some.inj e : d_ratio_sum = d) ▸ dk3 X Gn c
  | 4, e => exact (Option.some.inj e : d_ratio_less = d) ▸ dk4 X Gn c
  | 5, e => exact (Option.some.inj e : d_ratio_times = d) ▸ dk5 X Gn c
  | 6, e => exact (Option.some.inj e : d_ratio_by = d) ▸ dk6 X Gn c
  | 7, e => exact (Option.some.inj e : d_is_under = d) ▸ dk7 X Gn c
  | 8, e => exact (Option.some.inj e : d_dot_of = d) ▸ dk8 X Gn c
  | 9, e => exact (Option.some.inj e : d_cross_of = d) ▸ dk9 X Gn c
  | 10, e => exact (Option.some.inj e : d_front_of = d) ▸ dk10 X Gn c
  | 11, e => exact (Option.some.inj e : d_point_of = d) ▸ dk11 X Gn c
  | 12, e => exact (Option.some.inj e : d_lies_on = d) ▸ dk12 X Gn c
  | 13, e => exact (Option.some.inj e : d_comes_from_ahead = d) ▸ dk13 X Gn c
  | 14, e => exact (Option.some.inj e : d_as_point = d) ▸ dk14 X Gn c
  | 15, e => exact (Option.some.inj e : d_point_less = d) ▸ dk15 X Gn c
  | 16, e => exact (Option.some.inj e : d_point_dot = d) ▸ dk16 X Gn c
  | 17, e => exact (Option.some.inj e : d_meeting_of = d) ▸ dk17 X Gn c
  | 18, e => exact (Option.some.inj e : d_shadow_of = d) ▸ dk18 X Gn c
  | 19, e => exact (Option.some.inj e : d_is_beyond = d) ▸ dk19 X Gn c
  | 20, e => exact (Option.some.inj e : d_hides_point = d) ▸ dk20 X Gn c
  | 21, e => exact (Option.some.inj e : d_direction_at = d) ▸ dk21 X Gn c
  | 22, e => exact (Option.some.inj e : d_is_up = d) ▸ dk22 X Gn c
  | 23, e => exact (Option.some.inj e : d_dial_of = d) ▸ dk23 X Gn c
  | 24, e => exact (Option.some.inj e : d_hiders = d) ▸ dk24 X Gn c
  | 25, e => exact (Option.some.inj e : d_told_at = d) ▸ dk25 X Gn c
  | 26, e => exact (Option.some.inj e : d__law_cell = d) ▸ dk26 X Gn c
  | 27, e => exact (Option.some.inj e : d__law_wide = d) ▸ dk27 X Gn c
  | 28, e => exact (Option.some.inj e : d__law_triple = d) ▸ dk28 X Gn c
  | 29, e => exact (Option.some.inj e : d__law_cross = d) ▸ dk29 X Gn c
  | 30, e => exact (Option.some.inj e : d__law_dot = d) ▸ dk30 X Gn c
  | 31, e => exact (Option.some.inj e : d__law_on = d) ▸ dk31 X Gn c
  | 32, e => exact (Option.some.inj e : d__law_pair = d) ▸ dk32 X Gn c
  | 33, e => exact (Option.some.inj e : d__law_sun = d) ▸ dk33 X Gn c
  | 34, e => exact (Option.some.inj e : d__law_dial = d) ▸ dk34 X Gn c
  | 35, e => exact (Option.some.inj e : d__law_fence = d) ▸ dk35 X Gn c
  | 36, e => exact (Option.some.inj e : d__law_name = d) ▸ dk36 X Gn c
  | 37, e => exact (Option.some.inj e : d__law_yard = d) ▸ dk37 X Gn c
  | 38, e => exact (Option.some.inj e : d__law_without = d) ▸ dk38 X Gn c
  | 39, e => exact (Option.some.inj e : d_law = d) ▸ dk39 X Gn c
  | n + 40, e => cases e
theorem bl_ok (X : K.In h) (Gn : h.Ns mainGlobals mg) (c : He.SaysD fa fn K) : ∀ x ∈ bltNames, mg x = none := by
  intro x hx
  simp only [bltNames, List.mem_cons, List.not_mem_nil, or_false] at hx
  rcases hx with rfl | rfl | rfl | rfl | rfl | rfl | rfl | rfl | rfl | rfl | rfl | rfl | rfl | rfl | rfl
  · exact He.free_ok X Gn (c.fact 40 (f := .free "len") rfl)
  · exact He.free_ok X Gn (c.fact 41 (f := .free "abs") rfl)
  · exact He.free_ok X Gn (c.fact 42 (f := .free "max") rfl)
  · exact He.free_ok X Gn (c.fact 43 (f := .free "min") rfl)
  · exact He.free_ok X Gn (c.fact 44 (f := .free "list") rfl)
  · exact He.free_ok X Gn (c.fact 45 (f := .free "tuple") rfl)
  · exact He.free_ok X Gn (c.fact 46 (f := .free "sorted") rfl)
  · exact He.free_ok X Gn (c.fact 47 (f := .free "int") rfl)
  · exact He.free_ok X Gn (c.fact 48 (f := .free "all") rfl)
  · exact He.free_ok X Gn (c.fact 49 (f := .free "isinstance") rfl)
  · exact He.free_ok X Gn (c.fact 50 (f := .free "bool") rfl)
  · exact He.free_ok X Gn (c.fact 51 (f := .free "str") rfl)
  · exact He.free_ok X Gn (c.fact 52 (f := .free "range") rfl)
  · exact He.free_ok X Gn (c.fact 53 (f := .free "zip") rfl)
  · exact He.free_ok X Gn (c.fact 54 (f := .free "enumerate") rfl)
theorem cn_ok : ∀ i x d, cn[i]? = some x → G i = some d → ∃ v u, mg x = some u ∧ RelV v u ∧ Rep K (fun _ => none) d v := by
  intro i x d h; simp [cn] at h
theorem facts {P : Program} {w : World} {f : Addr} (X : K.In h) (Gn : h.Ns mainGlobals mg) (hfa : mg ("law" : Str) = some (.ref f)) (c : He.SaysD fa fn K) :
    ∃ fd : FuncData, (∀ (s : Shared) (v : Value), BindsTo s fd ⟨[v], []⟩ [("script", v)]) ∧ ∀ base : Heap, K.In base → base.Ns mainGlobals mg → FnOk P w K mg base CX0 40 f fd ["script"] (spV K 1 (F i_law)) := by
  obtain ⟨fd, F⟩ := c.def_ 39 (d := dd "law" 52) rfl
  have e := hfa.symm.trans (He.glo_ok X Gn (c.fact 39 (f := .glo "law") rfl))
  cases e
  have D : DOk K mg fnT cn 39 d_law _ fd := ⟨⟨"law", "law", _, _, _, rfl, He.glo_ok X Gn (c.fact 39 (f := .glo "law") rfl), F, sc39, ms39⟩, F.kp, FunD.bindsN F fun _ _ _ _ _ _ us hl => match us, hl with | [_], _ => rfl⟩
  have b := FunD.bindsA (ps := ["script"]) F fun _ _ _ _ _ _ us hl => match us, hl with | [_], _ => rfl
  exact ⟨fd, fun s v => b s [v] rfl, fun base _ _ => all_ok (G := G) (above := above) rfl (dk X Gn c) cn_ok (bl_ok X Gn c) 39 d_law rfl _ fd D⟩
end
end K37
open PySem PySem.W PySem.Calls PyProof.Rows
theorem K37.join (law : ∀ ns : List Int, ns.length ≤ 63 → K37.F K37.i_law [.scr ns] = .ok (.fz (.bl true))) : PySem.Challenge.rw_dialyard_k37_whole_more_and_fewer_plates.Holds := by
  w_on; o_law
  refine HandSHeadRun.head_any (r := OpenLaw.row PySem.Challenge.rw_dialyard_k37_whole_more_and_fewer_plates) (q := view (OpenLaw.row PySem.Challenge.rw_dialyard_k37_whole_more_and_fewer_plates).prog [52]) (H := K37.hk) (ob := K37.ob) (M := 30000) (loose := K37.loose) (d := HandSHeadRun.topDef (OpenLaw.row PySem.Challenge.rw_dialyard_k37_whole_more_and_fewer_plates).prog 52) (kwd := []) K37.ob_eq
    (by kernel_rfl) (fun s => by kernel_rfl) K37.run_head (by kernel_rfl) (by kernel_rfl) (by kernel_rfl) (by rfl) (by first | assumption | decide +kernel) (by decide +kernel) ⟨rfl, rfl, rfl, rfl, rfl, by decide +kernel⟩ ?hw ?hc
  case hw => w_witness2
  case hc =>
    refine L2.walk_ofE (l := PySem.Challenge.rw_dialyard_k37_whole_more_and_fewer_plates) (n := 63) (k := 40) (x := "script") (CX := L2.CX0) rfl (by decide) (by kernel_rfl) ⟨rfl, by decide, by decide⟩ ?F (fun _ _ _ _ z => z)
    intro w mg fa h Y G hmg0
    obtain ⟨K, KX, c⟩ := Y
    have hmg : mg ("law" : PySem.Str) = some (.ref fa) := by
      have e : (HandSHeadRun.topDef (OpenLaw.row PySem.Challenge.rw_dialyard_k37_whole_more_and_fewer_plates).prog 52).name = ("law" : PySem.Str) := by kernel_rfl
      rw [← e]
      exact hmg0
    obtain ⟨fd, hb, hF⟩ := K37.facts (P := (PySem.Challenge.rw_dialyard_k37_whole_more_and_fewer_plates).prog) (w := w) KX G hmg c
    exact ⟨K, fd, DY.spV K 1 (K37.F K37.i_law), KX, hb, fun H a ns hl _ hS => DY.law_sp hS (law ns hl), hF⟩

set_option maxRecDepth 100000 in
set_option maxHeartbeats 0 in
theorem PySem.Challenge.cw_dialyard_k37_whole_more_and_fewer_plates_holds : PySem.Challenge.rw_dialyard_k37_whole_more_and_fewer_plates.Holds := by
  exact K37.join fun _ _ => K37.F_law
