import PyProof.Rows.All
import Wide.All
import OpenK.AllK
import Wide.FinOn
import HandS.ForMost
import HandS.ForExc
import HandS.CallSlots
import HandS.Flow
import KE.SortData
import HandS.TupLe
import HandS.TupAny
import HandS.Style
import HandS.IsInst
import HandS.Zip
import KE.GoesEnum
import HandS.NoneIn
import HandS.Comp
import HandS.WordsExc
import HandS.ExcInit
import HandS.ExcField
import KE.KExcIs
import HandS.ExcIs
import HandS.Defaults
import PySem.Challenge.RW_fanplans_k00_errors
set_option Elab.async false
set_option linter.all false
set_option maxRecDepth 100000
set_option maxHeartbeats 4000000
/-! A small evaluator of the part of Python that the package and the laws use: data, states, results. -/
namespace DI
open PySem

/-- data; ro: a list that is read alone; ref: a cell of the shared store; loc: a cell of the running def's own store -/
inductive D where
  | non | bl (b : Bool) | int (i : Int) | str (z : List Nat)
  | tup (ds : List D) | lst (ds : List D)
  | ref (a : Nat) | loc (a : Nat)
  | exc (c : Nat) (f : D) | ins (c : Nat) (fs : List D) | st (ds : List D) | fn (i : Nat) | ro (ds : List D)

inductive Cell where
  | lst (ds : List D) | dead

structure S where
  G : List Cell
  L : List Cell

inductive R (α : Type) where
  | ok (a : α) (s : S) | ex (x : D) (s : S) | no

def R.bind {α β : Type} (r : R α) (f : α → S → R β) : R β := match r with
  | .ok a s => f a s | .ex x s => .ex x s | .no => .no

/-- nothing may be raised -/
def R.calm {α : Type} (r : R α) : R α := match r with
  | .ok a s => .ok a s | _ => .no

/-- a result of pure parts -/
def R.of {α : Type} (o : Option α) (s : S) : R α := match o with
  | some a => .ok a s | none => .no

inductive Mode where
  | fz | loc | glob

/-! ### data alone -/
def b2i (b : Bool) : Int := if b then 1 else 0

mutual
def D.eqv : D → D → Bool
  | .non, .non => true
  | .bl a, .bl b => a == b
  | .bl a, .int j => decide (b2i a = j)
  | .int i, .bl b => decide (i = b2i b)
  | .int i, .int j => decide (i = j)
  | .str x, .str y => decide (x = y)
  | .lst xs, .lst ys => D.eqvs xs ys
  | .tup xs, .tup ys => D.eqvs xs ys
  | _, _ => false
def D.eqvs : List D → List D → Bool
  | [], [] => true
  | x :: xs, y :: ys => D.eqv x y && D.eqvs xs ys
  | _, _ => false
end

mutual
/-- none, bools, ints, texts, lists and tuples of these; no cells -/
def D.plain : Nat → D → Bool
  | _, .non => true | _, .bl _ => true | _, .int _ => true | _, .str z => z.all fun c => decide (c < 1114112)
  | n, .lst ds => match n with | 0 => false | n + 1 => D.plains n ds
  | n, .tup ds => match n with | 0 => false | n + 1 => D.plains n ds
  | _, _ => false
def D.plains : Nat → List D → Bool
  | _, [] => true
  | n, d :: ds => D.plain n d && D.plains n ds
end

mutual
/-- comparable place by place -/
def D.alike : D → D → Bool
  | .non, .non => true
  | .bl _, .bl _ => true
  | .int _, .int _ => true
  | .str _, .str _ => true
  | .lst xs, .lst ys => D.alikes xs ys
  | .tup xs, .tup ys => D.alikes xs ys
  | _, _ => false
def D.alikes : List D → List D → Bool
  | x :: xs, y :: ys => D.alike x y && D.alikes xs ys
  | [], _ => true
  | _ :: _, [] => true
end

mutual
/-- x < y of alike data -/
def D.lt : D → D → Bool
  | .bl a, .bl b => !a && b
  | .int i, .int j => decide (i < j)
  | .str x, .str y => decide (x < y)
  | .lst xs, .lst ys => D.lts xs ys
  | .tup xs, .tup ys => D.lts xs ys
  | _, _ => false
def D.lts : List D → List D → Bool
  | [], [] => false
  | [], _ :: _ => true
  | _ :: _, [] => false
  | x :: xs, y :: ys => if D.eqv x y then D.lts xs ys else D.lt x y
end

def D.ins1 (x : D) : List D → List D
  | [] => [x]
  | y :: ys => if D.lt y x then y :: D.ins1 x ys else x :: y :: ys
/-- a stable sort -/
def D.sort : List D → List D
  | [] => []
  | x :: xs => D.ins1 x (D.sort xs)

def D.isNone : D → Bool
  | .non => true | _ => false

/-! no list within -/
mutual
def D.noL : D → Bool
  | .lst _ => false | .loc _ => false | .ref _ => false | .ins _ _ => false | .exc _ f => D.noL f | .tup ds => D.noLs ds | .st _ => false | .ro _ => false
  | _ => true
def D.noLs : List D → Bool
  | [] => true
  | d :: ds => D.noL d && D.noLs ds
end
/-! no cell of a def's own within -/
mutual
def D.noC : D → Bool
  | .loc _ => false | .lst ds => D.noCs ds | .tup ds => D.noCs ds | .ins _ ds => D.noCs ds | .exc _ f => D.noC f | .st ds => D.noCs ds | .ro ds => D.noCs ds
  | _ => true
def D.noCs : List D → Bool
  | [] => true
  | d :: ds => D.noC d && D.noCs ds
end
def Cell.noL : Cell → Bool
  | .lst ds => D.noLs ds | .dead => true

def frzC (f : D → Option D) (L : List Cell) (d : D) : Option D := match d with
  | .loc a => match L[a]? with
    | some (.lst ds) => (ds.mapM f).map .lst
    | _ => none
  | .lst ds => (ds.mapM f).map .lst
  | .tup ds => (ds.mapM f).map .tup
  | _ => none
/-- own cells read off: the fuel is the depth of cells in cells -/
def D.frz (L : List Cell) : Nat → D → Option D
  | 0, d => if D.noC d then some d else none
  | n + 1, d => if D.noC d then some d else frzC (D.frz L n) L d
def depthC : Nat := 8

/-- the items of a list -/
def S.lst (s : S) : D → Option (List D)
  | .lst ds => some ds
  | .ro ds => some ds
  | .loc a => match s.L[a]? with | some (.lst ds) => some ds | _ => none
  | .ref a => match s.G[a]? with | some (.lst ds) => some ds | _ => none
  | _ => none
/-- .. of a list that may be glued -/
def S.lst' (s : S) : D → Option (List D)
  | .ro _ => none
  | d => s.lst d
/-- the items of a list or tuple -/
def S.seq (s : S) : D → Option (List D)
  | .tup ds => some ds
  | d => s.lst d

def sizeL : Nat := 16777216
/-- a new list -/
def mkL (m : Mode) (ds : List D) (s : S) : R D := match m with
  | .fz => .ok (.lst ds) s
  | .loc => .ok (.loc s.L.length) ⟨s.G, s.L ++ [.lst ds]⟩
  | .glob => if D.noCs ds then .ok (.ref s.G.length) ⟨s.G ++ [.lst ds], s.L⟩ else .no
/-- a list's cell changed -/
def setL (d : D) (ds : List D) (s : S) : Option S := match d with
  | .loc a => match s.L[a]? with | some (.lst _) => some ⟨s.G, s.L.set a (.lst ds)⟩ | _ => none
  | .ref a => match s.G[a]? with | some (.lst _) => if D.noCs ds then some ⟨s.G.set a (.lst ds), s.L⟩ else none | _ => none
  | _ => none

mutual
def D.beq : D → D → Bool
  | .non, .non => true
  | .bl a, .bl b => a == b
  | .int i, .int j => decide (i = j)
  | .str x, .str y => decide (x = y)
  | .lst xs, .lst ys => D.beqs xs ys
  | .tup xs, .tup ys => D.beqs xs ys
  | .ref a, .ref b => decide (a = b)
  | .loc a, .loc b => decide (a = b)
  | .exc c f, .exc d g => decide (c = d) && D.beq f g
  | .ins c fs, .ins d gs => decide (c = d) && D.beqs fs gs
  | .st xs, .st ys => D.beqs xs ys
  | .ro xs, .ro ys => D.beqs xs ys
  | .fn a, .fn b => decide (a = b)
  | _, _ => false
def D.beqs : List D → List D → Bool
  | [], [] => true
  | x :: xs, y :: ys => D.beq x y && D.beqs xs ys
  | _, _ => false
end

/-! ### the evaluator -/
inductive BOp where | add | sub | mul | mod | div | pow
inductive COp where | eq | ne | lt | le | gt | ge | isin | notin | is | isnt
inductive Tag where | int | bool | str | list | tuple | cls (cs : List Nat)
inductive SrcK where | seq | rng1 | rng2 | enum | zip
inductive P where | v (i : Nat) | t (l : List Nat)
inductive B where
  | len | all | any | abs | int | str | list (m : Mode) | tuple | sorted (m : Mode) | min2 | max2 | isi (ts : List Tag)
  | isx (ys ns : List Nat)
  | append | pop | popI | extend | join | split (m : Mode) | index | sum
inductive IE where
  | lit (d : D) | var (i : Nat)
  | bin (o : BOp) (a b : IE) | cmp (o : COp) (a b : IE) | chain (o p : COp) (a b c : IE)
  | and (a b : IE) | or (a b : IE) | not (a : IE) | neg (a : IE) | ife (c a b : IE)
  | nil | cons (a r : IE) | tup (es : IE) | lst (m : Mode) (es : IE)
  | call (f : Nat) (es : IE) | callk (f : Nat) (es ks : IE) | callv (fs : List Nat) (a es : IE) | blt (b : B) (es : IE)
  | meth (b : B) (o es : IE)
  | idx (a i : IE) | sl (bl bh : Bool) (a lo hi : IE) | rev (a : IE)
  | lc (m : Mode) (own : List Nat) (k : SrcK) (a b : IE) (p : P) (c e : IE)
  | fld (a : IE) (ys : List Nat) | mk (j : Nat) (es : IE)

abbrev Sl := List (Option D)
/-- what a call of a def gives: the arguments, the shared cells -/
inductive RC where
  | ok (d : D) (G : List Cell) | ex (x : D) (G : List Cell) | no
abbrev CallH := Nat → List D → List Cell → RC

def small (i : Int) : Bool := decide (-(2 ^ 64) < i) && decide (i < 2 ^ 64)
def S.tr (s : S) : D → Option Bool
  | .non => some false
  | .bl b => some b
  | .int i => some (!decide (i = 0))
  | .str z => if z.length ≤ sizeL then some (!z.isEmpty) else none
  | d => (s.seq d).map fun ds => !ds.isEmpty

def fitsL {α : Type} (l : List α) : Bool := decide (l.length ≤ sizeL)
def catD (x y : D) (s : S) : R D := match s.lst' x with
  | some a => match s.lst' y with
    | some b => if a.length + b.length ≤ sizeL then .ok (.lst (a ++ b)) s else .no
    | none => .no
  | none => .no
def addD (x y : D) (s : S) : R D := match x with
  | .int i => match y with | .int j => .ok (.int (i + j)) s | _ => .no
  | .str a => match y with | .str b => if a.length + b.length ≤ sizeL then .ok (.str (a ++ b)) s else .no | _ => .no
  | .tup a => match y with | .tup b => if a.length + b.length ≤ sizeL then .ok (.tup (a ++ b)) s else .no | _ => .no
  | x => catD x y s
def mulD (x y : D) (s : S) : R D := match y with
  | .int j => match x with
    | .int i => if small i || small j then .ok (.int (i * j)) s else .no
    | x => match s.lst' x with
      | some a => if 0 ≤ j ∧ j ≤ 1000 ∧ a.length ≤ 1000 then .ok (.lst (List.replicate j.toNat a).flatten) s else .no
      | none => .no
  | _ => .no
def arith (f : Int → Int → Option Int) (x y : D) (s : S) : R D := match x with
  | .int i => match y with | .int j => R.of ((f i j).map .int) s | _ => .no
  | _ => .no
def binD (o : BOp) (x y : D) (s : S) : R D := match o with
  | .add => addD x y s
  | .mul => mulD x y s
  | .sub => arith (fun i j => some (i - j)) x y s
  | .mod => arith (fun i j => if 0 < j then some (i % j) else none) x y s
  | .div => arith (fun i j => if 0 < j ∧ j < 1073741824 then some (i / j) else none) x y s
  | .pow => arith (fun i j => if 0 ≤ j ∧ j ≤ 1000000 ∧ i.natAbs < 2 ^ 64 then some (i ^ j.toNat) else none) x y s

/-- data read off cells, fit for == and < -/
def S.data (s : S) (d : D) : Option D := match D.frz s.L depthC d with
  | some d' => if D.plain 60 d' then some d' else none
  | none => none
def S.data2 (s : S) (x y : D) : Option (D × D) := match s.data x, s.data y with
  | some a, some b => some (a, b)
  | _, _ => none
def ltD (x y : D) : Option Bool := if D.alike x y && !D.isNone x then some (D.lt x y) else none
def D.flat1 : D → Bool
  | .int _ => true | .str _ => true | _ => false
def leD (x y : D) : Option Bool := match x, y with
  | .int i, .int j => some (decide (i ≤ j))
  | .str i, .str j => some (!decide (j < i))
  | .tup xs, .tup ys => if xs.all D.flat1 && D.alikes xs ys then some (!D.lts ys xs) else none
  | _, _ => none
def gtD (x y : D) : Option Bool := match x, y with
  | .int i, .int j => some (decide (j < i))
  | .str i, .str j => some (decide (j < i))
  | _, _ => none
def geD (x y : D) : Option Bool := match x, y with
  | .int i, .int j => some (decide (j ≤ i))
  | .str i, .str j => some (!decide (i < j))
  | _, _ => none
/-- y in x's place -/
def inP (o : Option (D × D)) : Option Bool := match o with
  | some (d, .lst es) => some (es.any fun e => D.eqv e d)
  | some (d, .tup es) => some (es.any fun e => D.eqv e d)
  | _ => none
def inD (x y : D) (s : S) : Option Bool := match y with
  | .str z => match x with | .str [c] => if z.length ≤ sizeL then some (decide (c ∈ z)) else none | _ => none
  | y => inP (s.data2 x y)
def cmpD (o : COp) (x y : D) (s : S) : Option Bool := match o with
  | .eq => (s.data2 x y).map fun p => D.eqv p.1 p.2
  | .ne => (s.data2 x y).map fun p => !D.eqv p.1 p.2
  | .lt => (s.data2 x y).bind fun p => ltD p.1 p.2
  | .gt => (s.data2 x y).bind fun p => gtD p.1 p.2
  | .le => (s.data2 x y).bind fun p => leD p.1 p.2
  | .ge => (s.data2 x y).bind fun p => geD p.1 p.2
  | .isin => inD x y s
  | .notin => (inD x y s).map (!·)
  | .is => match y with | .non => some (D.isNone x) | _ => none
  | .isnt => match y with | .non => some (!D.isNone x) | _ => none

def Tag.has : Tag → D → Bool
  | .int, .int _ => true
  | .int, .bl _ => true
  | .bool, .bl _ => true
  | .str, .str _ => true
  | .list, .lst _ => true
  | .list, .ro _ => true
  | .list, .loc _ => true
  | .list, .ref _ => true
  | .tuple, .tup _ => true
  | .cls cs, .exc c _ => cs.contains c
  | .cls cs, .ins c _ => cs.contains c
  | _, _ => false

/-- of a built-in type -/
def D.tyd : D → Bool
  | .exc _ _ => false | .ins _ _ => false | .st _ => false | .fn _ => false
  | _ => true
/-- the place that an index means -/
def ixAt {α : Type} (xs : List α) (i : Int) : Option α :=
  (if 0 ≤ i then (if i < xs.length then some i.toNat else none) else if -(xs.length : Int) ≤ i then some (i + xs.length).toNat else none).bind fun j => xs[j]?
/-- the bound of a slice -/
def slAt (n : Nat) (dflt : Nat) : Option Int → Nat
  | none => dflt
  | some i => if i < 0 then (i + n).toNat else min i.toNat n
def cutL {α : Type} (xs : List α) (lo hi : Option Int) : List α :=
  let a := slAt xs.length 0 lo
  let b := slAt xs.length xs.length hi
  (xs.drop a).take (b - a)
def optI (b : Bool) (d : D) : Option (Option Int) := if b then (match d with | .int i => some (some i) | _ => none) else some none
def atD (x : D) (i : Int) (s : S) : Option D := match x with
  | .str z => if z.length ≤ sizeL then (ixAt z i).map fun c => .str [c] else none
  | x => (s.seq x).bind fun ds => ixAt ds i
def idxD (x i : D) (s : S) : Option D := match i with
  | .int i => atD x i s
  | _ => none
def cutD (x : D) (lo hi : Option Int) (s : S) : Option D := match x with
  | .str z => if z.length ≤ sizeL then some (.str (cutL z lo hi)) else none
  | .tup ds => some (.tup (cutL ds lo hi))
  | x => (s.lst x).map fun ds => .lst (cutL ds lo hi)
def revD (x : D) (s : S) : Option D := match x with
  | .str z => if z.length ≤ sizeL then some (.str z.reverse) else none
  | .tup ds => some (.tup ds.reverse)
  | x => (s.lst x).map fun ds => .lst ds.reverse

/-- the number that digits write -/
def natTxt (z : List Nat) : Option Nat := if !z.isEmpty && z.all (fun c => decide (48 ≤ c) && decide (c ≤ 57)) then some (NumText.digitsVal z) else none
def txtNat (n : Nat) : List Nat := TL.numL n
def joinT (sep : List Nat) (zs : List (List Nat)) : List Nat := TL.joinL sep zs
def splitT (sep z : List Nat) : List (List Nat) := TL.spl sep 0 [] z
def strsOf : List D → Option (List (List Nat))
  | [] => some []
  | .str z :: ds => (strsOf ds).map (z :: ·)
  | _ => none
def blsOf : List D → Option (List Bool)
  | [] => some []
  | .bl b :: ds => (blsOf ds).map (b :: ·)
  | _ => none
def intsOf : List D → Option (List Int)
  | [] => some []
  | .int i :: ds => (intsOf ds).map (i :: ·)
  | _ => none
/-- all alike, fit to be sorted -/
def sortable : List D → Bool
  | [] => true
  | d :: ds => ds.all (fun e => D.alike d e) && !D.isNone d && (match d with | .tup [] => false | _ => true)
def eachAlike (ds : List D) : Bool := ds.all fun d => ds.all fun e => D.alike d e
def sortO (ds : List D) : Option (List D) :=
  if ds.all (D.plain 60) && eachAlike ds && (ds.all fun d => match d with | .non => false | .tup [] => false | _ => true) && fitsL ds then some (D.sort ds) else none

/-- the receiver of a method -/
def tyM (b : B) (x : D) (s : S) : Bool := match b with
  | .join => (match x with | .str _ => true | _ => false)
  | .split _ => (match x with | .str _ => true | _ => false)
  | _ => (s.lst' x).isSome
def one (ds : List D) (f : D → R D) : R D := match ds with | [d] => f d | _ => .no
def two (ds : List D) (f : D → D → R D) : R D := match ds with | [d, e] => f d e | _ => .no
def lenD (d : D) (s : S) : R D := match d with
  | .str z => if z.length ≤ sizeL then .ok (.int z.length) s else .no
  | d => R.of ((s.seq d).map fun ds => .int ds.length) s
def intD (d : D) (s : S) : R D := match d with
  | .int i => .ok (.int i) s
  | .bl b => .ok (.int (b2i b)) s
  | .str z => if z.length ≤ 640 then R.of ((natTxt z).map fun n => .int n) s else .no
  | _ => .no
def tupD (d : D) (s : S) : R D := match d with
  | .str z => if z.length ≤ sizeL then .ok (.tup (z.map fun c => .str [c])) s else .no
  | d => R.of ((s.seq d).map .tup) s
def strD (d : D) (s : S) : R D := match d with
  | .int i => if 0 ≤ i ∧ i.natAbs.log2 < 1920 then .ok (.str (txtNat i.toNat)) s else .no
  | _ => .no
def mm (f : Int → Int → Bool) (d e : D) (s : S) : R D := match d with
  | .int i => match e with | .int j => .ok (.int (if f i j then j else i)) s | _ => .no
  | _ => .no
def appD (l d : D) (s : S) : R D := match s.lst l with
  | some ds => if ds.length < sizeL then (match setL l (ds ++ [d]) s with | some s' => .ok .non s' | none => .no) else .no
  | none => .no
def extD (l d : D) (s : S) : R D := match s.lst l with
  | some ds => match s.lst' d with
    | some es => if ds.length + es.length ≤ sizeL then (match setL l (ds ++ es) s with | some s' => .ok .non s' | none => .no) else .no
    | none => .no
  | none => .no
def popD (l : D) (s : S) : R D := match s.lst l with
  | some ds => match ds[ds.length - 1]? with
    | some d => (match setL l ds.dropLast s with | some s' => .ok d s' | none => .no)
    | none => .no
  | none => .no
def popAtD (l i : D) (s : S) : R D := match i with
  | .int i => match s.lst l with
    | some ds => if 0 ≤ i ∧ i < 2 ^ 62 then (match ds[i.toNat]? with
      | some d => (match setL l (ds.eraseIdx i.toNat) s with | some s' => .ok d s' | none => .no)
      | none => .no) else .no
    | none => .no
  | _ => .no
def joinD (z : List Nat) (d : D) (s : S) : R D := match (s.seq d).bind strsOf with
  | some zs => if (zs.map (·.length)).sum + zs.length * z.length ≤ sizeL then .ok (.str (joinT z zs)) s else .no
  | none => .no
def splitD (m : Mode) (z sep : List Nat) (s : S) : R D := if !sep.isEmpty && sep.all (fun c => decide (c < 256)) && decide (z.length + 2 ≤ sizeL) then mkL m ((splitT sep z).map .str) s else .no
def bltD (b : B) (ds : List D) (s : S) : R D := match b with
  | .len => one ds fun d => lenD d s
  | .all => one ds fun d => R.of ((s.lst d).bind fun ds => (blsOf ds).map fun bs => .bl (bs.all id)) s
  | .any => one ds fun d => R.of ((s.lst d).bind fun ds => (blsOf ds).map fun bs => .bl (bs.any id)) s
  | .abs => one ds fun d => match d with | .int i => .ok (.int (if i < 0 then -i else i)) s | _ => .no
  | .int => one ds fun d => intD d s
  | .str => one ds fun d => strD d s
  | .list m => one ds fun d => match s.seq d with | some ds => mkL m ds s | none => .no
  | .tuple => one ds fun d => tupD d s
  | .sorted m => one ds fun d => match (s.lst d).bind sortO with | some ds => mkL m ds s | none => .no
  | .min2 => two ds fun d e => mm (fun i j => decide (j < i)) d e s
  | .max2 => two ds fun d e => mm (fun i j => decide (j > i)) d e s
  | .isi ts => one ds fun d => if d.tyd then .ok (.bl (ts.any fun t => t.has d)) s else .no
  | .isx ys ns => one ds fun d => match d with
    | .exc c _ => if ys.contains c then .ok (.bl true) s else if ns.contains c then .ok (.bl false) s else .no
    | d => if d.tyd then .ok (.bl false) s else .no
  | .append => two ds fun l d => appD l d s
  | .extend => two ds fun l d => extD l d s
  | .pop => one ds fun l => popD l s
  | .popI => two ds fun l i => popAtD l i s
  | .join => two ds fun z d => match z with | .str z => joinD z d s | _ => .no
  | .split m => two ds fun z e => match z, e with | .str z, .str sep => splitD m z sep s | _, _ => .no
  | _ => .no

def bindP (p : P) (d : D) (σ : Sl) (s : S) : Option Sl := match p with
  | .v i => some (σ.set i (some d))
  | .t l => match s.seq d with
    | some ds => if ds.length = l.length then some ((l.zip ds).foldl (fun σ p => σ.set p.1 (some p.2)) σ) else none
    | none => none

/-- what a loop walks: its items, the lists that must stay as they are -/
abbrev Walk := List D × List (D × List D)
def okW (s : S) (w : List (D × List D)) : Bool := w.all fun p => match s.seq p.1 with | some ds => D.beqs p.2 ds | none => false
def seqW (d : D) (s : S) : Option Walk := match d with
  | .str z => some (z.map fun c => .str [c], [])
  | .tup ds => some (ds, [])
  | .lst ds => some (ds, [])
  | .ro ds => some (ds, [])
  | d => (s.seq d).map fun ds => (ds, [(d, ds)])
def enumFrom : Nat → List D → List D
  | _, [] => []
  | n, d :: ds => .tup [.int n, d] :: enumFrom (n + 1) ds
def ranged (lo hi : Int) : List D := (List.range (hi - lo).toNat).map fun (i : Nat) => D.int (lo + (i : Int))
def in62 (i : Int) : Bool := decide (-(2 ^ 62) ≤ i) && decide (i < 2 ^ 62)
def D.isStr : D → Bool | .str _ => true | _ => false
def D.isTup : D → Bool | .tup _ => true | _ => false
def srcW (k : SrcK) (a b : D) (s : S) : Option Walk := match k with
  | .seq => seqW a s
  | .rng1 => match a with | .int j => if in62 j then some (ranged 0 j, []) else none | _ => none
  | .rng2 => match a, b with | .int i, .int j => if in62 i && in62 j then some (ranged i j, []) else none | _, _ => none
  | .enum => if D.isStr a then none else (seqW a s).map fun w => (enumFrom 0 w.1, w.2)
  | .zip => if D.isStr a || D.isStr b || !(D.isTup a == D.isTup b) then none else (seqW a s).bind fun v => (seqW b s).map fun w => ((v.1.zip w.1).map fun p => .tup [p.1, p.2], v.2 ++ w.2)
def wipeI (σ : Sl) : List Nat → Sl
  | [] => σ
  | i :: l => (wipeI σ l).set i none

def lcL (g : D → S → R (Option D)) (w : List (D × List D)) : List D → List D → S → R (List D)
  | [], acc, s => if okW s w then .ok acc s else .no
  | x :: xs, acc, s => if okW s w then (g x s).calm.bind fun o s' => match o with
      | some d => if acc.length < sizeL then lcL g w xs (acc ++ [d]) s' else .no
      | none => lcL g w xs acc s'
    else .no

/-- behind a call: what of own cells was lent -/
def lent (L : List Cell) (ds : List D) : Bool := !D.noCs ds
def callD (C : CallH) (f : Nat) (ds : List D) (s : S) : R D := match ds.mapM (D.frz s.L depthC) with
  | some es => match C f es s.G with
    | .ok d G => if D.noCs ds || (D.noL d && G.all Cell.noL) then .ok d ⟨G, s.L⟩ else .no
    | .ex x G => if D.noCs ds || (D.noL x && G.all Cell.noL) then .ex x ⟨G, s.L⟩ else .no
    | .no => .no
  | none => .no

def ev (C : CallH) : IE → Sl → S → R D
  | .lit d, _, s => .ok d s
  | .var i, σ, s => match σ[i]? with | some (some d) => .ok d s | _ => .no
  | .bin o a b, σ, s => (ev C a σ s).bind fun x s => (ev C b σ s).bind fun y s => binD o x y s
  | .cmp o a b, σ, s => (ev C a σ s).bind fun x s => (ev C b σ s).bind fun y s => R.of ((cmpD o x y s).map .bl) s
  | .chain o p a b c, σ, s => (ev C a σ s).bind fun x s => (ev C b σ s).bind fun y s => match cmpD o x y s with
    | some true => (ev C c σ s).bind fun z s => R.of ((cmpD p y z s).map .bl) s
    | some false => .ok (.bl false) s
    | none => .no
  | .and a b, σ, s => (ev C a σ s).bind fun x s => match s.tr x with
    | some true => ev C b σ s
    | some false => .ok x s
    | none => .no
  | .or a b, σ, s => (ev C a σ s).bind fun x s => match s.tr x with
    | some true => .ok x s
    | some false => ev C b σ s
    | none => .no
  | .not a, σ, s => (ev C a σ s).bind fun x s => R.of ((s.tr x).map fun b => .bl (!b)) s
  | .neg a, σ, s => (ev C a σ s).bind fun x s => match x with | .int i => .ok (.int (-i)) s | _ => .no
  | .ife c a b, σ, s => (ev C c σ s).bind fun x s => match s.tr x with
    | some true => ev C a σ s
    | some false => ev C b σ s
    | none => .no
  | .nil, _, s => .ok (.tup []) s
  | .cons a r, σ, s => (ev C a σ s).bind fun x s => (ev C r σ s).bind fun y s => match y with | .tup ds => .ok (.tup (x :: ds)) s | _ => .no
  | .tup es, σ, s => (ev C es σ s).bind fun x s => match x with | .tup ds => if fitsL ds then .ok (.tup ds) s else .no | _ => .no
  | .lst m es, σ, s => (ev C es σ s).bind fun x s => match x with | .tup ds => if fitsL ds then mkL m ds s else .no | _ => .no
  | .call f es, σ, s => (ev C es σ s).bind fun x s => match x with | .tup ds => callD C f ds s | _ => .no
  | .callk f es ks, σ, s => (ev C es σ s).bind fun x s => (ev C ks σ s).bind fun y s => match x, y with | .tup ds, .tup us => callD C f (ds ++ us) s | _, _ => .no
  | .callv fs a es, σ, s => (ev C a σ s).bind fun f s => match f with
    | .fn f => if fs.contains f then (ev C es σ s).bind fun x s => (match x with | .tup ds => callD C f ds s | _ => .no) else .no
    | _ => .no
  | .blt b es, σ, s => (ev C es σ s).bind fun x s => match x with | .tup ds => bltD b ds s | _ => .no
  | .idx a i, σ, s => (ev C a σ s).bind fun x s => (ev C i σ s).bind fun y s => R.of (idxD x y s) s
  | .sl bl bh a lo hi, σ, s => (ev C a σ s).bind fun x s => ((ev C lo σ s).bind fun l s => R.of (optI bl l) s).bind fun l s => ((ev C hi σ s).bind fun h s => R.of (optI bh h) s).bind fun h s => R.of (cutD x l h s) s
  | .meth b o es, σ, s => (ev C o σ s).bind fun x s => if tyM b x s then (ev C es σ s).bind fun y s => (match y with | .tup ds => bltD b (x :: ds) s | _ => .no) else .no
  | .rev a, σ, s => (ev C a σ s).bind fun x s => R.of (revD x s) s
  | .lc m own k a b p c e, σ, s => ((ev C a σ s).bind fun x s => (ev C b σ s).bind fun y s => R.of (srcW k x y s) s).bind fun w s => (lcL (fun d s => match bindP p d (wipeI σ own) s with
        | some σ' => (ev C c σ' s).bind fun t s => match s.tr t with
          | some true => (ev C e σ' s).bind fun d s => .ok (some d) s
          | some false => .ok none s
          | none => .no
        | none => .no) w.2 w.1 [] s).bind fun ds s => mkL m ds s
  | .fld a ys, σ, s => (ev C a σ s).bind fun x s => match x with
    | .exc c f => if ys.contains c then .ok f s else .no
    | _ => .no
  | .mk j es, σ, s => (ev C es σ s).calm.bind fun x s => match x with
    | .tup ds => if D.noCs ds then (match C j ds s.G with | .ok d _ => .ok d s | _ => .no) else .no
    | _ => .no

inductive IS where
  | skip | expr (e : IE) | asg (p : P) (e : IE) | aug (i : Nat) (o : BOp) (e : IE) | par (i j : Nat) (es : IE)
  | sub (a i e : IE)
  | seq (a b : IS) | ife (c : IE) (a b : IS) | wh (c : IE) (b : IS) | for (k : SrcK) (a b : IE) (p : P) (st : IS)
  | ret (e : IE) | retN | brk | cont | raise (e : IE) | tryx (b : IS) (ys ns : List Nat) (i : Nat) (h : IS)

inductive Flow where
  | nx (σ : Sl) (s : S) | rt (d : D) (s : S) | bk (σ : Sl) (s : S) | ct (σ : Sl) (s : S) | ex (x : D) (σ : Sl) (s : S) | no
def R.fl {α : Type} (r : R α) (σ : Sl) (f : α → S → Flow) : Flow := match r with
  | .ok a s => f a s | .ex x s => .ex x σ s | .no => .no
def R.ofF {α : Type} (o : Option α) (f : α → Flow) : Flow := match o with
  | some a => f a | none => .no
def Flow.then (r : Flow) (f : Sl → S → Flow) : Flow := match r with
  | .nx σ s => f σ s | r => r

def forL (g : D → Sl → S → Flow) (w : List (D × List D)) : List D → Sl → S → Flow
  | [], σ, s => if okW s w then .nx σ s else .no
  | x :: xs, σ, s => if okW s w then match g x σ s with
      | .nx σ s => forL g w xs σ s
      | .ct σ s => forL g w xs σ s
      | .bk σ s => .nx σ s
      | r => r
    else .no
def whL (t : Sl → S → R Bool) (g : Sl → S → Flow) : Nat → Sl → S → Flow
  | 0, _, _ => .no
  | n + 1, σ, s => (t σ s).fl σ fun b s => if b then match g σ s with
      | .nx σ s => whL t g n σ s
      | .ct σ s => whL t g n σ s
      | .bk σ s => .nx σ s
      | r => r
    else .nx σ s
def wFuel : Nat := 2000
def setI (x i d : D) (s : S) : Option S := match i with
  | .int i => match s.lst x with
    | some ds => if 0 ≤ i ∧ i < ds.length then setL x (ds.set i.toNat d) s else none
    | none => none
  | _ => none
def evT (C : CallH) (e : IE) (σ : Sl) (s : S) : R Bool := (ev C e σ s).bind fun x s => R.of (s.tr x) s

def exec (C : CallH) : IS → Sl → S → Flow
  | .skip, σ, s => .nx σ s
  | .expr e, σ, s => (ev C e σ s).fl σ fun _ s => .nx σ s
  | .asg p e, σ, s => (ev C e σ s).fl σ fun d s => R.ofF (bindP p d σ s) fun σ => .nx σ s
  | .par i j es, σ, s => (ev C es σ s).fl σ fun d s => match d with
    | .tup [x, y] => .nx ((σ.set i (some x)).set j (some y)) s
    | _ => .no
  | .aug i o e, σ, s => (ev C (.var i) σ s).fl σ fun x s => (ev C e σ s).fl σ fun y s => (binD o x y s).fl σ fun z s => match x with
    | .int _ => .nx (σ.set i (some z)) s
    | .str _ => .nx (σ.set i (some z)) s
    | _ => .no
  | .sub a i e, σ, s => (ev C e σ s).fl σ fun d s => (ev C a σ s).fl σ fun x s => (ev C i σ s).fl σ fun y s => R.ofF (setI x y d s) fun s => .nx σ s
  | .seq a b, σ, s => (exec C a σ s).then (exec C b)
  | .ife c a b, σ, s => (evT C c σ s).fl σ fun t s => if t then exec C a σ s else exec C b σ s
  | .wh c b, σ, s => whL (evT C c) (exec C b) wFuel σ s
  | .for k a b p st, σ, s => (ev C a σ s).fl σ fun x s => (ev C b σ s).fl σ fun y s => R.ofF (srcW k x y s) fun w =>
      forL (fun d σ s => R.ofF (bindP p d σ s) fun σ => exec C st σ s) w.2 w.1 σ s
  | .ret e, σ, s => (ev C e σ s).fl σ fun d s => .rt d s
  | .retN, _, s => .rt .non s
  | .brk, σ, s => .bk σ s
  | .cont, σ, s => .ct σ s
  | .raise e, σ, s => (ev C e σ s).fl σ fun x s => .ex x σ s
  | .tryx b ys ns i h, σ, s => match exec C b σ s with
    | .ex (.exc c f) σ s => if ys.contains c then match exec C h (σ.set i (some (.exc c f))) s with
        | .nx σ s => .nx (σ.set i none) s
        | .rt d s => .rt d s
        | .bk σ s => .bk (σ.set i none) s
        | .ct σ s => .ct (σ.set i none) s
        | _ => .no
      else if ns.contains c then .ex (.exc c f) σ s else .no
    | .ex _ _ _ => .no
    | r => r

/-- a def; the maker of an own exception of one value -/
inductive Kd where
  | fn | exc (c : Nat) | exc0 (c : Nat)
structure FD where
  params : Nat
  slots : Nat
  body : IS
  kind : Kd := .fn
def runX (n c : Nat) (ds : List D) (G : List Cell) : RC := match n, ds with
  | _ + 1, [f] => if D.noC f then .ok (.exc c f) G else .no
  | _, _ => .no
def runX0 (n c : Nat) (ds : List D) (G : List Cell) : RC := match n, ds with
  | _ + 1, [] => .ok (.exc c (.tup [])) G
  | _, _ => .no
def Flow.out (r : Flow) : RC := match r with
  | .nx _ s => .ok .non s.G
  | .rt d s => match D.frz s.L depthC d with | some d => .ok d s.G | none => .no
  | .ex x _ s => match D.frz s.L depthC x with | some x => .ex x s.G | none => .no
  | _ => .no
def run (T : Nat → Option FD) : Nat → CallH
  | 0, _, _, _ => .no
  | n + 1, f, ds, G => match T f with
    | some fd => match fd.kind with
      | .exc c => runX n c ds G
      | .exc0 c => runX0 n c ds G
      | .fn => if ds.length = fd.params ∧ D.noCs ds = true then (exec (run T n) fd.body (ds.map some ++ List.replicate (fd.slots - fd.params) none) ⟨G, []⟩).out else .no
    | none => .no
end DI

set_option autoImplicit false
/-! What the evaluator says holds of the machine: worlds, what a datum stands for, results. -/
namespace DI
open PySem L2

/-- where the cells stand; e: addresses that are not ours to touch (a comprehension's new list, the callers' own cells) -/
structure Wd where
  g : List Addr
  l : List Addr
  e : List Addr
def Wd.all (w : Wd) : List Addr := w.g ++ w.l ++ w.e

/-- the written part, the classes of errors by number: address, the field's name -/
structure Kx where
  K : PySem.W.Frag
  cm : Nat → Addr
  xf : Nat → Str
  fm : Nat → Addr

/-- an exception object of a class, its own dict at d -/
def ExT (cls : Value) (d a : Addr) : HO := .ext fun h => ∃ (oe : Obj) (vs : Array Value), h.get? a = some oe ∧ Zc cls (some d) oe ∧ oe.data = .fields vs

def HL (k : Kx) (w : Wd) (H : Hp) (p : Addr) (vs : List V) : Prop :=
  (p ∉ w.all ∧ Rd H p (.lst vs)) ∨
    ∃ (o : Obj) (its : Array Value) (n : Nat), k.K.lookup p = some o ∧ o.cls = .type "list" ∧ o.dict = none ∧ o.data = .seq its n ∧ its.size ≤ sizeLine ∧ Vals vs its.toList
def HT (k : Kx) (w : Wd) (H : Hp) (p : Addr) (vs : List V) : Prop :=
  (p ∉ w.all ∧ Rd H p (.tup vs)) ∨
    ∃ (o : Obj) (its : Array Value) (n : Nat), k.K.lookup p = some o ∧ o.cls = .type "tuple" ∧ o.data = .seq its n ∧ its.size ≤ sizeLine ∧ Vals vs its.toList
theorem HL.sq {k : Kx} {w : Wd} {H : Hp} {p : Addr} {vs : List V} (h : HL k w H p vs) : SqL k.K H p vs := h.imp (·.2) id
theorem HT.sq {k : Kx} {w : Wd} {H : Hp} {p : Addr} {vs : List V} (h : HT k w H p vs) : SqT k.K H p vs := h.imp (·.2) id

mutual
/-- the value stands for the datum -/
def RD (k : Kx) (w : Wd) (H : Hp) : D → V → Prop
  | .non, v => v = .non
  | .bl b, v => v = .bl b
  | .int i, v => v = .int i
  | .str z, v => v = .str ⟨z.toArray⟩
  | .tup ds, v => ∃ p vs, v = .ref p ∧ HT k w H p vs ∧ RDs k w H ds vs
  | .lst ds, v => ∃ p vs, v = .ref p ∧ p ∉ w.all ∧ H p = some (.lst vs) ∧ RDs k w H ds vs
  | .ro ds, v => ∃ p vs, v = .ref p ∧ HL k w H p vs ∧ RDs k w H ds vs
  | .ref a, v => ∃ p, w.g[a]? = some p ∧ v = .ref p
  | .loc a, v => ∃ p, w.l[a]? = some p ∧ v = .ref p
  | .exc c f, v => ∃ a d vf, v = .ref a ∧ a ∉ w.all ∧ d ∉ w.all ∧ H a = some (ExT (.ref (k.cm c)) d a) ∧ H d = some (.xd [(k.xf c, vf)]) ∧ RD k w H f vf
  | .fn i, v => v = .ref (k.fm i)
  | .ins _ _, _ => False
  | .st _, _ => False
def RDs (k : Kx) (w : Wd) (H : Hp) : List D → List V → Prop
  | [], vs => vs = []
  | d :: ds, vs => ∃ v r, vs = v :: r ∧ RD k w H d v ∧ RDs k w H ds r
end

/-- what stays from one moment to a later one -/
structure Ext (w : Wd) (H : Hp) (w' : Wd) (H' : Hp) : Prop where
  g : ∀ (a : Nat) (p : Addr), w.g[a]? = some p → w'.g[a]? = some p
  l : ∀ (a : Nat) (p : Addr), w.l[a]? = some p → w'.l[a]? = some p
  e : ∀ p ∈ w.e, p ∈ w'.e
  ex : ∀ p, p ∈ w'.all → p ∈ w.all ∨ H p = none
  keep : ∀ p o, p ∉ w.all → H p = some o → H' p = some o
  efix : ∀ p ∈ w.e, H' p = H p
theorem Ext.refl (w : Wd) (H : Hp) : Ext w H w H := ⟨fun _ _ h => h, fun _ _ h => h, fun _ h => h, fun _ h => .inl h, fun _ _ _ h => h, fun _ _ => rfl⟩
theorem Ext.trans {w w1 w2 : Wd} {H H1 H2 : Hp} (a : Ext w H w1 H1) (b : Ext w1 H1 w2 H2) : Ext w H w2 H2 := by
  refine ⟨fun i p h => b.g i p (a.g i p h), fun i p h => b.l i p (a.l i p h), fun p h => b.e p (a.e p h), fun p h => ?_, fun p o hn h => ?_, fun p h => ?_⟩
  · rcases b.ex p h with h1 | h1
    · exact a.ex p h1
    · cases q : H p with
      | none => exact .inr rfl
      | some o =>
        by_cases hp : p ∈ w.all
        · exact .inl hp
        · have := a.keep p o hp q
          rw [this] at h1; cases h1
  · refine b.keep p o (fun h1 => ?_) (a.keep p o hn h)
    rcases a.ex p h1 with h2 | h2
    · exact hn h2
    · rw [h2] at h; cases h
  · rw [b.efix p (a.e p h), a.efix p h]

section
variable {k : Kx} {w w' : Wd} {H H' : Hp}
theorem Ext.out (x : Ext w H w' H') {p : Addr} {o : HO} (n : p ∉ w.all) (h : H p = some o) : p ∉ w'.all := fun q => by
  rcases x.ex p q with r | r
  · exact n r
  · rw [r] at h; cases h
theorem Ext.rd (x : Ext w H w' H') {p : Addr} {u : HO} (n : p ∉ w.all) (h : Rd H p u) : p ∉ w'.all ∧ Rd H' p u := by
  rcases h with h | ⟨o, h⟩
  · exact ⟨x.out n h, .inl (x.keep _ _ n h)⟩
  · exact ⟨x.out n h, .inr ⟨o, x.keep _ _ n h⟩⟩
theorem HL.mono {p : Addr} {vs : List V} (x : Ext w H w' H') (h : HL k w H p vs) : HL k w' H' p vs := h.imp (fun ⟨n, r⟩ => x.rd n r) id
theorem HT.mono {p : Addr} {vs : List V} (x : Ext w H w' H') (h : HT k w H p vs) : HT k w' H' p vs := h.imp (fun ⟨n, r⟩ => x.rd n r) id
mutual
theorem RD.mono (x : Ext w H w' H') : ∀ (d : D) (v : V), RD k w H d v → RD k w' H' d v
  | .non, _, h => h
  | .bl _, _, h => h
  | .int _, _, h => h
  | .str _, _, h => h
  | .tup ds, _, ⟨p, vs, e, h, r⟩ => ⟨p, vs, e, h.mono x, RDs.mono x ds vs r⟩
  | .lst ds, _, ⟨p, vs, e, n, h, r⟩ => ⟨p, vs, e, x.out n h, x.keep _ _ n h, RDs.mono x ds vs r⟩
  | .ro ds, _, ⟨p, vs, e, h, r⟩ => ⟨p, vs, e, h.mono x, RDs.mono x ds vs r⟩
  | .ref a, _, ⟨p, h, e⟩ => ⟨p, x.g a p h, e⟩
  | .loc a, _, ⟨p, h, e⟩ => ⟨p, x.l a p h, e⟩
  | .exc c f, _, ⟨a, d, vf, e, n1, n2, h1, h2, r⟩ => ⟨a, d, vf, e, x.out n1 h1, x.out n2 h2, x.keep _ _ n1 h1, x.keep _ _ n2 h2, RD.mono x f vf r⟩
  | .fn _, _, h => h
  | .ins _ _, _, h => h
  | .st _, _, h => h
theorem RDs.mono (x : Ext w H w' H') : ∀ (ds : List D) (vs : List V), RDs k w H ds vs → RDs k w' H' ds vs
  | [], _, h => h
  | d :: ds, _, ⟨v, r, e, h, t⟩ => ⟨v, r, e, RD.mono x d v h, RDs.mono x ds r t⟩
end
theorem RDs.len : ∀ {ds : List D} {vs : List V}, RDs k w H ds vs → ds.length = vs.length
  | [], vs, h => by rw [show vs = [] from h]; rfl
  | d :: ds, _, ⟨v, r, e, _, t⟩ => by rw [e, List.length_cons, List.length_cons, RDs.len t]
theorem RDs.get : ∀ {ds : List D} {vs : List V} {i : Nat} {d : D}, RDs k w H ds vs → ds[i]? = some d → ∃ v, vs[i]? = some v ∧ RD k w H d v
  | [], _, i, d, _, e => by simp at e
  | d :: ds, _, 0, d', ⟨v, r, e, h, t⟩, q => by
    rw [e]; simp at q; subst q; exact ⟨v, rfl, h⟩
  | d :: ds, _, i + 1, d', ⟨v, r, e, h, t⟩, q => by
    obtain ⟨u, h1, h2⟩ := RDs.get (i := i) t (by simpa using q)
    exact ⟨u, by rw [e]; simpa using h1, h2⟩
theorem RDs.app : ∀ {ds es : List D} {vs us : List V}, RDs k w H ds vs → RDs k w H es us → RDs k w H (ds ++ es) (vs ++ us)
  | [], _, _, _, h, q => by rw [show _ = [] from h]; exact q
  | d :: ds, es, _, us, ⟨v, r, e, h, t⟩, q => ⟨v, r ++ us, by rw [e]; rfl, h, RDs.app t q⟩
theorem RDs.take : ∀ {ds : List D} {vs : List V} (n : Nat), RDs k w H ds vs → RDs k w H (ds.take n) (vs.take n)
  | [], _, n, h => by rw [show _ = [] from h]; simp [RDs]
  | d :: ds, _, 0, _ => by simp [RDs]
  | d :: ds, _, n + 1, ⟨v, r, e, h, t⟩ => ⟨v, r.take n, by rw [e]; rfl, h, RDs.take n t⟩
theorem RDs.drop : ∀ {ds : List D} {vs : List V} (n : Nat), RDs k w H ds vs → RDs k w H (ds.drop n) (vs.drop n)
  | [], _, n, h => by rw [show _ = [] from h]; simp [RDs]
  | d :: ds, _, 0, h => h
  | d :: ds, _, n + 1, ⟨v, r, e, h, t⟩ => by rw [e]; exact RDs.drop n t
theorem RDs.setI : ∀ {ds : List D} {vs : List V} (i : Nat) {d : D} {v : V}, RDs k w H ds vs → RD k w H d v → RDs k w H (ds.set i d) (vs.set i v)
  | [], _, i, _, _, h, _ => by rw [show _ = [] from h]; simp [RDs]
  | d :: ds, _, 0, _, _, ⟨v, r, e, h, t⟩, q => by rw [e]; exact ⟨_, _, rfl, q, t⟩
  | d :: ds, _, i + 1, _, _, ⟨v, r, e, h, t⟩, q => by rw [e]; exact ⟨v, _, rfl, h, RDs.setI i t q⟩
theorem RDs.rev {ds : List D} {vs : List V} : RDs k w H ds vs → RDs k w H ds.reverse vs.reverse := by
  induction ds generalizing vs with
  | nil => intro h; rw [show vs = [] from h]; exact rfl
  | cons d ds ih =>
    rintro ⟨v, r, e, h, t⟩
    rw [e, List.reverse_cons, List.reverse_cons]
    exact RDs.app (ih t) ⟨v, [], rfl, h, rfl⟩

/-- a cell's content -/
def COk (k : Kx) (w : Wd) (H : Hp) : Cell → Addr → Prop
  | .lst ds, p => ∃ vs, H p = some (.lst vs) ∧ RDs k w H ds vs
  | .dead, p => ∃ vs, H p = some (.lst vs)
/-- a shared cell bears no cell of a def's own -/
def Cell.noC : Cell → Bool
  | .lst ds => D.noCs ds | .dead => true
structure RW (k : Kx) (w : Wd) (s : S) (H : Hp) : Prop where
  gl : w.g.length = s.G.length
  ll : w.l.length = s.L.length
  g : ∀ (a : Nat) (c : Cell) (p : Addr), s.G[a]? = some c → w.g[a]? = some p → COk k w H c p ∧ c.noC = true
  l : ∀ (a : Nat) (c : Cell) (p : Addr), s.L[a]? = some c → w.l[a]? = some p → COk k w H c p
  nod : w.all.Nodup
  e : ∀ p ∈ w.e, ∃ o, H p = some o
theorem COk.there {c : Cell} {p : Addr} (h : COk k w H c p) : ∃ o, H p = some o := by
  cases c with
  | lst ds => obtain ⟨vs, h, _⟩ := h; exact ⟨_, h⟩
  | dead => obtain ⟨_, h⟩ := h; exact ⟨_, h⟩
theorem RW.there {s : S} (x : RW k w s H) {p : Addr} (h : p ∈ w.all) : ∃ o, H p = some o := by
  rcases List.mem_append.mp h with h | h
  · rcases List.mem_append.mp h with h | h
    · obtain ⟨i, hi, e⟩ := List.getElem_of_mem h
      have : s.G[i]? = some (s.G[i]'(by rw [← x.gl]; exact hi)) := List.getElem?_eq_getElem _
      exact (x.g i _ p this (by rw [List.getElem?_eq_getElem hi, e])).1.there
    · obtain ⟨i, hi, e⟩ := List.getElem_of_mem h
      have : s.L[i]? = some (s.L[i]'(by rw [← x.ll]; exact hi)) := List.getElem?_eq_getElem _
      exact (x.l i _ p this (by rw [List.getElem?_eq_getElem hi, e])).there
  · exact x.e p h
theorem RW.fresh {s : S} (x : RW k w s H) {p : Addr} (h : H p = none) : p ∉ w.all := fun q => by
  obtain ⟨o, e⟩ := x.there q
  rw [e] at h; cases h
theorem COk.mono' {w' : Wd} {H' : Hp} {c : Cell} {p : Addr} (x : Ext w H w' H') (hp : H' p = H p) (h : COk k w H c p) : COk k w' H' c p := by
  cases c with
  | lst ds => obtain ⟨vs, h, r⟩ := h; exact ⟨vs, by rw [hp]; exact h, r.mono x⟩
  | dead => obtain ⟨o, h⟩ := h; exact ⟨o, by rw [hp]; exact h⟩

/-- something new is laid -/
theorem Ext.new {s : S} (x : RW k w s H) {p : Addr} {o : HO} (h : H p = none) : Ext w H w (upd H p o) :=
  ⟨fun _ _ h => h, fun _ _ h => h, fun _ h => h, fun _ h => .inl h, fun q u _ e => by rw [upd_ne (ne_of_none e h)]; exact e, fun q hq => by
    obtain ⟨u, e⟩ := x.there (List.mem_append_right _ hq)
    rw [upd_ne (ne_of_none e h)]⟩
theorem RW.ext {s : S} (x : RW k w s H) {H' : Hp} (y : Ext w H w H') (hf : ∀ p ∈ w.all, H' p = H p) : RW k w s H' := by
  refine ⟨x.gl, x.ll, fun a c p h q => ?_, fun a c p h q => ?_, x.nod, fun p h => ?_⟩
  · exact ⟨(x.g a c p h q).1.mono' y (hf p (List.mem_append_left _ (List.mem_append_left _ (List.mem_of_getElem? q)))), (x.g a c p h q).2⟩
  · exact (x.l a c p h q).mono' y (hf p (List.mem_append_left _ (List.mem_append_right _ (List.mem_of_getElem? q))))
  · rw [hf p (List.mem_append_right _ h)]
    exact x.e p h
theorem RW.new {s : S} (x : RW k w s H) {p : Addr} {o : HO} (h : H p = none) : RW k w s (upd H p o) := x.ext (Ext.new x h) fun q hq => by
  obtain ⟨u, e⟩ := x.there hq
  rw [upd_ne (ne_of_none e h)]

/-- the same world with less kept from us -/
theorem cut_all {e' : List Addr} (h : ∀ p ∈ e', p ∈ w.e) {p : Addr} (m : p ∈ (⟨w.g, w.l, e'⟩ : Wd).all) : p ∈ w.all := by
  unfold Wd.all at m ⊢
  simp only [List.mem_append] at m ⊢
  rcases m with m | m
  · exact .inl m
  · exact .inr (h p m)
mutual
theorem RD.cut {e' : List Addr} (h : ∀ p ∈ e', p ∈ w.e) : ∀ (d : D) (v : V), RD k w H d v → RD k ⟨w.g, w.l, e'⟩ H d v
  | .non, _, r => r
  | .bl _, _, r => r
  | .int _, _, r => r
  | .str _, _, r => r
  | .tup ds, _, ⟨p, vs, e, hh, r⟩ => ⟨p, vs, e, hh.imp (fun ⟨n, q⟩ => ⟨fun z => n (cut_all h z), q⟩) id, RDs.cut h ds vs r⟩
  | .lst ds, _, ⟨p, vs, e, n, hh, r⟩ => ⟨p, vs, e, fun z => n (cut_all h z), hh, RDs.cut h ds vs r⟩
  | .ro ds, _, ⟨p, vs, e, hh, r⟩ => ⟨p, vs, e, hh.imp (fun ⟨n, q⟩ => ⟨fun z => n (cut_all h z), q⟩) id, RDs.cut h ds vs r⟩
  | .ref _, _, r => r
  | .loc _, _, r => r
  | .exc c f, _, ⟨a, d, vf, e, n1, n2, h1, h2, r⟩ => ⟨a, d, vf, e, fun z => n1 (cut_all h z), fun z => n2 (cut_all h z), h1, h2, RD.cut h f vf r⟩
  | .fn _, _, r => r
  | .ins _ _, _, r => r
  | .st _, _, r => r
theorem RDs.cut {e' : List Addr} (h : ∀ p ∈ e', p ∈ w.e) : ∀ (ds : List D) (vs : List V), RDs k w H ds vs → RDs k ⟨w.g, w.l, e'⟩ H ds vs
  | [], _, r => r
  | d :: ds, _, ⟨v, r, e, hh, t⟩ => ⟨v, r, e, RD.cut h d v hh, RDs.cut h ds r t⟩
end
theorem COk.cut {e' : List Addr} (h : ∀ p ∈ e', p ∈ w.e) {c : Cell} {p : Addr} (x : COk k w H c p) : COk k ⟨w.g, w.l, e'⟩ H c p := by
  cases c with
  | lst ds => obtain ⟨vs, a, r⟩ := x; exact ⟨vs, a, RDs.cut h ds vs r⟩
  | dead => exact x
theorem RW.cut {s : S} {e' : List Addr} (x : RW k w s H) (h : ∀ p ∈ e', p ∈ w.e) (nd : e'.Nodup) : RW k ⟨w.g, w.l, e'⟩ s H := by
  refine ⟨x.gl, x.ll, fun a c p h1 h2 => ⟨(x.g a c p h1 h2).1.cut h, (x.g a c p h1 h2).2⟩, fun a c p h1 h2 => (x.l a c p h1 h2).cut h, ?_, fun p hp => x.e p (h p hp)⟩
  have n := x.nod
  unfold Wd.all at n ⊢
  rw [List.nodup_append] at n ⊢
  exact ⟨n.1, nd, fun a ha b hb => n.2.2 a ha b (h b hb)⟩
theorem Ext.cut {w' : Wd} {H' : Hp} {e' : List Addr} (x : Ext w H w' H') (h1 : ∀ p ∈ w.e, p ∈ e') (h2 : ∀ p ∈ e', p ∈ w'.e) : Ext w H ⟨w'.g, w'.l, e'⟩ H' :=
  ⟨x.g, x.l, h1, fun p hp => x.ex p (cut_all h2 hp), x.keep, x.efix⟩
theorem RW.nodE {s : S} (x : RW k w s H) : w.e.Nodup := by
  have n := x.nod
  unfold Wd.all at n
  rw [List.nodup_append] at n
  exact n.2.1

/-- the slots -/
def RS (k : Kx) (w : Wd) (H : Hp) (τ : Sl) (σ : St) : Prop := τ.length = σ.length ∧ ∀ (i : Nat) (d : D), τ[i]? = some (some d) → ∃ v, σ[i]? = some (some v) ∧ RD k w H d v
theorem RS.mono {w' : Wd} {H' : Hp} {τ : Sl} {σ : St} (x : Ext w H w' H') (h : RS k w H τ σ) : RS k w' H' τ σ := ⟨h.1, fun i d e => by
  obtain ⟨v, e1, r⟩ := h.2 i d e
  exact ⟨v, e1, r.mono x⟩⟩
theorem RS.set {τ : Sl} {σ : St} {i : Nat} {d : D} {v : V} (h : RS k w H τ σ) (r : RD k w H d v) : RS k w H (τ.set i (some d)) (σ.set i (some v)) := by
  refine ⟨by simp [h.1], fun j e q => ?_⟩
  by_cases hj : i = j
  · subst hj
    rw [List.getElem?_set] at q
    by_cases hl : i < τ.length
    · simp [hl] at q; subst q
      exact ⟨v, by rw [List.getElem?_set_self (by rw [← h.1]; exact hl)], r⟩
    · simp [hl] at q
  · rw [List.getElem?_set_ne hj] at q ⊢
    exact h.2 j e q
theorem RS.del {τ : Sl} {σ : St} {i : Nat} {o : Option V} (h : RS k w H τ σ) : RS k w H (τ.set i none) (σ.set i o) := by
  refine ⟨by simp [h.1], fun j e q => ?_⟩
  by_cases hj : i = j
  · subst hj
    rw [List.getElem?_set] at q
    by_cases hl : i < τ.length
    · simp [hl] at q
    · simp [hl] at q
  · rw [List.getElem?_set_ne hj] at q ⊢
    exact h.2 j e q
theorem RS.wipe {τ : Sl} {σ : St} {l : List Nat} (h : RS k w H τ σ) : RS k w H (wipeI τ l) (L2.wipe σ l) := by
  induction l generalizing τ σ with
  | nil => exact h
  | cons i l ih => exact (ih h).del

/-! ### results -/
/-- what a wish for errors says, by data -/
def RX (k : Kx) (w : Wd) (H : Hp) (x : D) (cls : Value) (dd : Option Addr) : Prop := ∃ c f d vf, x = .exc c f ∧ cls = .ref (k.cm c) ∧ dd = some d ∧ d ∉ w.all ∧ H d = some (.xd [(k.xf c, vf)]) ∧ RD k w H f vf
/-- what must hold ahead, that Q holds behind; W: of an error -/
def Post {α β : Type} (k : Kx) (W : Value → Option Addr → Hp → Prop) (w : Wd) (H : Hp) (ρ : Wd → Hp → α → β → Prop) (r : R α) (Q : β → Hp → Prop) : Prop := match r with
  | .ok a s => ∀ w' b H', Ext w H w' H' → RW k w' s H' → ρ w' H' a b → Q b H'
  | .ex x s => ∀ w' cls dd H', Ext w H w' H' → RW k w' s H' → RX k w' H' x cls dd → W cls dd H'
  | .no => False
variable {α β γ δ : Type} {W : Value → Option Addr → Hp → Prop} {ρ : Wd → Hp → α → β → Prop} {ρ' : Wd → Hp → γ → δ → Prop}
theorem Post.mono {w' : Wd} {H' : Hp} {r : R α} {Q : β → Hp → Prop} (x : Ext w H w' H') (h : Post k W w H ρ r Q) : Post k W w' H' ρ r Q := by
  cases r with
  | ok a s => exact fun w2 b H2 e => h w2 b H2 (x.trans e)
  | ex y s => exact fun w2 c dd H2 e => h w2 c dd H2 (x.trans e)
  | no => exact h
/-- one after another -/
theorem Post.bind {r : R α} {f : α → S → R γ} {Q : δ → Hp → Prop} (h : Post k W w H ρ' (r.bind f) Q) :
    Post k W w H ρ r (fun b H1 => ∃ w1 a s1, Ext w H w1 H1 ∧ RW k w1 s1 H1 ∧ ρ w1 H1 a b ∧ Post k W w1 H1 ρ' (f a s1) Q) := by
  cases r with
  | ok a s => exact fun w' b H' e rw r => ⟨w', a, s, e, rw, r, Post.mono e h⟩
  | ex y s => exact h
  | no => exact h
theorem Post.imp {r : R α} {Q Q' : β → Hp → Prop} (h : Post k W w H ρ r Q) (hq : ∀ b H', Q b H' → Q' b H') : Post k W w H ρ r Q' := by
  cases r with
  | ok a s => exact fun w' b H' e rw r => hq _ _ (h w' b H' e rw r)
  | ex y s => exact h
  | no => exact h
theorem Post.here {a : α} {b : β} {s : S} {Q : β → Hp → Prop} (h : Post k W w H ρ (.ok a s) Q) (rw : RW k w s H) (r : ρ w H a b) : Q b H := h w b H (Ext.refl w H) rw r
theorem Post.of {o : Option α} {s : S} {Q : β → Hp → Prop} (h : Post k W w H ρ (R.of o s) Q) : ∃ a, o = some a ∧ Post k W w H ρ (.ok a s) Q := by
  cases o with
  | none => exact h.elim
  | some a => exact ⟨a, rfl, h⟩
end

/-! ### the judgements -/
/-- what is wished of an error at the slots -/
abbrev Wσ (W : WX) (σ : St) : Value → Option Addr → Hp → Prop := fun c d H => W c d σ H
def tE (k : Kx) (C : CallH) (W : WX) (e : IE) : TE := fun σ H Q => ∃ w τ s, RS k w H τ σ ∧ RW k w s H ∧ Post k (Wσ W σ) w H (RD k) (ev C e τ s) Q
/-- arguments -/
def RA (k : Kx) (w : Wd) (H : Hp) (d : D) (vs : List V) : Prop := ∃ ds, d = .tup ds ∧ RDs k w H ds vs
def tA (k : Kx) (C : CallH) (W : WX) (e : IE) : TA := fun σ H Q => ∃ w τ s, RS k w H τ σ ∧ RW k w s H ∧ Post k (Wσ W σ) w H (RA k) (ev C e τ s) Q
def tT (k : Kx) (C : CallH) (W : WX) (e : IE) : TT := fun σ H Q => ∃ w τ s, RS k w H τ σ ∧ RW k w s H ∧ Post k (Wσ W σ) w H (fun _ _ a b => a = b) (evT C e τ s) Q
def SE (X : Cx) (k : Kx) (C : CallH) (W : WX) (e : Expr) (i : IE) : Prop := PE X e (tE k C W i)
def SA (X : Cx) (k : Kx) (C : CallH) (W : WX) (es : List Expr) (i : IE) : Prop := PA X es (tA k C W i)
def ST (X : Cx) (k : Kx) (C : CallH) (W : WX) (e : Expr) (i : IE) : Prop := PT X e (tT k C W i)
def SW (X : Cx) (k : Kx) (C : CallH) (W : WX) (e : Expr) (i : IE) : Prop := PW X e (tT k C W i)
theorem pe_imp {X : Cx} {e : Expr} {t t' : TE} (h : PE X e t) (i : ∀ σ H Q, t' σ H Q → t σ H Q) : PE X e t' := ⟨fun pins s σ H Q I q => h.run pins s σ H Q I (i _ _ _ q)⟩
theorem pt_imp {X : Cx} {e : Expr} {t t' : TT} (h : PT X e t) (i : ∀ σ H Q, t' σ H Q → t σ H Q) : PT X e t' := ⟨fun pins s σ H Q I q => h.run pins s σ H Q I (i _ _ _ q)⟩
theorem pw_imp {X : Cx} {e : Expr} {t t' : TT} (h : PW X e t) (i : ∀ σ H Q, t' σ H Q → t σ H Q) : PW X e t' := ⟨fun wh pins s σ H Q I q => h.run wh pins s σ H Q I (i _ _ _ q)⟩
theorem pa_imp {X : Cx} {e : List Expr} {t t' : TA} (h : PA X e t) (i : ∀ σ H Q, t' σ H Q → t σ H Q) : PA X e t' := ⟨fun pos pins s σ H Q I q => h.run pos pins s σ H Q I (i _ _ _ q)⟩

section
variable {X : Cx} {k : Kx} {C : CallH} {W : WX}
theorem se_var {i : Nat} {x : Str} {pos : Pos} (hN : X.N[i]? = some x := by rfl) (hv : Vis X.env.scope x := by first | exact Or.inl rfl | exact Or.inr (Or.inl rfl) | exact Or.inr (Or.inr rfl)) (hd : (x == ("__debug__" : Str)) = false := by decide)
    (hcd : (x == ("__classdict__" : Str)) = false := by decide) : SE X k C W (.Name x pos) (.var i) := pe_imp (pe_var hN hv hd hcd) fun σ H Q ⟨w, τ, s, rs, rw, h⟩ => by
  simp only [ev] at h
  cases e : τ[i]? with
  | none => rw [e] at h; exact h.elim
  | some o =>
    cases o with
    | none => rw [e] at h; exact h.elim
    | some d =>
      rw [e] at h
      obtain ⟨v, e1, r⟩ := rs.2 i d e
      exact ⟨v, e1, h.here rw r⟩
theorem se_lit {e : Expr} {v : V} {d : D} (h : PE X e (tC v)) (hd : ∀ w H, RD k w H d v) : SE X k C W e (.lit d) := pe_imp h fun σ H Q ⟨w, τ, s, rs, rw, h⟩ => h.here rw (hd w H)
theorem se_bin {o : BOp} {op : Operator} {a b : Expr} {ia ib : IE} {pos : Pos} {r : R2} (ho : OpR X (binaryOp op) r)
    (hr : ∀ w s H σ d e x y Q, RW k w s H → RD k w H d x → RD k w H e y → Post k (Wσ W σ) w H (RD k) (binD o d e s) Q → r x y H Q)
    (ha : SE X k C W a ia) (hb : SE X k C W b ib) : SE X k C W (.BinOp a op b pos) (.bin o ia ib) := pe_imp (pe_op ho ha hb) fun σ H Q ⟨w, τ, s, rs, rw, h⟩ => by
  simp only [ev] at h
  refine ⟨w, τ, s, rs, rw, h.bind.imp fun x H1 ⟨w1, d1, s1, e1, rw1, r1, h1⟩ => ?_⟩
  refine ⟨w1, τ, s1, rs.mono e1, rw1, h1.bind.imp fun y H2 ⟨w2, d2, s2, e2, rw2, r2, h2⟩ => ?_⟩
  exact hr w2 s2 H2 σ d1 d2 x y Q rw2 (r1.mono e2) r2 h2
end
end DI

/-! Data of the evaluator beside the library's data; reading cells off. -/
namespace DI
open PySem L2

mutual
def toP : D → PyData
  | .non => .none
  | .bl b => .bool b
  | .int i => .int i
  | .str z => .str ⟨z.toArray⟩
  | .lst ds => .list (toPs ds)
  | .tup ds => .tuple (toPs ds)
  | _ => .none
def toPs : List D → List PyData
  | [] => []
  | d :: ds => toP d :: toPs ds
end
mutual
theorem plain_shape : ∀ (n : Nat) (d : D), D.plain n d = true → (toP d).canLay0 = true ∧ (toP d).depth ≤ n
  | n, .non, h => by simp [toP, PyData.canLay0, PyData.depth]
  | n, .bl _, h => by simp [toP, PyData.canLay0, PyData.depth]
  | n, .int _, h => by simp [toP, PyData.canLay0, PyData.depth]
  | n, .str z, h => by
    simp only [D.plain] at h
    simp only [toP, PyData.canLay0, PyData.depth, PyData.strOk]
    exact ⟨by simpa using h, Nat.zero_le _⟩
  | 0, .lst ds, h => by simp [D.plain] at h
  | n + 1, .lst ds, h => by
    simp only [D.plain] at h
    obtain ⟨a, b⟩ := plains_shape n ds h
    simp only [toP, PyData.canLay0, PyData.depth]
    exact ⟨a, by omega⟩
  | 0, .tup ds, h => by simp [D.plain] at h
  | n + 1, .tup ds, h => by
    simp only [D.plain] at h
    obtain ⟨a, b⟩ := plains_shape n ds h
    simp only [toP, PyData.canLay0, PyData.depth]
    exact ⟨a, by omega⟩
  | n, .ref _, h => by simp [D.plain] at h
  | n, .loc _, h => by simp [D.plain] at h
  | n, .exc _ _, h => by simp [D.plain] at h
  | n, .ins _ _, h => by simp [D.plain] at h
  | n, .st _, h => by simp [D.plain] at h
  | n, .fn _, h => by simp [D.plain] at h
  | n, .ro _, h => by simp [D.plain] at h
theorem plains_shape : ∀ (n : Nat) (ds : List D), D.plains n ds = true → PyData.canLayAll0 (toPs ds) = true ∧ PyData.depthAll (toPs ds) ≤ n
  | n, [], h => by simp [toPs, PyData.canLayAll0, PyData.depthAll]
  | n, d :: ds, h => by
    simp only [D.plains, Bool.and_eq_true] at h
    obtain ⟨a, b⟩ := plain_shape n d h.1
    obtain ⟨a', b'⟩ := plains_shape n ds h.2
    simp only [toPs, PyData.canLayAll0, PyData.depthAll, a, a', Bool.and_self]
    exact ⟨trivial, by omega⟩
end
theorem shaped_of {d : D} (h : D.plain 60 d = true) : SeqAt.shaped (toP d) = true := by
  obtain ⟨a, b⟩ := plain_shape 60 d h
  unfold SeqAt.shaped
  rw [a, decide_eq_true (by omega)]
  rfl
theorem str_arr {x y : List Nat} : ((⟨x.toArray⟩ : Str) == ⟨y.toArray⟩) = decide (x = y) := by
  rw [Bool.eq_iff_iff]
  simp
mutual
theorem eqv_toP : ∀ (n m : Nat) (d e : D), D.plain n d = true → D.plain m e = true → PyData.eqv (toP d) (toP e) = D.eqv d e
  | n, m, .non, e, h, g => by cases e <;> first | (simp [D.plain] at g; done) | simp [toP, PyData.eqv, D.eqv]
  | n, m, .bl a, e, h, g => by cases e <;> first | (simp [D.plain] at g; done) | (simp [toP, PyData.eqv, D.eqv, b2i, Bool.beq_eq_decide_eq]; done) | (simp [toP, PyData.eqv, D.eqv, b2i]; cases a <;> rfl)
  | n, m, .int a, e, h, g => by
    cases e <;> first | (simp [D.plain] at g; done) | (simp only [toP, PyData.eqv, D.eqv, b2i, Bool.beq_eq_decide_eq]; done) | (simp [toP, PyData.eqv, D.eqv]; done) | (rename_i b; cases b <;> simp [toP, PyData.eqv, D.eqv, b2i, Bool.beq_eq_decide_eq])
  | n, m, .str a, e, h, g => by
    cases e <;> first | (simp [D.plain] at g; done) | (simp [toP, PyData.eqv, D.eqv]; done) | (simp only [toP, PyData.eqv, D.eqv]; exact str_arr)
  | 0, m, .lst ds, e, h, g => by simp [D.plain] at h
  | n + 1, m, .lst ds, e, h, g => by
    simp only [D.plain] at h
    cases e with
    | lst es =>
      cases m with
      | zero => simp [D.plain] at g
      | succ m =>
        simp only [D.plain] at g
        simp only [toP, PyData.eqv, D.eqv]
        exact eqvs_toP n m ds es h g
    | _ => first | (simp [D.plain] at g; done) | simp [toP, PyData.eqv, D.eqv]
  | 0, m, .tup ds, e, h, g => by simp [D.plain] at h
  | n + 1, m, .tup ds, e, h, g => by
    simp only [D.plain] at h
    cases e with
    | tup es =>
      cases m with
      | zero => simp [D.plain] at g
      | succ m =>
        simp only [D.plain] at g
        simp only [toP, PyData.eqv, D.eqv]
        exact eqvs_toP n m ds es h g
    | _ => first | (simp [D.plain] at g; done) | simp [toP, PyData.eqv, D.eqv]
  | n, _, .ref _, _, h, _ => by simp [D.plain] at h
  | n, _, .loc _, _, h, _ => by simp [D.plain] at h
  | n, _, .exc _ _, _, h, _ => by simp [D.plain] at h
  | n, _, .ins _ _, _, h, _ => by simp [D.plain] at h
  | n, _, .st _, _, h, _ => by simp [D.plain] at h
  | n, _, .fn _, _, h, _ => by simp [D.plain] at h
  | n, _, .ro _, _, h, _ => by simp [D.plain] at h
theorem eqvs_toP : ∀ (n m : Nat) (ds es : List D), D.plains n ds = true → D.plains m es = true → PyData.eqvAll (toPs ds) (toPs es) = D.eqvs ds es
  | n, m, [], [], _, _ => by simp [toPs, PyData.eqvAll, D.eqvs]
  | n, m, [], _ :: _, _, _ => by simp [toPs, PyData.eqvAll, D.eqvs]
  | n, m, _ :: _, [], _, _ => by simp [toPs, PyData.eqvAll, D.eqvs]
  | n, m, d :: ds, e :: es, h, g => by
    simp only [D.plains, Bool.and_eq_true] at h g
    simp only [toPs, PyData.eqvAll, D.eqvs]
    rw [eqv_toP n m d e h.1 g.1, eqvs_toP n m ds es h.2 g.2]
end
mutual
theorem alike_toP : ∀ (d e : D), D.alike d e = true → PySem.W.alike (toP d) (toP e) = true
  | .non, e, h => by cases e <;> simp [D.alike] at h <;> simp [toP, PySem.W.alike]
  | .bl _, e, h => by cases e <;> simp [D.alike] at h <;> simp [toP, PySem.W.alike]
  | .int _, e, h => by cases e <;> simp [D.alike] at h <;> simp [toP, PySem.W.alike]
  | .str _, e, h => by cases e <;> simp [D.alike] at h <;> simp [toP, PySem.W.alike]
  | .lst ds, e, h => by
    cases e with
    | lst es =>
      simp only [D.alike] at h
      simp only [toP, PySem.W.alike]
      exact alikes_toP ds es h
    | _ => simp [D.alike] at h
  | .tup ds, e, h => by
    cases e with
    | tup es =>
      simp only [D.alike] at h
      simp only [toP, PySem.W.alike]
      exact alikes_toP ds es h
    | _ => simp [D.alike] at h
  | .ref _, _, h => by simp [D.alike] at h
  | .loc _, _, h => by simp [D.alike] at h
  | .exc _ _, _, h => by simp [D.alike] at h
  | .ins _ _, _, h => by simp [D.alike] at h
  | .st _, _, h => by simp [D.alike] at h
  | .fn _, _, h => by simp [D.alike] at h
  | .ro _, _, h => by simp [D.alike] at h
theorem alikes_toP : ∀ (ds es : List D), D.alikes ds es = true → PySem.W.alikeAll (toPs ds) (toPs es) = true
  | [], _, _ => by simp [toPs, PySem.W.alikeAll]
  | _ :: _, [], _ => by simp [toPs, PySem.W.alikeAll]
  | d :: ds, e :: es, h => by
    simp only [D.alikes, Bool.and_eq_true] at h
    simp only [toPs, PySem.W.alikeAll, alike_toP d e h.1, alikes_toP ds es h.2, Bool.and_self]
end
theorem lexLt_nil2 : PyProof.Rows.lexLt PyProof.Rows.itemOrd (PySem.W.keyToksAll []) (PySem.W.keyToksAll []) = false := by simp only [PySem.W.keyToksAll]; decide
mutual
theorem lt_toP : ∀ (n m : Nat) (d e : D), D.plain n d = true → D.plain m e = true → D.alike d e = true → D.isNone d = false → PySem.W.dataLt (toP d) (toP e) = D.lt d e
  | n, m, .non, e, _, _, h, q => by simp [D.isNone] at q
  | n, m, .bl a, e, _, _, h, _ => by
    cases e with
    | bl b => simp only [toP, D.lt]; rw [PySem.W.dataLt_bool]; cases a <;> cases b <;> decide
    | _ => simp [D.alike] at h
  | n, m, .int _, e, _, _, h, _ => by
    cases e with
    | int b => simp only [toP, D.lt]; rw [PySem.W.dataLt_int]
    | _ => simp [D.alike] at h
  | n, m, .str _, e, _, _, h, _ => by
    cases e with
    | str b => simp only [toP, D.lt]; rw [PySem.W.dataLt_str]
    | _ => simp [D.alike] at h
  | 0, m, .lst ds, e, h, g, a, _ => by simp [D.plain] at h
  | n + 1, m, .lst ds, e, h, g, a, _ => by
    cases e with
    | lst es =>
      cases m with
      | zero => simp [D.plain] at g
      | succ m =>
        simp only [D.plain, D.alike] at h g a
        simp only [toP, D.lt]
        rw [PySem.W.dataLt_list]
        exact lts_toP n m ds es h g a
    | _ => simp [D.alike] at a
  | 0, m, .tup ds, e, h, g, a, _ => by simp [D.plain] at h
  | n + 1, m, .tup ds, e, h, g, a, _ => by
    cases e with
    | tup es =>
      cases m with
      | zero => simp [D.plain] at g
      | succ m =>
        simp only [D.plain, D.alike] at h g a
        simp only [toP, D.lt]
        rw [PySem.W.dataLt_tuple]
        exact lts_toP n m ds es h g a
    | _ => simp [D.alike] at a
  | n, _, .ref _, _, h, _, _, _ => by simp [D.plain] at h
  | n, _, .loc _, _, h, _, _, _ => by simp [D.plain] at h
  | n, _, .exc _ _, _, h, _, _, _ => by simp [D.plain] at h
  | n, _, .ins _ _, _, h, _, _, _ => by simp [D.plain] at h
  | n, _, .st _, _, h, _, _, _ => by simp [D.plain] at h
  | n, _, .fn _, _, h, _, _, _ => by simp [D.plain] at h
  | n, _, .ro _, _, h, _, _, _ => by simp [D.plain] at h
theorem lts_toP : ∀ (n m : Nat) (ds es : List D), D.plains n ds = true → D.plains m es = true → D.alikes ds es = true → PyProof.Rows.lexLt PyProof.Rows.itemOrd (PySem.W.keyToksAll (toPs ds)) (PySem.W.keyToksAll (toPs es)) = D.lts ds es
  | n, m, [], [], _, _, _ => by simp only [toPs, D.lts]; exact lexLt_nil2
  | n, m, [], e :: es, _, _, _ => by
    simp only [toPs, D.lts, PySem.W.keyToksAll]
    rw [PySem.W.lex_atom (by simp) _ _, PySem.W.lex_one]; decide
  | n, m, d :: ds, [], _, _, _ => by
    simp only [toPs, D.lts, PySem.W.keyToksAll]
    rw [PySem.W.lex_atom (by simp) _ _, PySem.W.lex_one]; decide
  | n, m, d :: ds, e :: es, h, g, a => by
    simp only [D.plains, D.alikes, Bool.and_eq_true] at h g a
    simp only [toPs, D.lts]
    rw [PySem.W.dataLt_cons (alike_toP d e a.1), eqv_toP n m d e h.1 g.1, lts_toP n m ds es h.2 g.2 a.2]
    by_cases q : D.eqv d e = true
    · rw [if_pos q, if_pos q]
    · rw [if_neg q, if_neg q, lt_toP n m d e h.1 g.1 a.1]
      cases d <;> first | rfl | (cases e <;> first | (simp [D.alike] at a; done) | (simp [D.eqv] at q))
end

section
variable {k : Kx} {w : Wd} {H : Hp} {s : S}
/-! another world where less is kept from us -/
mutual
theorem RD.out {w' : Wd} (hg : w'.g = w.g) (hx : ∀ p, p ∈ w'.all → p ∈ w.all) : ∀ (d : D) (v : V), D.noC d = true → RD k w H d v → RD k w' H d v
  | .non, _, _, h => h
  | .bl _, _, _, h => h
  | .int _, _, _, h => h
  | .str _, _, _, h => h
  | .tup ds, _, c, ⟨p, vs, e, h, r⟩ => ⟨p, vs, e, h.imp (fun ⟨n, q⟩ => ⟨fun z => n (hx _ z), q⟩) id, RDs.out hg hx ds vs (by simpa [D.noC] using c) r⟩
  | .lst ds, _, c, ⟨p, vs, e, n, h, r⟩ => ⟨p, vs, e, fun z => n (hx _ z), h, RDs.out hg hx ds vs (by simpa [D.noC] using c) r⟩
  | .ro ds, _, c, ⟨p, vs, e, h, r⟩ => ⟨p, vs, e, h.imp (fun ⟨n, q⟩ => ⟨fun z => n (hx _ z), q⟩) id, RDs.out hg hx ds vs (by simpa [D.noC] using c) r⟩
  | .ref a, _, _, ⟨p, h, e⟩ => ⟨p, by rw [hg]; exact h, e⟩
  | .loc a, _, c, _ => by simp [D.noC] at c
  | .exc c f, _, q, ⟨a, d, vf, e, n1, n2, h1, h2, r⟩ => ⟨a, d, vf, e, fun z => n1 (hx _ z), fun z => n2 (hx _ z), h1, h2, RD.out hg hx f vf (by simpa [D.noC] using q) r⟩
  | .fn _, _, _, h => h
  | .ins _ _, _, _, h => h
  | .st _, _, _, h => h
theorem RDs.out {w' : Wd} (hg : w'.g = w.g) (hx : ∀ p, p ∈ w'.all → p ∈ w.all) : ∀ (ds : List D) (vs : List V), D.noCs ds = true → RDs k w H ds vs → RDs k w' H ds vs
  | [], _, _, h => h
  | d :: ds, _, c, ⟨v, r, e, h, t⟩ => by
    simp only [D.noCs, Bool.and_eq_true] at c
    exact ⟨v, r, e, RD.out hg hx d v c.1 h, RDs.out hg hx ds r c.2 t⟩
end
theorem noCs_iff {ds : List D} : D.noCs ds = true ↔ ∀ d ∈ ds, D.noC d = true := by
  induction ds with
  | nil => simp [D.noCs]
  | cons d ds ih => simp [D.noCs, ih]
/-- own cells read off -/
theorem frz_ok {F : List Addr} (rw : RW k w s H) (hF : ∀ p ∈ F, p ∈ w.e) : ∀ (n : Nat) (d e : D) (v : V), D.frz s.L n d = some e → RD k w H d v → RD k ⟨w.g, [], F⟩ H e v ∧ D.noC e = true := by
  have hx : ∀ p, p ∈ (⟨w.g, [], F⟩ : Wd).all → p ∈ w.all := fun p hp => by
    unfold Wd.all at hp ⊢
    simp only [List.append_nil, List.mem_append] at hp ⊢
    rcases hp with h | h
    · exact .inl (.inl h)
    · exact .inr (hF p h)
  intro n
  induction n with
  | zero =>
    intro d e v h r
    simp only [D.frz] at h
    by_cases c : D.noC d = true
    · rw [if_pos c] at h; cases h; exact ⟨RD.out (w := w) (w' := ⟨w.g, [], F⟩) rfl hx d v c r, c⟩
    · rw [if_neg c] at h; cases h
  | succ n ih =>
    intro d e v h r
    have many : ∀ (ds es : List D) (vs : List V), ds.mapM (D.frz s.L n) = some es → RDs k w H ds vs → RDs k ⟨w.g, [], F⟩ H es vs ∧ D.noCs es = true := by
      intro ds
      induction ds with
      | nil => intro es vs q t; simp at q; subst q; rw [show vs = [] from t]; exact ⟨rfl, rfl⟩
      | cons d ds ihd =>
        intro es vs q ⟨u, us, e1, r1, t⟩
        rw [List.mapM_cons] at q
        cases q1 : D.frz s.L n d with
        | none => rw [q1] at q; simp at q
        | some d' =>
          cases q2 : ds.mapM (D.frz s.L n) with
          | none => rw [q1, q2] at q; simp at q
          | some ds' =>
            rw [q1, q2] at q
            simp at q
            subst q
            obtain ⟨a, b⟩ := ih d d' u q1 r1
            obtain ⟨a', b'⟩ := ihd ds' us q2 t
            exact ⟨⟨u, us, e1, a, a'⟩, by simp [D.noCs, b, b']⟩
    simp only [D.frz] at h
    by_cases c : D.noC d = true
    · rw [if_pos c] at h; cases h; exact ⟨RD.out (w := w) (w' := ⟨w.g, [], F⟩) rfl hx d v c r, c⟩
    · rw [if_neg c] at h
      unfold frzC at h
      cases d with
      | loc a =>
        obtain ⟨p, hp, e1⟩ := r
        simp only at h
        cases q : s.L[a]? with
        | none => rw [q] at h; cases h
        | some cl =>
          rw [q] at h
          cases cl with
          | dead => cases h
          | lst ds =>
            simp only at h
            cases q2 : ds.mapM (D.frz s.L n) with
            | none => rw [q2] at h; cases h
            | some es =>
              rw [q2] at h
              simp only [Option.map_some, Option.some.injEq] at h
              subst h
              obtain ⟨vs, hv, rv⟩ := rw.l a _ p q hp
              obtain ⟨a1, a2⟩ := many ds es vs q2 rv
              refine ⟨⟨p, vs, e1, fun z => ?_, hv, a1⟩, by simpa [D.noC] using a2⟩
              have nd := rw.nod
              unfold Wd.all at nd z
              simp only [List.append_nil] at z
              rw [List.nodup_append] at nd
              obtain ⟨nd1, _, nd3⟩ := nd
              rw [List.nodup_append] at nd1
              have hpl : p ∈ w.l := List.mem_of_getElem? hp
              rcases List.mem_append.mp z with z | z
              · exact nd1.2.2 p z p hpl rfl
              · exact nd3 p (List.mem_append_right _ hpl) p (hF p z) rfl
      | lst ds =>
        obtain ⟨p, vs, e1, nn, hh, t⟩ := r
        simp only at h
        cases q2 : ds.mapM (D.frz s.L n) with
        | none => rw [q2] at h; cases h
        | some es =>
          rw [q2] at h
          simp only [Option.map_some, Option.some.injEq] at h
          subst h
          obtain ⟨a1, a2⟩ := many ds es vs q2 t
          exact ⟨⟨p, vs, e1, fun z => nn (hx _ z), hh, a1⟩, by simpa [D.noC] using a2⟩
      | tup ds =>
        obtain ⟨p, vs, e1, hh, t⟩ := r
        simp only at h
        cases q2 : ds.mapM (D.frz s.L n) with
        | none => rw [q2] at h; cases h
        | some es =>
          rw [q2] at h
          simp only [Option.map_some, Option.some.injEq] at h
          subst h
          obtain ⟨a1, a2⟩ := many ds es vs q2 t
          exact ⟨⟨p, vs, e1, hh.imp (fun ⟨n, q⟩ => ⟨fun z => n (hx _ z), q⟩) id, a1⟩, by simpa [D.noC] using a2⟩
      | _ => cases h
theorem frzs_ok {F : List Addr} (rw : RW k w s H) (hF : ∀ p ∈ F, p ∈ w.e) (n : Nat) : ∀ (ds es : List D) (vs : List V), ds.mapM (D.frz s.L n) = some es → RDs k w H ds vs → RDs k ⟨w.g, [], F⟩ H es vs ∧ D.noCs es = true
  | [], es, vs, q, t => by simp at q; subst q; rw [show vs = [] from t]; exact ⟨rfl, rfl⟩
  | d :: ds, es, vs, q, ⟨u, us, e1, r1, t⟩ => by
    rw [List.mapM_cons] at q
    cases q1 : D.frz s.L n d with
    | none => rw [q1] at q; simp at q
    | some d' =>
      cases q2 : ds.mapM (D.frz s.L n) with
      | none => rw [q1, q2] at q; simp at q
      | some ds' =>
        rw [q1, q2] at q
        simp at q
        subst q
        obtain ⟨a, b⟩ := frz_ok rw hF n d d' u q1 r1
        obtain ⟨a', b'⟩ := frzs_ok rw hF n ds ds' us q2 t
        exact ⟨⟨u, us, e1, a, a'⟩, by simp [D.noCs, b, b']⟩
mutual
theorem RD.dp {w : Wd} : ∀ (n : Nat) (d : D) (v : V), D.plain n d = true → RD k w H d v → Dp k.K H v (toP d)
  | n, .non, _, _, h => by cases h; exact .non
  | n, .bl _, _, _, h => by cases h; exact .bl _
  | n, .int _, _, _, h => by cases h; exact .int _
  | n, .str _, _, _, h => by cases h; exact .str _
  | 0, .lst ds, _, p, _ => by simp [D.plain] at p
  | n + 1, .lst ds, _, p, ⟨a, vs, e, _, h, r⟩ => by
    rw [e]
    simp only [D.plain] at p
    simp only [toP]
    exact .lst (SqL.of h) (RDs.dp n ds vs p r)
  | 0, .tup ds, _, p, _ => by simp [D.plain] at p
  | n + 1, .tup ds, _, p, ⟨a, vs, e, h, r⟩ => by
    rw [e]
    simp only [D.plain] at p
    simp only [toP]
    exact .tup h.sq (RDs.dp n ds vs p r)
  | n, .ref _, _, h, _ => by simp [D.plain] at h
  | n, .loc _, _, h, _ => by simp [D.plain] at h
  | n, .exc _ _, _, h, _ => by simp [D.plain] at h
  | n, .ins _ _, _, h, _ => by simp [D.plain] at h
  | n, .st _, _, h, _ => by simp [D.plain] at h
  | n, .fn _, _, h, _ => by simp [D.plain] at h
  | n, .ro _, _, h, _ => by simp [D.plain] at h
theorem RDs.dp {w : Wd} : ∀ (n : Nat) (ds : List D) (vs : List V), D.plains n ds = true → RDs k w H ds vs → DpAll k.K H vs (toPs ds)
  | n, [], vs, _, h => by rw [show vs = [] from h]; exact .nil
  | n, d :: ds, _, p, ⟨v, r, e, h, t⟩ => by
    rw [e]
    simp only [D.plains, Bool.and_eq_true] at p
    simp only [toPs]
    exact .cons (RD.dp n d v p.1 h) (RDs.dp n ds r p.2 t)
end
theorem data_ok {d e : D} {v : V} (rw : RW k w s H) (h : s.data d = some e) (r : RD k w H d v) : Dp k.K H v (toP e) ∧ D.plain 60 e = true := by
  unfold S.data at h
  cases q : D.frz s.L depthC d with
  | none => rw [q] at h; cases h
  | some d' =>
    rw [q] at h
    simp only at h
    by_cases c : D.plain 60 d' = true
    · rw [if_pos c] at h; cases h
      exact ⟨(frz_ok (F := []) rw (fun _ z => nomatch z) _ d e v q r).1.dp 60 e v c, c⟩
    · rw [if_neg c] at h; cases h
theorem lst_ok {d : D} {ds : List D} {v : V} (rw : RW k w s H) (h : s.lst d = some ds) (r : RD k w H d v) : ∃ p vs, v = .ref p ∧ SqL k.K H p vs ∧ RDs k w H ds vs := by
  cases d with
  | lst es => cases h; obtain ⟨p, vs, e, _, hh, t⟩ := r; exact ⟨p, vs, e, SqL.of hh, t⟩
  | ro es => cases h; obtain ⟨p, vs, e, hh, t⟩ := r; exact ⟨p, vs, e, hh.sq, t⟩
  | loc a =>
    obtain ⟨p, hp, e⟩ := r
    simp only [S.lst] at h
    cases q : s.L[a]? with
    | none => rw [q] at h; cases h
    | some c =>
      rw [q] at h
      cases c with
      | dead => cases h
      | lst es =>
        cases h
        obtain ⟨vs, hv, t⟩ := rw.l a _ p q hp
        exact ⟨p, vs, e, SqL.of hv, t⟩
  | ref a =>
    obtain ⟨p, hp, e⟩ := r
    simp only [S.lst] at h
    cases q : s.G[a]? with
    | none => rw [q] at h; cases h
    | some c =>
      rw [q] at h
      cases c with
      | dead => cases h
      | lst es =>
        cases h
        obtain ⟨⟨vs, hv, t⟩, _⟩ := rw.g a _ p q hp
        exact ⟨p, vs, e, SqL.of hv, t⟩
  | _ => cases h
theorem lst'_ok {d : D} {ds : List D} {v : V} (rw : RW k w s H) (h : s.lst' d = some ds) (r : RD k w H d v) : ∃ p vs, v = .ref p ∧ H p = some (.lst vs) ∧ RDs k w H ds vs := by
  cases d with
  | lst es => cases h; obtain ⟨p, vs, e, _, hh, t⟩ := r; exact ⟨p, vs, e, hh, t⟩
  | ro es => cases h
  | loc a =>
    obtain ⟨p, hp, e⟩ := r
    simp only [S.lst', S.lst] at h
    cases q : s.L[a]? with
    | none => rw [q] at h; cases h
    | some c =>
      rw [q] at h
      cases c with
      | dead => cases h
      | lst es =>
        cases h
        obtain ⟨vs, hv, t⟩ := rw.l a _ p q hp
        exact ⟨p, vs, e, hv, t⟩
  | ref a =>
    obtain ⟨p, hp, e⟩ := r
    simp only [S.lst', S.lst] at h
    cases q : s.G[a]? with
    | none => rw [q] at h; cases h
    | some c =>
      rw [q] at h
      cases c with
      | dead => cases h
      | lst es =>
        cases h
        obtain ⟨⟨vs, hv, t⟩, _⟩ := rw.g a _ p q hp
        exact ⟨p, vs, e, hv, t⟩
  | _ => cases h
theorem seq_ok {d : D} {ds : List D} {v : V} (rw : RW k w s H) (h : s.seq d = some ds) (r : RD k w H d v) : ∃ p vs, v = .ref p ∧ (SqL k.K H p vs ∨ SqT k.K H p vs) ∧ RDs k w H ds vs := by
  cases d with
  | tup es => cases h; obtain ⟨p, vs, e, hh, t⟩ := r; exact ⟨p, vs, e, .inr hh.sq, t⟩
  | _ =>
    simp only [S.seq] at h
    obtain ⟨p, vs, e, hh, t⟩ := lst_ok rw h r
    exact ⟨p, vs, e, .inl hh, t⟩
end
end DI

/-! Operators, comparisons, truth, displays. -/
namespace DI
open PySem L2

section
variable {k : Kx} {w : Wd} {H : Hp} {s : S}
/-! ### cells -/
theorem addL (rw : RW k w s H) {p : Addr} {ds : List D} {vs : List V} (hp : H p = none) (r : RDs k w H ds vs) :
    Ext w H ⟨w.g, w.l ++ [p], w.e⟩ (upd H p (.lst vs)) ∧ RW k ⟨w.g, w.l ++ [p], w.e⟩ ⟨s.G, s.L ++ [.lst ds]⟩ (upd H p (.lst vs)) := by
  have hn := rw.fresh hp
  have mem : ∀ q, q ∈ (⟨w.g, w.l ++ [p], w.e⟩ : Wd).all ↔ (q ∈ w.all ∨ q = p) := fun q => by
    unfold Wd.all
    simp only [List.mem_append, List.mem_singleton]
    constructor
    · rintro ((h | h | h) | h)
      · exact .inl (.inl (.inl h))
      · exact .inl (.inl (.inr h))
      · exact .inr h
      · exact .inl (.inr h)
    · rintro (((h | h) | h) | h)
      · exact .inl (.inl h)
      · exact .inl (.inr (.inl h))
      · exact .inr h
      · exact .inl (.inr (.inr h))
  have ext : Ext w H ⟨w.g, w.l ++ [p], w.e⟩ (upd H p (.lst vs)) := by
    refine ⟨fun a q h => h, fun a q h => ?_, fun _ h => h, fun q h => ?_, fun q o nq h => ?_, fun q h => ?_⟩
    · show (w.l ++ [p])[a]? = some q
      rw [List.getElem?_append_left (List.getElem?_eq_some_iff.mp h).1]
      exact h
    · rcases (mem q).mp h with h | h
      · exact .inl h
      · rw [h]; exact .inr hp
    · rw [upd_ne (ne_of_none h hp)]; exact h
    · obtain ⟨u, e⟩ := rw.e q h
      rw [upd_ne (ne_of_none e hp)]
  refine ⟨ext, rw.gl, by simp [rw.ll], fun a c q h1 h2 => ?_, fun a c q h1 h2 => ?_, ?_, fun q h => ?_⟩
  · obtain ⟨z, hc⟩ := rw.g a c q h1 h2
    obtain ⟨u, e⟩ := z.there
    exact ⟨z.mono' ext (upd_ne (ne_of_none e hp)), hc⟩
  · by_cases ha : a < s.L.length
    · rw [List.getElem?_append_left ha] at h1
      have h2' : (w.l ++ [p])[a]? = some q := h2
      rw [List.getElem?_append_left (by rw [rw.ll]; exact ha)] at h2'
      have z := rw.l a c q h1 h2'
      obtain ⟨u, e⟩ := z.there
      exact z.mono' ext (upd_ne (ne_of_none e hp))
    · have ea : a = s.L.length := by
        have := (List.getElem?_eq_some_iff.mp h1).1
        simp at this; omega
      subst ea
      have h2' : (w.l ++ [p])[s.L.length]? = some q := h2
      rw [← rw.ll] at h2'
      simp at h1 h2'
      subst h1 h2'
      exact ⟨vs, upd_same, r.mono ext⟩
  · have nd := rw.nod
    unfold Wd.all at nd hn ⊢
    simp only [List.nodup_append, List.mem_append, List.nodup_cons, List.not_mem_nil, not_false_eq_true, List.nodup_nil, List.mem_singleton, true_and] at nd hn ⊢
    grind
  · obtain ⟨u, e⟩ := rw.e q h
    exact ⟨u, by rw [upd_ne (ne_of_none e hp)]; exact e⟩
theorem addG (rw : RW k w s H) {p : Addr} {ds : List D} {vs : List V} (hp : H p = none) (r : RDs k w H ds vs) (hc : D.noCs ds = true) :
    Ext w H ⟨w.g ++ [p], w.l, w.e⟩ (upd H p (.lst vs)) ∧ RW k ⟨w.g ++ [p], w.l, w.e⟩ ⟨s.G ++ [.lst ds], s.L⟩ (upd H p (.lst vs)) := by
  have hn := rw.fresh hp
  have mem : ∀ q, q ∈ (⟨w.g ++ [p], w.l, w.e⟩ : Wd).all ↔ (q ∈ w.all ∨ q = p) := fun q => by
    unfold Wd.all
    simp only [List.mem_append, List.mem_singleton]
    constructor
    · rintro (((h | h) | h) | h)
      · exact .inl (.inl (.inl h))
      · exact .inr h
      · exact .inl (.inl (.inr h))
      · exact .inl (.inr h)
    · rintro (((h | h) | h) | h)
      · exact .inl (.inl (.inl h))
      · exact .inl (.inr h)
      · exact .inr h
      · exact .inl (.inl (.inr h))
  have ext : Ext w H ⟨w.g ++ [p], w.l, w.e⟩ (upd H p (.lst vs)) := by
    refine ⟨fun a q h => ?_, fun a q h => h, fun _ h => h, fun q h => ?_, fun q o nq h => ?_, fun q h => ?_⟩
    · show (w.g ++ [p])[a]? = some q
      rw [List.getElem?_append_left (List.getElem?_eq_some_iff.mp h).1]
      exact h
    · rcases (mem q).mp h with h | h
      · exact .inl h
      · rw [h]; exact .inr hp
    · rw [upd_ne (ne_of_none h hp)]; exact h
    · obtain ⟨u, e⟩ := rw.e q h
      rw [upd_ne (ne_of_none e hp)]
  refine ⟨ext, by simp [rw.gl], rw.ll, fun a c q h1 h2 => ?_, fun a c q h1 h2 => ?_, ?_, fun q h => ?_⟩
  · by_cases ha : a < s.G.length
    · rw [List.getElem?_append_left ha] at h1
      have h2' : (w.g ++ [p])[a]? = some q := h2
      rw [List.getElem?_append_left (by rw [rw.gl]; exact ha)] at h2'
      obtain ⟨z, hc⟩ := rw.g a c q h1 h2'
      obtain ⟨u, e⟩ := z.there
      exact ⟨z.mono' ext (upd_ne (ne_of_none e hp)), hc⟩
    · have ea : a = s.G.length := by
        have := (List.getElem?_eq_some_iff.mp h1).1
        simp at this; omega
      subst ea
      have h2' : (w.g ++ [p])[s.G.length]? = some q := h2
      rw [← rw.gl] at h2'
      simp at h1 h2'
      subst h1 h2'
      exact ⟨⟨vs, upd_same, r.mono ext⟩, hc⟩
  · have z := rw.l a c q h1 h2
    obtain ⟨u, e⟩ := z.there
    exact z.mono' ext (upd_ne (ne_of_none e hp))
  · have nd := rw.nod
    unfold Wd.all at nd hn ⊢
    simp only [List.nodup_append, List.mem_append, List.nodup_cons, List.not_mem_nil, not_false_eq_true, List.nodup_nil, List.mem_singleton, true_and] at nd hn ⊢
    grind
  · obtain ⟨u, e⟩ := rw.e q h
    exact ⟨u, by rw [upd_ne (ne_of_none e hp)]; exact e⟩
/-- a new list -/
theorem mkL_ok {W : Value → Option Addr → Hp → Prop} (rw : RW k w s H) {m : Mode} {p : Addr} {ds : List D} {vs : List V} {Q : VK} (hp : H p = none) (r : RDs k w H ds vs) (h : Post k W w H (RD k) (mkL m ds s) Q) : Q (.ref p) (upd H p (.lst vs)) := by
  cases m with
  | fz => exact h w _ _ (Ext.new rw hp) (rw.new hp) ⟨p, vs, rfl, rw.fresh hp, upd_same, r.mono (Ext.new rw hp)⟩
  | loc =>
    obtain ⟨e1, r1⟩ := addL rw hp r
    exact h _ _ _ e1 r1 ⟨p, by show (w.l ++ [p])[s.L.length]? = some p; rw [← rw.ll]; simp, rfl⟩
  | glob =>
    unfold mkL at h
    by_cases c : D.noCs ds = true
    · simp only [c, if_true] at h
      obtain ⟨e1, r1⟩ := addG rw hp r c
      exact h _ _ _ e1 r1 ⟨p, by show (w.g ++ [p])[s.G.length]? = some p; rw [← rw.gl]; simp, rfl⟩
    · simp only [c, if_false] at h
      exact h.elim
/-- a list's cell, changed -/
theorem setL_ok (rw : RW k w s H) {d : D} {v : V} {ds0 ds : List D} {s' : S} (r : RD k w H d v) (h0 : s.lst d = some ds0) (h : setL d ds s = some s') :
    ∃ p vs0, v = .ref p ∧ H p = some (.lst vs0) ∧ RDs k w H ds0 vs0 ∧ ∀ vs, RDs k w H ds vs → Ext w H w (upd H p (.lst vs)) ∧ RW k w s' (upd H p (.lst vs)) := by
  have nd := rw.nod
  unfold Wd.all at nd
  rw [List.nodup_append] at nd
  obtain ⟨nd1, nde, nd3⟩ := nd
  rw [List.nodup_append] at nd1
  obtain ⟨ndg, ndl, nd4⟩ := nd1
  have mk : ∀ p vs0 vs, H p = some (.lst vs0) → p ∈ w.g ++ w.l → Ext w H w (upd H p (.lst vs)) := fun p vs0 vs hp hm =>
    ⟨fun _ _ h => h, fun _ _ h => h, fun _ h => h, fun _ h => .inl h, fun q o nq e => by
      rw [upd_ne (fun z => nq (by rw [z]; exact List.mem_append_left _ hm))]; exact e, fun q hq => by
      rw [upd_ne (fun z => nd3 p hm q hq z.symm)]⟩
  have inj : ∀ {l : List Addr} {i j : Nat} {p : Addr}, l.Nodup → l[i]? = some p → l[j]? = some p → i = j := fun {l i j p} hn h1 h2 => by
    obtain ⟨a1, b1⟩ := List.getElem?_eq_some_iff.mp h1
    obtain ⟨a2, b2⟩ := List.getElem?_eq_some_iff.mp h2
    exact (List.getElem_inj hn).mp (b1.trans b2.symm)
  cases d with
  | loc a =>
    obtain ⟨p, hp, ev⟩ := r
    simp only [S.lst] at h0
    simp only [setL] at h
    cases q : s.L[a]? with
    | none => rw [q] at h0; cases h0
    | some c =>
      rw [q] at h0 h
      cases c with
      | dead => cases h0
      | lst es =>
        cases h0
        simp only [Option.some.injEq] at h
        subst h
        obtain ⟨vs0, hv, t⟩ := rw.l a _ p q hp
        have hm : p ∈ w.l := List.mem_of_getElem? hp
        refine ⟨p, vs0, ev, hv, t, fun vs rv => ?_⟩
        have ext := mk p vs0 vs hv (List.mem_append_right _ hm)
        refine ⟨ext, rw.gl, by simp [rw.ll], fun i c' p' h1 h2 => ?_, fun i c' p' h1 h2 => ?_, rw.nod, fun p' h' => ?_⟩
        · obtain ⟨z, hc⟩ := rw.g i c' p' h1 h2
          exact ⟨z.mono' ext (upd_ne (nd4 p' (List.mem_of_getElem? h2) p hm)), hc⟩
        · by_cases hi : i = a
          · subst hi
            rw [hp] at h2
            cases h2
            rw [List.getElem?_set_self (List.getElem?_eq_some_iff.mp q).1] at h1
            cases h1
            exact ⟨vs, upd_same, rv.mono ext⟩
          · rw [List.getElem?_set_ne (Ne.symm hi)] at h1
            exact (rw.l i c' p' h1 h2).mono' ext (upd_ne (fun z => hi (inj ndl (by rw [h2, z]) hp)))
        · obtain ⟨o, e⟩ := rw.e p' h'
          exact ⟨o, by rw [ext.efix p' h']; exact e⟩
  | ref a =>
    obtain ⟨p, hp, ev⟩ := r
    simp only [S.lst] at h0
    simp only [setL] at h
    cases q : s.G[a]? with
    | none => rw [q] at h0; cases h0
    | some c =>
      rw [q] at h0 h
      cases c with
      | dead => cases h0
      | lst es =>
        cases h0
        simp only at h
        by_cases hc : D.noCs ds = true
        · rw [if_pos hc] at h
          simp only [Option.some.injEq] at h
          subst h
          obtain ⟨⟨vs0, hv, t⟩, _⟩ := rw.g a _ p q hp
          have hm : p ∈ w.g := List.mem_of_getElem? hp
          refine ⟨p, vs0, ev, hv, t, fun vs rv => ?_⟩
          have ext := mk p vs0 vs hv (List.mem_append_left _ hm)
          refine ⟨ext, by simp [rw.gl], rw.ll, fun i c' p' h1 h2 => ?_, fun i c' p' h1 h2 => ?_, rw.nod, fun p' h' => ?_⟩
          · by_cases hi : i = a
            · subst hi
              rw [hp] at h2
              cases h2
              rw [List.getElem?_set_self (List.getElem?_eq_some_iff.mp q).1] at h1
              cases h1
              exact ⟨⟨vs, upd_same, rv.mono ext⟩, hc⟩
            · rw [List.getElem?_set_ne (Ne.symm hi)] at h1
              obtain ⟨z, hc'⟩ := rw.g i c' p' h1 h2
              exact ⟨z.mono' ext (upd_ne (fun z => hi (inj ndg (by rw [h2, z]) hp))), hc'⟩
          · exact (rw.l i c' p' h1 h2).mono' ext (upd_ne (fun z => nd4 p hm p' (List.mem_of_getElem? h2) z.symm))
          · obtain ⟨o, e⟩ := rw.e p' h'
            exact ⟨o, by rw [ext.efix p' h']; exact e⟩
        · rw [if_neg hc] at h; cases h
  | lst es => simp [setL] at h
  | ro es => simp [setL] at h
  | _ => cases h0
end

/-! ### truth -/
section
variable {k : Kx} {w : Wd} {H : Hp} {s : S}
theorem sizeL_eq : sizeL = sizeLine := by rw [sizeLine_eq]; rfl
theorem tr_ok {d : D} {v : V} {b : Bool} (rw : RW k w s H) (r : RD k w H d v) (h : s.tr d = some b) : TruV k.K v H b := by
  have sq : ∀ {ds : List D}, s.seq d = some ds → (!ds.isEmpty) = b → TruV k.K v H b := fun {ds} e1 e2 => by
    obtain ⟨p, vs, e, hh, t⟩ := seq_ok rw e1 r
    rw [e]
    have hb : b = !vs.isEmpty := by
      rw [← e2]
      cases ds with
      | nil => rw [show vs = [] from t]; rfl
      | cons _ _ => obtain ⟨_, _, e3, _⟩ := t; rw [e3]; rfl
    rcases hh with hh | hh
    · exact .inl ⟨vs, hh, hb⟩
    · exact .inr (.inl ⟨vs, hh, hb⟩)
  have other : ∀ {o : Option (List D)}, o = s.seq d → (o.map fun ds => !ds.isEmpty) = some b → TruV k.K v H b := fun {o} e1 e2 => by
    cases o with
    | none => cases e2
    | some ds => exact sq e1.symm (by simpa using e2)
  cases d with
  | non => cases h; cases r; rfl
  | bl c => cases h; cases r; rfl
  | int i => cases h; cases r; show (!decide (i = 0)) = (i != 0); rw [bne, Bool.beq_eq_decide_eq]
  | str z =>
    cases r
    simp only [S.tr] at h
    by_cases hz : z.length ≤ sizeL
    · rw [if_pos hz] at h
      simp only [Option.some.injEq] at h
      refine ⟨by rw [← sizeL_eq]; simpa [Str.length] using hz, ?_⟩
      rw [← h]
      cases z <;> simp [Str.length]
      omega
    · rw [if_neg hz] at h; cases h
  | _ => exact other rfl h
end

section
variable {X : Cx} {k : Kx} {C : CallH} {W : WX}
/-- a value's truth -/
theorem st_val {e : Expr} {i : IE} (h : SE X k C W e i) (hk : k.K = X.K) (he : ∀ whole, isTrue e X.env whole = (do let v ← whole; standAt e.pos; holding [v] (truthy v)) := by intro _; rfl) : ST X k C W e i := pt_imp (pt_truth h he) fun σ H Q ⟨w, τ, s, rs, rw, q⟩ => by
  refine ⟨w, τ, s, rs, rw, q.bind.imp fun v H1 ⟨w1, d1, s1, e1, rw1, r1, q1⟩ => ?_⟩
  obtain ⟨b, eb, q2⟩ := q1.of
  rw [← hk]
  exact ⟨b, tr_ok rw1 r1 eb, q2.here rw1 rfl⟩
/-- a test that is a bool by itself -/
theorem st_bl {e : Expr} {i : IE} {t : TE} (h : PT X e (tB (tE k C W i)))
    (hb : ∀ τ s d s', ev C i τ s = .ok d s' → ∃ b, d = .bl b) : ST X k C W e i := pt_imp h fun σ H Q ⟨w, τ, s, rs, rw, q⟩ => by
  refine ⟨w, τ, s, rs, rw, ?_⟩
  unfold evT at q
  cases e1 : ev C i τ s with
  | no => rw [e1] at q; exact q.elim
  | ex x s' => rw [e1] at q; exact q
  | ok d s' =>
    obtain ⟨b, rfl⟩ := hb τ s d s' e1
    rw [e1] at q
    intro w' v H' x y r
    cases r
    exact ⟨b, rfl, q w' b H' x y rfl⟩
theorem st_not {e : Expr} {i : IE} {pos : Pos} (h : ST X k C W e i) : ST X k C W (.UnaryOp .Not e pos) (.not i) := pt_imp (pt_not h) fun σ H Q ⟨w, τ, s, rs, rw, q⟩ => by
  refine ⟨w, τ, s, rs, rw, ?_⟩
  unfold evT at q ⊢
  simp only [ev] at q
  cases e1 : ev C i τ s with
  | no => rw [e1] at q; exact q.elim
  | ex x s' => rw [e1] at q; exact q
  | ok d s' =>
    rw [e1] at q
    simp only [R.bind] at q ⊢
    cases e2 : s'.tr d with
    | none => rw [e2] at q; exact q.elim
    | some b =>
      rw [e2] at q
      exact fun w' b' H' x y r => by cases r; exact q w' _ H' x y rfl
theorem sw_and1 {e : Expr} {i : IE} {pos : Pos} (h : ST X k C W e i) : SW X k C W (.BoolOp .And [e] pos) i := pw_and1 h
theorem sw_or1 {e : Expr} {i : IE} {pos : Pos} (h : ST X k C W e i) : SW X k C W (.BoolOp .Or [e] pos) i := pw_or1 h
theorem sw_and {a b : Expr} {rest : List Expr} {i j : IE} {pos : Pos} (ha : ST X k C W a i) (hb : SW X k C W (.BoolOp .And (b :: rest) pos) j) : SW X k C W (.BoolOp .And (a :: b :: rest) pos) (.and i j) := pw_imp (pw_and ha hb) fun σ H Q ⟨w, τ, s, rs, rw, q⟩ => by
  refine ⟨w, τ, s, rs, rw, ?_⟩
  unfold evT at q ⊢
  simp only [ev] at q
  cases e1 : ev C i τ s with
  | no => rw [e1] at q; exact q.elim
  | ex x s' => rw [e1] at q; exact q
  | ok d s' =>
    rw [e1] at q
    simp only [R.bind] at q ⊢
    cases e2 : s'.tr d with
    | none => rw [e2] at q; exact q.elim
    | some b =>
      rw [e2] at q
      intro w' b' H' x y r
      cases r
      cases b with
      | true =>
        rw [if_pos rfl]
        exact ⟨w', τ, s', rs.mono x, y, Post.mono x q⟩
      | false =>
        rw [if_neg Bool.false_ne_true]
        simp only [e2] at q
        exact q w' false H' x y rfl
theorem sw_or {a b : Expr} {rest : List Expr} {i j : IE} {pos : Pos} (ha : ST X k C W a i) (hb : SW X k C W (.BoolOp .Or (b :: rest) pos) j) : SW X k C W (.BoolOp .Or (a :: b :: rest) pos) (.or i j) := pw_imp (pw_or ha hb) fun σ H Q ⟨w, τ, s, rs, rw, q⟩ => by
  refine ⟨w, τ, s, rs, rw, ?_⟩
  unfold evT at q ⊢
  simp only [ev] at q
  cases e1 : ev C i τ s with
  | no => rw [e1] at q; exact q.elim
  | ex x s' => rw [e1] at q; exact q
  | ok d s' =>
    rw [e1] at q
    simp only [R.bind] at q ⊢
    cases e2 : s'.tr d with
    | none => rw [e2] at q; exact q.elim
    | some b =>
      rw [e2] at q
      intro w' b' H' x y r
      cases r
      cases b with
      | false =>
        rw [if_neg Bool.false_ne_true]
        exact ⟨w', τ, s', rs.mono x, y, Post.mono x q⟩
      | true =>
        rw [if_pos rfl]
        simp only [e2] at q
        exact q w' true H' x y rfl
/-- .. as values -/
theorem se_one {op : BoolOp} {e : Expr} {i : IE} {pos : Pos} (h : SE X k C W e i) : SE X k C W (.BoolOp op [e] pos) i := pe_one h
theorem se_and {a b : Expr} {rest : List Expr} {i j : IE} {pos : Pos} (hk : k.K = X.K) (ha : SE X k C W a i) (hb : SE X k C W (.BoolOp .And (b :: rest) pos) j) : SE X k C W (.BoolOp .And (a :: b :: rest) pos) (.and i j) := pe_imp (pe_andT ha hb) fun σ H Q ⟨w, τ, s, rs, rw, q⟩ => by
  simp only [ev] at q
  refine ⟨w, τ, s, rs, rw, q.bind.imp fun v H1 ⟨w1, d1, s1, e1, rw1, r1, q1⟩ => ?_⟩
  cases e2 : s1.tr d1 with
  | none => rw [e2] at q1; exact q1.elim
  | some b =>
    rw [e2] at q1
    refine ⟨b, by rw [← hk]; exact tr_ok rw1 r1 e2, ?_⟩
    cases b with
    | true => rw [if_pos rfl]; exact ⟨w1, τ, s1, rs.mono e1, rw1, q1⟩
    | false => rw [if_neg Bool.false_ne_true]; exact q1.here rw1 r1
theorem se_or {a b : Expr} {rest : List Expr} {i j : IE} {pos : Pos} (hk : k.K = X.K) (ha : SE X k C W a i) (hb : SE X k C W (.BoolOp .Or (b :: rest) pos) j) : SE X k C W (.BoolOp .Or (a :: b :: rest) pos) (.or i j) := pe_imp (pe_orT ha hb) fun σ H Q ⟨w, τ, s, rs, rw, q⟩ => by
  simp only [ev] at q
  refine ⟨w, τ, s, rs, rw, q.bind.imp fun v H1 ⟨w1, d1, s1, e1, rw1, r1, q1⟩ => ?_⟩
  cases e2 : s1.tr d1 with
  | none => rw [e2] at q1; exact q1.elim
  | some b =>
    rw [e2] at q1
    refine ⟨b, by rw [← hk]; exact tr_ok rw1 r1 e2, ?_⟩
    cases b with
    | true => rw [if_pos rfl]; exact q1.here rw1 r1
    | false => rw [if_neg Bool.false_ne_true]; exact ⟨w1, τ, s1, rs.mono e1, rw1, q1⟩
theorem se_not {e : Expr} {i : IE} {pos : Pos} (hk : k.K = X.K) (h : SE X k C W e i) : SE X k C W (.UnaryOp .Not e pos) (.not i) := pe_imp (pe_notT h) fun σ H Q ⟨w, τ, s, rs, rw, q⟩ => by
  simp only [ev] at q
  refine ⟨w, τ, s, rs, rw, q.bind.imp fun v H1 ⟨w1, d1, s1, e1, rw1, r1, q1⟩ => ?_⟩
  obtain ⟨d, ed, q2⟩ := q1.of
  cases e2 : s1.tr d1 with
  | none => rw [e2] at ed; cases ed
  | some b =>
    rw [e2] at ed
    cases ed
    exact ⟨b, by rw [← hk]; exact tr_ok rw1 r1 e2, q2.here rw1 rfl⟩
theorem se_ife {c a b : Expr} {ic ia ib : IE} {pos : Pos} (hc : ST X k C W c ic) (ha : SE X k C W a ia) (hb : SE X k C W b ib) : SE X k C W (.IfExp c a b pos) (.ife ic ia ib) := pe_imp (pe_ifExp hc ha hb) fun σ H Q ⟨w, τ, s, rs, rw, q⟩ => by
  refine ⟨w, τ, s, rs, rw, ?_⟩
  unfold evT
  simp only [ev] at q
  cases e1 : ev C ic τ s with
  | no => rw [e1] at q; exact q.elim
  | ex x s' => rw [e1] at q; exact q
  | ok d s' =>
    rw [e1] at q
    simp only [R.bind] at q ⊢
    cases e2 : s'.tr d with
    | none => rw [e2] at q; exact q.elim
    | some b =>
      rw [e2] at q
      intro w' b' H' x y r
      cases r
      cases b with
      | true =>
        rw [if_pos rfl]
        exact ⟨w', τ, s', rs.mono x, y, Post.mono x q⟩
      | false =>
        rw [if_neg Bool.false_ne_true]
        exact ⟨w', τ, s', rs.mono x, y, Post.mono x q⟩

/-! ### arguments, displays -/
theorem sa_nil : SA X k C W [] .nil := pa_imp pa_nil fun σ H Q ⟨w, τ, s, rs, rw, q⟩ => q.here rw ⟨[], rfl, rfl⟩
theorem sa_cons {a : Expr} {es : List Expr} {i j : IE} (ha : SE X k C W a i) (hb : SA X k C W es j) (he : starEach (a :: es) X.env = (false, eval a X.env) :: starEach es X.env := by rfl) : SA X k C W (a :: es) (.cons i j) := pa_imp (pa_cons ha hb he) fun σ H Q ⟨w, τ, s, rs, rw, q⟩ => by
  simp only [ev] at q
  refine ⟨w, τ, s, rs, rw, ?_⟩
  have q' := q.bind (ρ := RD k)
  refine q'.imp fun v H1 ⟨w1, d1, s1, e1, rw1, r1, q1⟩ => ?_
  refine ⟨w1, τ, s1, rs.mono e1, rw1, ?_⟩
  have q1' := q1.bind (ρ := RA k)
  refine q1'.imp fun vs H2 ⟨w2, d2, s2, e2, rw2, r2, q2⟩ => ?_
  obtain ⟨ds, rfl, rds⟩ := r2
  exact q2.here rw2 ⟨_, rfl, _, _, rfl, r1.mono e2, rds⟩
theorem se_tup {es : List Expr} {i : IE} {x1 : Nat} {pos : Pos} (h : SA X k C W es i) : SE X k C W (.Tuple es x1 pos) (.tup i) := pe_imp (pe_tup h) fun σ H Q ⟨w, τ, s, rs, rw, q⟩ => by
  simp only [ev] at q
  refine ⟨w, τ, s, rs, rw, ?_⟩
  refine (q.bind (ρ := RA k)).imp fun vs H1 ⟨w1, d1, s1, e1, rw1, r1, q1⟩ => ?_
  obtain ⟨ds, rfl, rds⟩ := r1
  simp only at q1
  by_cases hl : fitsL ds = true
  · rw [if_pos hl] at q1
    refine ⟨by rw [← rds.len, ← sizeL_eq]; exact of_decide_eq_true hl, fun p hp => ?_⟩
    exact q1 w1 _ _ (Ext.new rw1 hp) (rw1.new hp) ⟨p, vs, rfl, .inl ⟨rw1.fresh hp, .inl upd_same⟩, rds.mono (Ext.new rw1 hp)⟩
  · rw [if_neg hl] at q1; exact q1.elim
theorem se_lst {es : List Expr} {i : IE} {pos : Pos} (m : Mode) (h : SA X k C W es i) : SE X k C W (.List es pos) (.lst m i) := pe_imp (pe_lst h) fun σ H Q ⟨w, τ, s, rs, rw, q⟩ => by
  simp only [ev] at q
  refine ⟨w, τ, s, rs, rw, ?_⟩
  refine (q.bind (ρ := RA k)).imp fun vs H1 ⟨w1, d1, s1, e1, rw1, r1, q1⟩ => ?_
  obtain ⟨ds, rfl, rds⟩ := r1
  simp only at q1
  by_cases hl : fitsL ds = true
  · rw [if_pos hl] at q1
    refine ⟨by rw [← rds.len, ← sizeL_eq]; exact of_decide_eq_true hl, fun p hp => ?_⟩
    exact mkL_ok rw1 hp rds q1
  · rw [if_neg hl] at q1; exact q1.elim
end
end DI

/-! Operators, comparisons, places. -/
namespace DI
open PySem L2

section
variable {X : Cx} {k : Kx} {C : CallH} {W : WX}
/-! ### operators -/
theorem cat_ok {w : Wd} {s : S} {H : Hp} {σ : St} {d e : D} {x y : V} {Q : VK} (rw : RW k w s H) (r1 : RD k w H d x) (r2 : RD k w H e y) (h : Post k (Wσ W σ) w H (RD k) (catD d e s) Q) : rCat x y H Q := by
  unfold catD at h
  cases e1 : s.lst' d with
  | none => rw [e1] at h; exact h.elim
  | some a =>
    cases e2 : s.lst' e with
    | none => rw [e1, e2] at h; exact h.elim
    | some b =>
      rw [e1, e2] at h
      simp only at h
      by_cases hl : a.length + b.length ≤ sizeL
      · rw [if_pos hl] at h
        obtain ⟨p, vs, ex, hp, t⟩ := lst'_ok rw e1 r1
        obtain ⟨q, us, ey, hq, u⟩ := lst'_ok rw e2 r2
        refine ⟨p, q, vs, us, ex, ey, hp, hq, by rw [← t.len, ← u.len, ← sizeL_eq]; exact hl, fun z hz => ?_⟩
        exact h w _ _ (Ext.new rw hz) (rw.new hz) ⟨z, _, rfl, rw.fresh hz, upd_same, (t.app u).mono (Ext.new rw hz)⟩
      · rw [if_neg hl] at h; exact h.elim
theorem rAdd_ok (hk : k.K = X.K) : ∀ w s H σ d e x y Q, RW k w s H → RD k w H d x → RD k w H e y → Post k (Wσ W σ) w H (RD k) (binD .add d e s) Q →
    ((rI0 fun i j => .int (i + j)) x y H Q ∨ (∃ i j, x = .str i ∧ y = .str j ∧ i.length + j.length ≤ sizeLine ∧ Q (.str (i ++ j)) H) ∨ rCatA X.K x y H Q ∨ rCat x y H Q) := by
  intro w s H σ d e x y Q rw r1 r2 h
  simp only [binD] at h
  cases d with
  | int i =>
    cases e with
    | int j => exact .inl ⟨_, _, r1, r2, h.here rw rfl⟩
    | _ => exact h.elim
  | str a =>
    cases e with
    | str b =>
      simp only [addD] at h
      split at h
      · rename_i hl
        refine .inr (.inl ⟨_, _, r1, r2, by rw [← sizeL_eq]; simpa [Str.length] using hl, ?_⟩)
        exact h.here rw (b := V.str (⟨a.toArray⟩ ++ ⟨b.toArray⟩)) (by
          show V.str _ = V.str _
          congr 1
          show (⟨_⟩ : Str) = ⟨_⟩
          simp)
      · exact h.elim
    | _ => exact h.elim
  | tup a =>
    cases e with
    | tup b =>
      simp only [addD] at h
      split at h
      · rename_i hl
        obtain ⟨p, vs, rfl, hp, t⟩ := r1
        obtain ⟨q, us, rfl, hq, u⟩ := r2
        refine .inr (.inr (.inl ⟨p, q, vs, us, rfl, rfl, by rw [← hk]; exact hp.sq, by rw [← hk]; exact hq.sq, by rw [← t.len, ← u.len, ← sizeL_eq]; exact hl, fun e1 => ?_, fun e0 e1 => ?_, fun _ _ z hz => ?_⟩))
        · subst e1
          have ea : a = [] := List.length_eq_zero_iff.mp t.len
          subst ea
          exact h.here rw ⟨q, us, rfl, hq, u⟩
        · subst e1
          have eb : b = [] := List.length_eq_zero_iff.mp u.len
          subst eb
          exact h.here rw ⟨p, vs, rfl, hp, by rw [List.append_nil]; exact t⟩
        · exact h w _ _ (Ext.new rw hz) (rw.new hz) ⟨z, _, rfl, .inl ⟨rw.fresh hz, .inl upd_same⟩, (t.app u).mono (Ext.new rw hz)⟩
      · exact h.elim
    | _ => exact h.elim
  | _ => exact .inr (.inr (.inr (cat_ok rw r1 r2 h)))
theorem se_add {a b : Expr} {ia ib : IE} {pos : Pos} (hk : k.K = X.K) (ha : SE X k C W a ia) (hb : SE X k C W b ib) : SE X k C W (.BinOp a .Add b pos) (.bin .add ia ib) :=
  se_bin (op_add.or (op_add_str.or (op_catA.or op_cat))) (rAdd_ok hk) ha hb
theorem small_iff {i : Int} : small i = true ↔ (-(2 ^ 64) < i ∧ i < 2 ^ 64) := by unfold small; rw [Bool.and_eq_true, decide_eq_true_iff, decide_eq_true_iff]
theorem arith_ok {f : Int → Int → Option Int} {w : Wd} {s : S} {H : Hp} {σ : St} {d e : D} {x y : V} {Q : VK} (rw : RW k w s H) (r1 : RD k w H d x) (r2 : RD k w H e y) (h : Post k (Wσ W σ) w H (RD k) (arith f d e s) Q) :
    ∃ i j z, x = .int i ∧ y = .int j ∧ f i j = some z ∧ Q (.int z) H := by
  cases d <;> first | exact h.elim | skip
  cases e <;> first | exact h.elim | skip
  rename_i i j
  simp only [arith] at h
  obtain ⟨z, ez, h⟩ := h.of
  cases q : f i j with
  | none => rw [q] at ez; cases ez
  | some z' =>
    rw [q] at ez
    cases ez
    exact ⟨i, j, z', r1, r2, q, h.here rw rfl⟩
theorem se_sub {a b : Expr} {ia ib : IE} {pos : Pos} (ha : SE X k C W a ia) (hb : SE X k C W b ib) : SE X k C W (.BinOp a .Sub b pos) (.bin .sub ia ib) :=
  se_bin op_sub (fun w s H σ d e x y Q rw r1 r2 h => by
    obtain ⟨i, j, z, e1, e2, e3, q⟩ := arith_ok rw r1 r2 h
    cases e3
    exact ⟨i, j, e1, e2, q⟩) ha hb
theorem se_mod {a b : Expr} {ia ib : IE} {pos : Pos} (ha : SE X k C W a ia) (hb : SE X k C W b ib) : SE X k C W (.BinOp a .Mod b pos) (.bin .mod ia ib) :=
  se_bin op_mod (fun w s H σ d e x y Q rw r1 r2 h => by
    obtain ⟨i, j, z, e1, e2, e3, q⟩ := arith_ok rw r1 r2 h
    split at e3
    · rename_i hj; cases e3; exact ⟨i, j, e1, e2, hj, q⟩
    · cases e3) ha hb
theorem se_div {a b : Expr} {ia ib : IE} {pos : Pos} (ha : SE X k C W a ia) (hb : SE X k C W b ib) : SE X k C W (.BinOp a .FloorDiv b pos) (.bin .div ia ib) :=
  se_bin op_fdiv (fun w s H σ d e x y Q rw r1 r2 h => by
    obtain ⟨i, j, z, e1, e2, e3, q⟩ := arith_ok rw r1 r2 h
    split at e3
    · rename_i hj; cases e3; exact ⟨i, j, e1, e2, hj, q⟩
    · cases e3) ha hb
theorem se_pow {a b : Expr} {ia ib : IE} {pos : Pos} (ha : SE X k C W a ia) (hb : SE X k C W b ib) : SE X k C W (.BinOp a .Pow b pos) (.bin .pow ia ib) :=
  se_bin op_pow (fun w s H σ d e x y Q rw r1 r2 h => by
    obtain ⟨i, j, z, e1, e2, e3, q⟩ := arith_ok rw r1 r2 h
    split at e3
    · rename_i hj; cases e3; exact ⟨i, j, e1, e2, hj, q⟩
    · cases e3) ha hb
theorem rep_ok {w : Wd} {s : S} {H : Hp} {σ : St} {d : D} {j : Int} {x : V} {Q : VK} (rw : RW k w s H) (r1 : RD k w H d x) (h : Post k (Wσ W σ) w H (RD k) (match s.lst' d with
      | some a => if 0 ≤ j ∧ j ≤ 1000 ∧ a.length ≤ 1000 then R.ok (.lst (List.replicate j.toNat a).flatten) s else .no
      | none => .no) Q) : rRep x (.int j) H Q := by
  cases q : s.lst' d with
  | none => rw [q] at h; exact h.elim
  | some ds =>
    rw [q] at h
    simp only at h
    split at h
    · rename_i hl
      obtain ⟨p, vs, ex, hp, t⟩ := lst'_ok rw q r1
      have hj := hl.2.1
      have hlen : vs.length ≤ 1000 := by rw [← t.len]; exact hl.2.2
      have hmul : vs.length * j.toNat ≤ 1000 * 1000 := Nat.mul_le_mul hlen (by omega)
      refine ⟨p, j, vs, ex, rfl, hp, by omega, by omega, by rw [sizeLine_eq]; omega, fun z hz => ?_⟩
      refine h w _ _ (Ext.new rw hz) (rw.new hz) ⟨z, _, rfl, rw.fresh hz, upd_same, RDs.mono (Ext.new rw hz) _ _ ?_⟩
      generalize j.toNat = n
      clear hmul hl h hj
      induction n with
      | zero => exact rfl
      | succ n ih => rw [List.replicate_succ, List.replicate_succ, List.flatten_cons, List.flatten_cons]; exact t.app ih
    · exact h.elim
theorem se_mul {a b : Expr} {ia ib : IE} {pos : Pos} (ha : SE X k C W a ia) (hb : SE X k C W b ib) : SE X k C W (.BinOp a .Mult b pos) (.bin .mul ia ib) :=
  se_bin (op_mul.or op_rep) (fun w s H σ d e x y Q rw r1 r2 h => by
    simp only [binD] at h
    cases e <;> first | exact h.elim | skip
    rename_i j
    cases r2
    cases d with
    | int i =>
      simp only [mulD] at h
      split at h
      · rename_i hs
        refine .inl ⟨_, _, r1, rfl, ?_, h.here rw rfl⟩
        rcases Bool.or_eq_true_iff.mp hs with hs | hs
        · exact .inl (small_iff.mp hs)
        · exact .inr (small_iff.mp hs)
      · exact h.elim
    | _ => exact .inr (rep_ok rw r1 h)) ha hb
theorem se_neg {a : Expr} {ia : IE} {pos : Pos} (ha : SE X k C W a ia) : SE X k C W (.UnaryOp .USub a pos) (.neg ia) := pe_imp (pe_un un_neg ha) fun σ H Q ⟨w, τ, s, rs, rw, h⟩ => by
  simp only [ev] at h
  refine ⟨w, τ, s, rs, rw, h.bind.imp fun x H1 ⟨w1, d1, s1, e1, rw1, r1, h1⟩ => ?_⟩
  cases d1 <;> first | exact h1.elim | skip
  exact ⟨_, r1, h1.here rw1 rfl⟩

/-! ### comparisons -/
/-- a comparison's rule by data -/
def rCmp (k : Kx) (o : COp) : R2 := fun x y H Q => ∃ w s d e b, RW k w s H ∧ RD k w H d x ∧ RD k w H e y ∧ cmpD o d e s = some b ∧ Q (.bl b) H
theorem data2_ok {w : Wd} {s : S} {H : Hp} {d e a b : D} {x y : V} (rw : RW k w s H) (r1 : RD k w H d x) (r2 : RD k w H e y) (h : s.data2 d e = some (a, b)) :
    Dp k.K H x (toP a) ∧ Dp k.K H y (toP b) ∧ D.plain 60 a = true ∧ D.plain 60 b = true := by
  unfold S.data2 at h
  cases q1 : s.data d with
  | none => rw [q1] at h; cases h
  | some a' =>
    cases q2 : s.data e with
    | none => rw [q1, q2] at h; cases h
    | some b' =>
      rw [q1, q2] at h
      cases h
      obtain ⟨h1, h2⟩ := data_ok rw q1 r1
      obtain ⟨h3, h4⟩ := data_ok rw q2 r2
      exact ⟨h1, h3, h2, h4⟩
theorem oc_eq (hk : k.K = X.K) (hu : X.A.units + 64 < cLine) : OpR X (compareOp .Eq) (rCmp k .eq) := by
  intro pins s σ H x y v u Q I rx ry ⟨w, st, d, e, b, rw, r1, r2, hc, q⟩
  simp only [cmpD] at hc
  cases q1 : st.data2 d e with
  | none => rw [q1] at hc; cases hc
  | some p =>
    rw [q1] at hc
    obtain ⟨a, c⟩ := p
    simp only [Option.map_some, Option.some.injEq] at hc
    obtain ⟨h1, h2, h3, h4⟩ := data2_ok rw r1 r2 q1
    rw [hk] at h1 h2
    refine op_eqD hu pins s σ H x y v u Q I rx ry ⟨_, _, h1, h2, shaped_of h3, shaped_of h4, ?_⟩
    rw [eqv_toP 60 60 a c h3 h4, hc]
    exact q
theorem oc_ne (hk : k.K = X.K) (hu : X.A.units + 64 < cLine) : OpR X (compareOp .NotEq) (rCmp k .ne) := by
  intro pins s σ H x y v u Q I rx ry ⟨w, st, d, e, b, rw, r1, r2, hc, q⟩
  simp only [cmpD] at hc
  cases q1 : st.data2 d e with
  | none => rw [q1] at hc; cases hc
  | some p =>
    rw [q1] at hc
    obtain ⟨a, c⟩ := p
    simp only [Option.map_some, Option.some.injEq] at hc
    obtain ⟨h1, h2, h3, h4⟩ := data2_ok rw r1 r2 q1
    rw [hk] at h1 h2
    refine op_neD hu pins s σ H x y v u Q I rx ry ⟨_, _, h1, h2, shaped_of h3, shaped_of h4, ?_⟩
    rw [eqv_toP 60 60 a c h3 h4, hc]
    exact q
theorem not_none_of {d : D} (h : D.plain 60 d = true) (n : D.isNone d = false) : toP d ≠ .none := by
  cases d <;> first | (simp [D.isNone] at n; done) | (simp [D.plain] at h; done) | (intro z; simp [toP] at z; done)
theorem oc_lt (hk : k.K = X.K) (hu : X.A.units + 64 < cLine) : OpR X (compareOp .Lt) (rCmp k .lt) := by
  intro pins s σ H x y v u Q I rx ry ⟨w, st, d, e, b, rw, r1, r2, hc, q⟩
  simp only [cmpD] at hc
  cases q1 : st.data2 d e with
  | none => rw [q1] at hc; cases hc
  | some p =>
    rw [q1] at hc
    obtain ⟨a, c⟩ := p
    simp only [Option.bind_some, ltD] at hc
    obtain ⟨h1, h2, h3, h4⟩ := data2_ok rw r1 r2 q1
    rw [hk] at h1 h2
    split at hc
    · rename_i hal
      rw [Bool.and_eq_true, Bool.not_eq_true'] at hal
      cases hc
      obtain ⟨as, ra⟩ := Dp.reads I _ _ _ h1 rx
      obtain ⟨bs, rb⟩ := Dp.reads I _ _ _ h2 ry
      have dd := (plain_shape 60 a h3).2
      have z := PySem.W.rcLt_alike (toP a) (toP c) X.A s v u as bs ra rb (alike_toP a c hal.1) (not_none_of h3 hal.2) (by omega)
      rw [lt_toP 60 60 a c h3 h4 hal.1 hal.2] at z
      have z' : wpAny (model X.prog X.w) X.A (compareOp .Lt v u) (EP X pins σ Q) X.xe s := z X.prog X.w X.xe (EP X pins σ Q) ⟨.bl _, H, I, rfl, q⟩
      exact z'
    · cases hc
theorem oc_gt : OpR X (compareOp .Gt) (rCmp k .gt) := by
  intro pins s σ H x y v u Q I rx ry ⟨w, st, d, e, b, rw, r1, r2, hc, q⟩
  simp only [cmpD] at hc
  cases q1 : st.data2 d e with
  | none => rw [q1] at hc; cases hc
  | some p =>
    rw [q1] at hc
    obtain ⟨a, c⟩ := p
    obtain ⟨h1, h2, h3, h4⟩ := data2_ok rw r1 r2 q1
    simp only [Option.bind_some] at hc
    unfold gtD at hc
    split at hc
    · simp only [toP] at h1 h2; cases h1; cases h2; cases hc
      exact op_gt pins s σ H _ _ v u Q I rx ry ⟨_, _, rfl, rfl, q⟩
    · simp only [toP] at h1 h2; cases h1; cases h2; cases hc
      exact op_gt_str pins s σ H _ _ v u Q I rx ry ⟨_, _, rfl, rfl, q⟩
    · cases hc
theorem lexAt_shift {e r : Nat → Bool} {z : Bool} : ∀ (n i : Nat), Ob.lexAt e r z (i + 1) n = Ob.lexAt (fun j => e (j + 1)) (fun j => r (j + 1)) z i n
  | 0, i => rfl
  | n + 1, i => by rw [Ob.lexAt_succ, Ob.lexAt_succ, lexAt_shift n (i + 1)]
theorem flat_eqv : ∀ {d e : D}, D.flat1 d = true → D.alike d e = true → D.eqv d e = D.eqv e d
  | .int i, e, _, h => by
    cases e <;> simp [D.alike] at h
    simp only [D.eqv]; exact decide_eq_decide.mpr eq_comm
  | .str i, e, _, h => by
    cases e <;> simp [D.alike] at h
    simp only [D.eqv]; exact decide_eq_decide.mpr eq_comm
  | .non, _, h, _ => by simp [D.flat1] at h
  | .bl _, _, h, _ => by simp [D.flat1] at h
  | .tup _, _, h, _ => by simp [D.flat1] at h
  | .lst _, _, h, _ => by simp [D.flat1] at h
  | .ref _, _, h, _ => by simp [D.flat1] at h
  | .loc _, _, h, _ => by simp [D.flat1] at h
  | .exc _ _, _, h, _ => by simp [D.flat1] at h
  | .ins _ _, _, h, _ => by simp [D.flat1] at h
  | .st _, _, h, _ => by simp [D.flat1] at h
  | .fn _, _, h, _ => by simp [D.flat1] at h
  | .ro _, _, h, _ => by simp [D.flat1] at h
theorem lexAt_list : ∀ (xs ys : List D), xs.all D.flat1 = true → D.alikes xs ys = true →
    Ob.lexAt (fun j => D.eqv (xs.getD j .non) (ys.getD j .non)) (fun j => !D.lt (ys.getD j .non) (xs.getD j .non)) (decide (xs.length ≤ ys.length)) 0 (min xs.length ys.length) = !D.lts ys xs
  | [], [], _, _ => by simp [Ob.lexAt_zero, D.lts]
  | [], y :: ys, _, _ => by simp [Ob.lexAt_zero, D.lts]
  | x :: xs, [], _, _ => by simp [Ob.lexAt_zero, D.lts]
  | x :: xs, y :: ys, h, a => by
    simp only [List.all_cons, Bool.and_eq_true, D.alikes] at h a
    have ih := lexAt_list xs ys h.2 a.2
    rw [List.length_cons, List.length_cons, Nat.add_min_add_right, Ob.lexAt_succ, lexAt_shift]
    have e0 : D.eqv ((x :: xs).getD 0 .non) ((y :: ys).getD 0 .non) = D.eqv y x := flat_eqv h.1 a.1
    rw [e0]
    simp only [D.lts]
    by_cases q : D.eqv y x = true
    · rw [if_pos q, if_pos q, ← ih]
      have el : decide (xs.length + 1 ≤ ys.length + 1) = decide (xs.length ≤ ys.length) := decide_eq_decide.mpr (by omega)
      rw [el]
      rfl
    · rw [if_neg q, if_neg q]
      rfl
theorem RcOp_le_str {A : Around} {s : Shared} (a b : Str) (t u : Tok) : Ob.RcOp .LtE A s (.str a t) (.str b u) (!decide (b.cps.toList < a.cps.toList)) := fun _ _ _ _ h => PySem.P.le_str h
theorem le_item {A : Around} {s : Shared} {K : PySem.W.Frag} {H : Hp} : ∀ (z1 z2 : D) {w1 w2 : V} {u1 u2 : Value}, D.flat1 z1 = true → D.alike z1 z2 = true → Dp K H w1 (toP z1) → Dp K H w2 (toP z2) → RelV w1 u1 → RelV w2 u2 →
    SeqAt.EqAt A s u1 u2 (D.eqv z1 z2) ∧ Ob.RcOp .LtE A s u1 u2 (!D.lt z2 z1) := by
  intro z1 z2 w1 w2 u1 u2 f1 f2 m1 m2 n1 n2
  cases z1 with
  | int i1 =>
    cases z2 with
    | int i2 =>
      simp only [toP] at m1 m2
      cases m1
      cases m2
      obtain ⟨t1, e1⟩ := n1
      obtain ⟨t2, e2⟩ := n2
      rw [e1, e2]
      refine ⟨?_, ?_⟩
      · have := SeqAt.EqAt.int_int (A := A) (s := s) i1 t1 i2 t2
        rw [Bool.beq_eq_decide_eq] at this
        exact this
      · have := Ob.RcOp.le_int (A := A) (s := s) i1 i2 t1 t2
        have e : (!D.lt (.int i2) (.int i1)) = decide (i1 ≤ i2) := by simp only [D.lt]; exact PySem.W.not_lt_int i1 i2
        rw [e]; exact this
    | _ => simp [D.alike] at f2
  | str i1 =>
    cases z2 with
    | str i2 =>
      simp only [toP] at m1 m2
      cases m1
      cases m2
      obtain ⟨t1, e1⟩ := n1
      obtain ⟨t2, e2⟩ := n2
      rw [e1, e2]
      refine ⟨?_, ?_⟩
      · have := SeqAt.EqAt.str_str (A := A) (s := s) ⟨i1.toArray⟩ t1 ⟨i2.toArray⟩ t2
        rw [str_arr] at this
        exact this
      · exact RcOp_le_str _ _ _ _
    | _ => simp [D.alike] at f2
  | _ => simp [D.flat1] at f1
theorem oc_le (hk : k.K = X.K) (hu : X.A.units + 64 < cLine) : OpR X (compareOp .LtE) (rCmp k .le) := by
  intro pins s σ H x y v u Q I rx ry ⟨w, st, d, e, b, rw, r1, r2, hc, q⟩
  simp only [cmpD] at hc
  cases q1 : st.data2 d e with
  | none => rw [q1] at hc; cases hc
  | some p =>
    rw [q1] at hc
    obtain ⟨a, c⟩ := p
    obtain ⟨h1, h2, h3, h4⟩ := data2_ok rw r1 r2 q1
    simp only [Option.bind_some] at hc
    unfold leD at hc
    split at hc
    · simp only [toP] at h1 h2; cases h1; cases h2; cases hc
      exact op_le pins s σ H _ _ v u Q I rx ry ⟨_, _, rfl, rfl, q⟩
    · simp only [toP] at h1 h2; cases h1; cases h2; cases hc
      exact op_le_str pins s σ H _ _ v u Q I rx ry ⟨_, _, rfl, rfl, q⟩
    · rename_i xs ys
      split at hc
      · rename_i hal
        rw [Bool.and_eq_true] at hal
        simp only [toP] at h1 h2
        rw [hk] at h1 h2
        cases hc
        cases h1 with
        | tup t1 a1 =>
          cases h2 with
          | tup t2 a2 =>
            cases rx
            cases ry
            obtain ⟨its, v1, p1, _⟩ := I.tuple t1
            obtain ⟨its2, v2, p2, _⟩ := I.tuple t2
            have items : ∀ (zs : List D) (vs : List V) (us : List Value), DpAll X.K H vs (toPs zs) → Vals vs us → us.length = zs.length ∧ ∀ j (hj : j < us.length), Dp X.K H (vs.getD j .non) (toP (zs.getD j .non)) ∧ RelV (vs.getD j .non) us[j] := by
              intro zs
              induction zs with
              | nil =>
                intro vs us h1 h2
                simp only [toPs] at h1
                cases h1
                cases h2
                exact ⟨rfl, fun j hj => absurd hj (Nat.not_lt_zero _)⟩
              | cons z zs ih =>
                intro vs us h1 h2
                simp only [toPs] at h1
                cases h1 with
                | cons g1 g2 =>
                  cases h2 with
                  | cons k1 k2 =>
                    obtain ⟨l1, l2⟩ := ih _ _ g2 k2
                    refine ⟨by simp [l1], fun j hj => ?_⟩
                    cases j with
                    | zero => exact ⟨g1, k1⟩
                    | succ j => exact l2 j (by simpa using hj)
            obtain ⟨l1, i1⟩ := items xs _ its a1 v1
            obtain ⟨l2, i2⟩ := items ys _ its2 a2 v2
            have al : ∀ (zs ws : List D) (j : Nat), zs.all D.flat1 = true → D.alikes zs ws = true → j < zs.length → j < ws.length → D.flat1 (zs.getD j .non) = true ∧ D.alike (zs.getD j .non) (ws.getD j .non) = true := by
              intro zs
              induction zs with
              | nil => intro ws j _ _ h _; exact absurd h (Nat.not_lt_zero _)
              | cons z zs ih =>
                intro ws j f g h h'
                cases ws with
                | nil => exact absurd h' (Nat.not_lt_zero _)
                | cons w ws =>
                  simp only [List.all_cons, Bool.and_eq_true, D.alikes] at f g
                  cases j with
                  | zero => exact ⟨f.1, g.1⟩
                  | succ j => exact ih ws j f.2 g.2 (by simpa using h) (by simpa using h')
            have each : ∀ j (h1 : j < its.toArray.size) (h2 : j < its2.toArray.size), SeqAt.EqAt X.A.in1 s its.toArray[j] its2.toArray[j] (D.eqv (xs.getD j .non) (ys.getD j .non)) ∧
                Ob.RcOp .LtE X.A.in1 s its.toArray[j] its2.toArray[j] (!D.lt (ys.getD j .non) (xs.getD j .non)) := by
              intro j h1 h2
              have g1 : j < its.length := by simpa using h1
              have g2 : j < its2.length := by simpa using h2
              obtain ⟨m1, n1⟩ := i1 j g1
              obtain ⟨m2, n2⟩ := i2 j g2
              obtain ⟨f1, f2⟩ := al xs ys j hal.1 hal.2 (by omega) (by omega)
              rw [List.getElem_toArray, List.getElem_toArray]
              exact le_item _ _ f1 f2 m1 m2 n1 n2
            have R := Ob.RcOp.tuples_le (A := X.A) (s := s) (e := fun j => D.eqv (xs.getD j .non) (ys.getD j .non)) (r := fun j => !D.lt (ys.getD j .non) (xs.getD j .non)) p1 p2 (by omega) (fun j h1 h2 => (each j h1 h2).1) (fun j h1 h2 _ => (each j h1 h2).2)
            rw [List.size_toArray, List.size_toArray, l1, l2, lexAt_list xs ys hal.1 hal.2] at R
            have z : wpAny (model X.prog X.w) X.A (compareOp .LtE _ _) (EP X pins σ Q) X.xe s := R X.prog X.w X.xe (EP X pins σ Q) ⟨.bl _, H, I, rfl, q⟩
            exact z
      · cases hc
    · cases hc
theorem oc_ge : OpR X (compareOp .GtE) (rCmp k .ge) := by
  intro pins s σ H x y v u Q I rx ry ⟨w, st, d, e, b, rw, r1, r2, hc, q⟩
  simp only [cmpD] at hc
  cases q1 : st.data2 d e with
  | none => rw [q1] at hc; cases hc
  | some p =>
    rw [q1] at hc
    obtain ⟨a, c⟩ := p
    obtain ⟨h1, h2, h3, h4⟩ := data2_ok rw r1 r2 q1
    simp only [Option.bind_some] at hc
    unfold geD at hc
    split at hc
    · simp only [toP] at h1 h2; cases h1; cases h2; cases hc
      exact op_ge pins s σ H _ _ v u Q I rx ry ⟨_, _, rfl, rfl, q⟩
    · simp only [toP] at h1 h2; cases h1; cases h2; cases hc
      exact op_ge_str pins s σ H _ _ v u Q I rx ry ⟨_, _, rfl, rfl, q⟩
    · cases hc
theorem any_toP {n m : Nat} {d : D} (hd : D.plain n d = true) : ∀ {es : List D}, D.plains m es = true → ((toPs es).any fun z => PyData.eqv z (toP d)) = es.any fun e => D.eqv e d
  | [], _ => rfl
  | e :: es, h => by
    simp only [D.plains, Bool.and_eq_true] at h
    simp only [toPs, List.any_cons]
    rw [eqv_toP m n e d h.1 hd, any_toP hd h.2]
theorem shape_in {A : Around} {xs : List PyData} {d : PyData} (hd : SeqAt.shaped d = true) (hu : A.units + 65 < cLine) : A.units + 1 + min (PyData.depthAll xs) d.depth < cLine := by
  have h1 := SeqAt.depth_of_shaped hd
  have h2 : min (PyData.depthAll xs) d.depth ≤ d.depth := Nat.min_le_right _ _
  omega
theorem oc_in (hk : k.K = X.K) (hu : X.A.units + 65 < cLine) : OpR X (compareOp .In) (rCmp k .isin) := by
  intro pins s σ H x y v u Q I rx ry ⟨w, st, d, e, b, rw, r1, r2, hc, q⟩
  have txt : ∀ z, e = .str z → wpAny (model X.prog X.w) X.A (compareOp .In v u) (EP X pins σ Q) X.xe s := fun z ez => by
    subst ez
    simp only [cmpD, inD] at hc
    split at hc
    · split at hc
      · cases hc; cases r1; cases r2
        exact op_in_sign pins s σ H _ _ v u Q I rx ry ⟨_, _, rfl, rfl, q⟩
      · cases hc
    · cases hc
  have data : inP (st.data2 d e) = some b → wpAny (model X.prog X.w) X.A (compareOp .In v u) (EP X pins σ Q) X.xe s := fun hc => by
    unfold inP at hc
    split at hc
    · rename_i d' es q1
      obtain ⟨h1, h2, h3, h4⟩ := data2_ok rw r1 r2 q1
      rw [hk] at h1 h2
      obtain ⟨as, ra⟩ := Dp.reads I _ _ _ h1 rx
      simp only [toP] at h2
      obtain ⟨bs, rb⟩ := Dp.reads I _ _ _ h2 ry
      have s4 := shaped_of h4
      simp only [toP] at s4
      simp only [D.plain] at h4
      cases hc
      exact SeqAt.in_list_reads rb ra (SeqAt.canLay_of_shaped s4) (SeqAt.canLay_of_shaped (shaped_of h3)) (shape_in (shaped_of h3) hu) ⟨.bl _, H, I, rfl, by rw [any_toP h3 h4]; exact q⟩
    · rename_i d' es q1
      obtain ⟨h1, h2, h3, h4⟩ := data2_ok rw r1 r2 q1
      rw [hk] at h1 h2
      obtain ⟨as, ra⟩ := Dp.reads I _ _ _ h1 rx
      simp only [toP] at h2
      obtain ⟨bs, rb⟩ := Dp.reads I _ _ _ h2 ry
      have s4 := shaped_of h4
      simp only [toP] at s4
      simp only [D.plain] at h4
      cases hc
      exact SeqAt.in_tuple_reads rb ra (SeqAt.canLay_of_shaped s4) (SeqAt.canLay_of_shaped (shaped_of h3)) (shape_in (shaped_of h3) hu) ⟨.bl _, H, I, rfl, by rw [any_toP h3 h4]; exact q⟩
    · cases hc
  cases e with
  | str z => exact txt z rfl
  | _ => exact data (by simpa only [cmpD, inD] using hc)
theorem oc_notin (hk : k.K = X.K) (hu : X.A.units + 65 < cLine) : OpR X (compareOp .NotIn) (rCmp k .notin) := by
  intro pins s σ H x y v u Q I rx ry ⟨w, st, d, e, b, rw, r1, r2, hc, q⟩
  have txt : ∀ z, e = .str z → wpAny (model X.prog X.w) X.A (compareOp .NotIn v u) (EP X pins σ Q) X.xe s := fun z ez => by
    subst ez
    simp only [cmpD, inD] at hc
    split at hc
    · split at hc
      · cases hc; cases r1; cases r2
        exact op_notIn_sign pins s σ H _ _ v u Q I rx ry ⟨_, _, rfl, rfl, q⟩
      · cases hc
    · cases hc
  have data : (inP (st.data2 d e)).map (!·) = some b → wpAny (model X.prog X.w) X.A (compareOp .NotIn v u) (EP X pins σ Q) X.xe s := fun hc => by
    unfold inP at hc
    split at hc
    · rename_i d' es q1
      obtain ⟨h1, h2, h3, h4⟩ := data2_ok rw r1 r2 q1
      rw [hk] at h1 h2
      obtain ⟨as, ra⟩ := Dp.reads I _ _ _ h1 rx
      simp only [toP] at h2
      obtain ⟨bs, rb⟩ := Dp.reads I _ _ _ h2 ry
      have s4 := shaped_of h4
      simp only [toP] at s4
      simp only [D.plain] at h4
      cases hc
      exact SeqAt.notIn_list_reads rb ra (SeqAt.canLay_of_shaped s4) (SeqAt.canLay_of_shaped (shaped_of h3)) (shape_in (shaped_of h3) hu) ⟨.bl _, H, I, rfl, by rw [any_toP h3 h4]; exact q⟩
    · rename_i d' es q1
      obtain ⟨h1, h2, h3, h4⟩ := data2_ok rw r1 r2 q1
      rw [hk] at h1 h2
      obtain ⟨as, ra⟩ := Dp.reads I _ _ _ h1 rx
      simp only [toP] at h2
      obtain ⟨bs, rb⟩ := Dp.reads I _ _ _ h2 ry
      have s4 := shaped_of h4
      simp only [toP] at s4
      simp only [D.plain] at h4
      cases hc
      exact SeqAt.notIn_tuple_reads rb ra (SeqAt.canLay_of_shaped s4) (SeqAt.canLay_of_shaped (shaped_of h3)) (shape_in (shaped_of h3) hu) ⟨.bl _, H, I, rfl, by rw [any_toP h3 h4]; exact q⟩
    · cases hc
  cases e with
  | str z => exact txt z rfl
  | _ => exact data (by simpa only [cmpD, inD] using hc)
theorem none_iff {w : Wd} {H : Hp} {d : D} {x : V} (r : RD k w H d x) : D.isNone d = decide (x = .non) := by
  cases d <;> first | (cases r; rfl) | (obtain ⟨p, vs, e, _⟩ := r; rw [e]; rfl) | (obtain ⟨p, h, e⟩ := r; rw [e]; rfl)| (obtain ⟨p, h, vf, e, _⟩ := r; rw [e]; rfl)| (rw [show x = _ from r]; rfl) | exact r.elim
theorem oc_is : OpR X (compareOp .Is) (rCmp k .is) := by
  intro pins s σ H x y v u Q I rx ry ⟨w, st, d, e, b, rw, r1, r2, hc, q⟩
  cases e <;> first | (simp [cmpD] at hc; done) | skip
  simp only [cmpD, Option.some.injEq] at hc
  exact op_isN pins s σ H x y v u Q I rx ry ⟨r2, by rw [← none_iff r1, hc]; exact q⟩
theorem oc_isnt : OpR X (compareOp .IsNot) (rCmp k .isnt) := by
  intro pins s σ H x y v u Q I rx ry ⟨w, st, d, e, b, rw, r1, r2, hc, q⟩
  cases e <;> first | (simp [cmpD] at hc; done) | skip
  simp only [cmpD, Option.some.injEq] at hc
  exact op_notN pins s σ H x y v u Q I rx ry ⟨r2, by rw [← none_iff r1, hc]; exact q⟩

theorem se_cmp {op : CmpOp} {o : COp} {a b : Expr} {ia ib : IE} {pos : Pos} (ho : OpR X (compareOp op) (rCmp k o)) (ha : SE X k C W a ia) (hb : SE X k C W b ib) (hm : behindInMarks op b = false := by rfl) : SE X k C W (.Compare a [op] [b] pos) (.cmp o ia ib) := pe_imp (pe_cmpR ho ha hb hm) fun σ H Q ⟨w, τ, s, rs, rw, h⟩ => by
  simp only [ev] at h
  refine ⟨w, τ, s, rs, rw, h.bind.imp fun x H1 ⟨w1, d1, s1, e1, rw1, r1, h1⟩ => ?_⟩
  refine ⟨w1, τ, s1, rs.mono e1, rw1, h1.bind.imp fun y H2 ⟨w2, d2, s2, e2, rw2, r2, h2⟩ => ?_⟩
  obtain ⟨z, ez, h3⟩ := h2.of
  cases q : cmpD o d1 d2 s2 with
  | none => rw [q] at ez; cases ez
  | some b =>
    rw [q] at ez
    cases ez
    exact ⟨w2, s2, d1, d2, b, rw2, r1.mono e2, r2, q, h3.here rw2 rfl⟩
theorem st_cmp {op : CmpOp} {o : COp} {a b : Expr} {ia ib : IE} {pos : Pos} (ho : OpR X (compareOp op) (rCmp k o)) (ha : SE X k C W a ia) (hb : SE X k C W b ib) (hm : behindInMarks op b = false := by rfl) : ST X k C W (.Compare a [op] [b] pos) (.cmp o ia ib) := pt_imp (pt_cmpR ho ha hb hm) fun σ H Q ⟨w, τ, s, rs, rw, h⟩ => by
  unfold evT at h
  simp only [ev] at h
  refine ⟨w, τ, s, rs, rw, ?_⟩
  cases g1 : ev C ia τ s with
  | no => rw [g1] at h; exact h.elim
  | ex x s' => rw [g1] at h; exact h
  | ok d1 s1 =>
    rw [g1] at h
    intro w1 x H1 e1 rw1 r1
    refine ⟨w1, τ, s1, rs.mono e1, rw1, ?_⟩
    simp only [R.bind] at h
    cases g2 : ev C ib τ s1 with
    | no => rw [g2] at h; exact h.elim
    | ex x s' => rw [g2] at h; exact Post.mono e1 h
    | ok d2 s2 =>
      rw [g2] at h
      intro w2 y H2 e2 rw2 r2
      cases q : cmpD o d1 d2 s2 with
      | none => simp only [q] at h; exact h.elim
      | some b =>
        simp only [q] at h
        exact ⟨w2, s2, d1, d2, b, rw2, r1.mono e2, r2, q, b, rfl, h w2 b H2 (e1.trans e2) rw2 rfl⟩
theorem se_chain {op op' : CmpOp} {o o' : COp} {a b c : Expr} {ia ib ic : IE} {pos : Pos} (ho : OpR X (compareOp op) (rCmp k o)) (ho' : OpR X (compareOp op') (rCmp k o')) (ha : SE X k C W a ia) (hb : SE X k C W b ib) (hc : SE X k C W c ic)
    (hm : lastMarks [op, op'] [b, c] = false := by with_unfolding_all rfl) : SE X k C W (.Compare a [op, op'] [b, c] pos) (.chain o o' ia ib ic) := pe_imp (pe_chain ho ho' ha hb hc hm) fun σ H Q ⟨w, τ, s, rs, rw, h⟩ => by
  simp only [ev] at h
  refine ⟨w, τ, s, rs, rw, h.bind.imp fun x H1 ⟨w1, d1, s1, e1, rw1, r1, h1⟩ => ?_⟩
  refine ⟨w1, τ, s1, rs.mono e1, rw1, h1.bind.imp fun y H2 ⟨w2, d2, s2, e2, rw2, r2, h2⟩ => ?_⟩
  cases q : cmpD o d1 d2 s2 with
  | none => rw [q] at h2; exact h2.elim
  | some b =>
    rw [q] at h2
    refine ⟨w2, s2, d1, d2, b, rw2, r1.mono e2, r2, q, b, rfl, ?_⟩
    cases b with
    | false => rw [if_neg Bool.false_ne_true]; exact h2.here rw2 rfl
    | true =>
      rw [if_pos rfl]
      refine ⟨w2, τ, s2, (rs.mono e1).mono e2, rw2, h2.bind.imp fun z H3 ⟨w3, d3, s3, e3, rw3, r3, h3⟩ => ?_⟩
      obtain ⟨z', ez, h4⟩ := h3.of
      cases q' : cmpD o' d2 d3 s3 with
      | none => rw [q'] at ez; cases ez
      | some b' =>
        rw [q'] at ez
        cases ez
        exact ⟨w3, s3, d2, d3, b', rw3, r2.mono e3, r3, q', h4.here rw3 rfl⟩
end
end DI

/-! Sorting; places and slices; calls of built-ins. -/
namespace DI
open PySem L2

/-! ### sorting -/
mutual
theorem eqv_alike_eq : ∀ (d e : D), D.alike d e = true → D.eqv d e = true → d = e
  | .non, e, a, h => by cases e <;> simp [D.alike] at a; rfl
  | .bl _, e, a, h => by
    cases e <;> simp [D.alike] at a
    simp only [D.eqv] at h; rw [eq_of_beq h]
  | .int _, e, a, h => by
    cases e <;> simp [D.alike] at a
    simp only [D.eqv] at h; rw [of_decide_eq_true h]
  | .str _, e, a, h => by
    cases e <;> simp [D.alike] at a
    simp only [D.eqv] at h; rw [of_decide_eq_true h]
  | .lst ds, e, a, h => by
    cases e with
    | lst es =>
      simp only [D.alike, D.eqv] at a h
      rw [eqvs_alike_eq ds es a h]
    | _ => simp [D.alike] at a
  | .tup ds, e, a, h => by
    cases e with
    | tup es =>
      simp only [D.alike, D.eqv] at a h
      rw [eqvs_alike_eq ds es a h]
    | _ => simp [D.alike] at a
  | .ref _, _, h, _ => by simp [D.alike] at h
  | .loc _, _, h, _ => by simp [D.alike] at h
  | .exc _ _, _, h, _ => by simp [D.alike] at h
  | .ins _ _, _, h, _ => by simp [D.alike] at h
  | .st _, _, h, _ => by simp [D.alike] at h
  | .fn _, _, h, _ => by simp [D.alike] at h
  | .ro _, _, h, _ => by simp [D.alike] at h
theorem eqvs_alike_eq : ∀ (ds es : List D), D.alikes ds es = true → D.eqvs ds es = true → ds = es
  | [], [], _, _ => rfl
  | [], _ :: _, _, h => by simp [D.eqvs] at h
  | _ :: _, [], _, h => by simp [D.eqvs] at h
  | d :: ds, e :: es, a, h => by
    simp only [D.alikes, D.eqvs, Bool.and_eq_true] at a h
    rw [eqv_alike_eq d e a.1 h.1, eqvs_alike_eq ds es a.2 h.2]
end
theorem ins1_perm (x : D) : ∀ l : List D, (D.ins1 x l).Perm (x :: l)
  | [] => List.Perm.refl _
  | y :: ys => by
    unfold D.ins1
    split
    · exact ((ins1_perm x ys).cons y).trans (List.Perm.swap x y ys)
    · exact List.Perm.refl _
theorem sort_perm : ∀ l : List D, (D.sort l).Perm l
  | [] => List.Perm.refl _
  | x :: xs => (ins1_perm x (D.sort xs)).trans ((sort_perm xs).cons x)
abbrev leP (a b : D) : Bool := PySem.W.dataLe false toP a b
theorem leP_eq (a b : D) : leP a b = !PySem.W.dataLt (toP b) (toP a) := rfl
theorem leP_total : PySem.W.TotalLe leP := PySem.W.sortLe_total (PyProof.Rows.listOrd PyProof.Rows.itemOrd) false fun b => PySem.W.keyToks (toP b)
/-- all are alike, plain, not None -/
def Fit (ds : List D) : Prop := (∀ d ∈ ds, D.plain 60 d = true ∧ D.isNone d = false) ∧ ∀ d ∈ ds, ∀ e ∈ ds, D.alike d e = true
theorem Fit.lt {ds : List D} (h : Fit ds) {a b : D} (ha : a ∈ ds) (hb : b ∈ ds) : leP a b = !D.lt b a := by
  rw [leP_eq, lt_toP 60 60 b a (h.1 b hb).1 (h.1 a ha).1 (h.2 b hb a ha) (h.1 b hb).2]
theorem Fit.anti {ds : List D} (h : Fit ds) {a b : D} (ha : a ∈ ds) (hb : b ∈ ds) (h1 : leP a b = true) (h2 : leP b a = true) : a = b := by
  rw [leP_eq, Bool.not_eq_true'] at h1 h2
  have ek : PySem.W.keyToks (toP a) = PySem.W.keyToks (toP b) := (PyProof.Rows.listOrd PyProof.Rows.itemOrd).total _ _ h2 h1
  refine eqv_alike_eq a b (h.2 a ha b hb) ?_
  rw [← eqv_toP 60 60 a b (h.1 a ha).1 (h.1 b hb).1]
  cases q : PyData.eqv (toP a) (toP b) with
  | true => rfl
  | false =>
    have z := (PySem.W.toks_eqv (toP a) (toP b) (alike_toP a b (h.2 a ha b hb))).2 q [.inl 0] [.inl 1]
    rw [ek, PySem.W.lex_pre] at z
    have e1 : PyProof.Rows.lexLt PyProof.Rows.itemOrd [Sum.inl 0] [Sum.inl 1] = true := by rw [PySem.W.lex_one]; decide
    have e2 := (PyProof.Rows.listOrd PyProof.Rows.itemOrd).irrefl (PySem.W.keyToks (toP b))
    have e3 : PyProof.Rows.lexLt PyProof.Rows.itemOrd (PySem.W.keyToks (toP b)) (PySem.W.keyToks (toP b)) = false := e2
    rw [e1, e3] at z
    cases z
theorem ins1_sorted {all : List D} (hf : Fit all) {x : D} (hx : x ∈ all) : ∀ l : List D, (∀ d ∈ l, d ∈ all) → l.Pairwise (fun a b => leP a b = true) → (D.ins1 x l).Pairwise (fun a b => leP a b = true)
  | [], _, _ => by unfold D.ins1; exact List.pairwise_singleton _ _
  | y :: ys, hm, hp => by
    have hy : y ∈ all := hm y List.mem_cons_self
    rw [List.pairwise_cons] at hp
    unfold D.ins1
    by_cases q : D.lt y x = true
    · rw [if_pos q, List.pairwise_cons]
      refine ⟨fun z hz => ?_, ins1_sorted hf hx ys (fun d hd => hm d (List.mem_cons_of_mem _ hd)) hp.2⟩
      rcases List.mem_cons.mp ((ins1_perm x ys).mem_iff.mp hz) with e | hz
      · rw [e]
        rcases leP_total.total y x with h1 | h1
        · exact h1
        · rw [hf.lt hx hy, q] at h1; cases h1
      · exact hp.1 z hz
    · rw [if_neg q]
      have hxy : leP x y = true := by rw [hf.lt hx hy, Bool.not_eq_true', Bool.eq_false_iff]; exact q
      rw [List.pairwise_cons]
      refine ⟨fun z hz => ?_, List.pairwise_cons.mpr hp⟩
      rcases List.mem_cons.mp hz with e | hz
      · rw [e]; exact hxy
      · exact leP_total.trans _ _ _ hxy (hp.1 z hz)
theorem sort_sorted {all : List D} (hf : Fit all) : ∀ l : List D, (∀ d ∈ l, d ∈ all) → (D.sort l).Pairwise (fun a b => leP a b = true)
  | [], _ => List.Pairwise.nil
  | x :: xs, hm => ins1_sorted hf (hm x List.mem_cons_self) _ (fun d hd => hm d (List.mem_cons_of_mem _ ((sort_perm xs).mem_iff.mp hd))) (sort_sorted hf xs fun d hd => hm d (List.mem_cons_of_mem _ hd))
theorem sort_merge {ds : List D} (hf : Fit ds) : ds.mergeSort leP = D.sort ds := by
  refine List.Perm.eq_of_pairwise (le := fun a b => leP a b = true) (fun a b ha hb h1 h2 => ?_) (PySem.W.sort_pairwise leP_total ds) (sort_sorted hf ds fun _ h => h) ((List.mergeSort_perm ds leP).trans (sort_perm ds).symm)
  exact hf.anti ((List.mergeSort_perm ds leP).mem_iff.mp ha) ((sort_perm ds).mem_iff.mp hb) h1 h2
theorem sortO_fit {ds es : List D} (h : sortO ds = some es) : es = D.sort ds ∧ Fit ds ∧ ds.length ≤ sizeL ∧ PySem.W.Sortable (ds.map toP) := by
  unfold sortO at h
  split at h
  · rename_i c
    simp only [Bool.and_eq_true, List.all_eq_true, eachAlike, fitsL, decide_eq_true_eq] at c
    obtain ⟨⟨⟨c1, c2⟩, c3⟩, c4⟩ := c
    have hn : ∀ d ∈ ds, D.isNone d = false := fun d hd => by
      have := c3 d hd
      cases d <;> first | rfl | (simp at this; done)
    refine ⟨(Option.some.inj h).symm, ⟨fun d hd => ⟨c1 d hd, hn d hd⟩, c2⟩, c4, ?_⟩
    cases ds with
    | nil => exact .inr fun d hd => by cases hd
    | cons d ds =>
      have kind : ∀ e ∈ d :: ds, D.alike d e = true := c2 d List.mem_cons_self
      cases d with
      | tup xs =>
        refine .inl fun p hp => ?_
        obtain ⟨e, he, rfl⟩ := List.mem_map.mp hp
        have h1 := kind e he
        have h2 := c3 e he
        cases e with
        | tup ys =>
          cases ys with
          | nil => cases h2
          | cons y ys => exact ⟨_, _, rfl⟩
        | _ => simp [D.alike] at h1
      | _ =>
        refine .inr fun p hp => ?_
        obtain ⟨e, he, rfl⟩ := List.mem_map.mp hp
        have h1 := kind e he
        have h2 := c3 e he
        have h3 := c1 e he
        cases e <;> first | (simp [D.alike] at h1; done) | (simp at h2; done) | (exact ⟨fun z => by simp [toP] at z, fun _ z => by simp [toP] at z⟩)
  · cases h

section
variable {X : Cx} {k : Kx} {C : CallH} {W : WX}
theorem each_of {w : Wd} {H : Hp} : ∀ {ds : List D} {vs : List V} {us : List Value}, RDs k w H ds vs → Vals vs us → PySem.W.EachIs (fun u d => ∃ v, RelV v u ∧ RD k w H d v) us ds
  | [], _, _, r, t => by rw [show _ = [] from r] at t; cases t; exact .nil
  | d :: ds, _, _, ⟨v, vs, e, r, rs⟩, t => by
    rw [e] at t
    cases t with
    | cons t1 t2 => exact .cons ⟨v, t1, r⟩ (each_of rs t2)
theorem of_each {w : Wd} {H : Hp} : ∀ {ds : List D} {us : List Value}, PySem.W.EachIs (fun u d => ∃ v, RelV v u ∧ RD k w H d v) us ds → ∃ vs, RDs k w H ds vs ∧ Vals vs us
  | _, _, .nil => ⟨[], rfl, .nil⟩
  | _, _, .cons h t => by
    obtain ⟨v, r1, r2⟩ := h
    obtain ⟨vs, t1, t2⟩ := of_each t
    exact ⟨v :: vs, ⟨v, vs, rfl, r2, t1⟩, .cons r1 t2⟩
def rSortD (k : Kx) : List V → Hp → VK → Prop := fun xs H Q => ∃ a vs w ds, xs = [.ref a] ∧ SqL k.K H a vs ∧ RDs k w H ds vs ∧ sortO ds = some (D.sort ds) ∧
  ∀ p vs', H p = none → RDs k w H (D.sort ds) vs' → Q (.ref p) (upd H p (.lst vs'))
theorem cr_sortD (hk : k.K = X.K) (hu : X.A.units + 65 < cLine) : CallR X (.builtin "sorted") (rSortD k) := by
  intro pins s σ H vs us Q I r ⟨a, ws, w, ds, e, hs, rd, hso, q⟩
  rw [e] at r
  rw [hk] at hs
  obtain ⟨its, rv, hl, hz⟩ := I.list hs
  rw [Vals.ref1 r]
  obtain ⟨_, hf, hlen, hsb⟩ := sortO_fit hso
  have er : PySem.W.EachIs (fun v b => ∃ as, Reads s.heap v (toP b) as) its ds := by
    have key : ∀ {ds : List D} {ws : List V} {its : List Value}, (∀ d ∈ ds, D.plain 60 d = true) → RDs k w H ds ws → Vals ws its → PySem.W.EachIs (fun v b => ∃ as, Reads s.heap v (toP b) as) its ds := by
      intro ds
      induction ds with
      | nil => intro ws its _ r t; rw [show ws = [] from r] at t; cases t; exact .nil
      | cons d ds ih =>
        rintro ws its hp ⟨v, vs, e, r, rs⟩ t
        rw [e] at t
        cases t with
        | cons t1 t2 =>
          have z := r.dp 60 d v (hp d List.mem_cons_self)
          rw [hk] at z
          exact .cons (Dp.reads I _ _ _ z t1) (ih (fun d hd => hp d (List.mem_cons_of_mem _ hd)) rs t2)
    exact key (fun d hd => (hf.1 d hd).1) rd rv
  have hal : PySem.W.AllAlike (ds.map toP) := fun d hd d' hd' => by
    obtain ⟨b, hb, rfl⟩ := List.mem_map.mp hd
    obtain ⟨b', hb', rfl⟩ := List.mem_map.mp hd'
    exact alike_toP b b' (hf.2 b hb b' hb')
  refine PySem.W.sorted_data (vs := its) (bs := ds) (enc := toP) hl.isList (each_of rd rv) er hal hsb (by rw [← sizeL_eq]; exact hlen) (fun b hb => ?_) fun out ho he => ?_
  · have := (plain_shape 60 b (hf.1 b hb).1).2
    omega
  · rw [sort_merge hf] at he
    obtain ⟨vs', r1, r2⟩ := of_each he
    obtain ⟨ep, he'⟩ := PyProof.Rows.sortedAll_at s.heap its out.toArray
    have hl2 : vs'.length ≤ sizeLine := by rw [← r1.len, (sort_perm ds).length_eq, ← sizeL_eq]; exact hlen
    exact ⟨.ref _, upd H (s.heap.objs.size + 1) (.lst vs'), I.laid (t' := s.toks) (fun _ _ => PyProof.Rows.sortedAll_old) (Nat.le_succ _) ⟨hl2, out, ep, r2, he'⟩, rfl, q _ vs' (I.hok.fresh (Nat.le_succ _)) r1⟩
end
end DI

/-! Places and slices; calls of built-ins; methods. -/
namespace DI
open PySem L2

section
variable {X : Cx} {k : Kx} {C : CallH} {W : WX}
/-! ### places -/
theorem ixAt_eq {α : Type} (xs : List α) (i : Int) : ixAt xs i = atI xs i := rfl
theorem ixAt_rd {w : Wd} {H : Hp} {ds : List D} {vs : List V} {i : Int} {d : D} (r : RDs k w H ds vs) (h : ixAt ds i = some d) : ∃ v, atI vs i = some v ∧ RD k w H d v := by
  rw [ixAt_eq] at h
  unfold atI at h ⊢
  rw [← r.len]
  cases q : ixN ds.length i with
  | none => rw [q] at h; cases h
  | some j =>
    rw [q] at h
    exact r.get h
theorem se_idx {a b : Expr} {ia ib : IE} {pos : Pos} (hk : k.K = X.K) (ha : SE X k C W a ia) (hb : SE X k C W b ib) (hs : PlainIx b := by intro _ _; rfl) : SE X k C W (.Subscript a b pos) (.idx ia ib) := pe_imp (pe_ix ix_seq ha hb hs) fun σ H Q ⟨w, τ, s, rs, rw, h⟩ => by
  simp only [ev] at h
  refine ⟨w, τ, s, rs, rw, h.bind.imp fun x H1 ⟨w1, d1, s1, e1, rw1, r1, h1⟩ => ?_⟩
  refine ⟨w1, τ, s1, rs.mono e1, rw1, h1.bind.imp fun y H2 ⟨w2, d2, s2, e2, rw2, r2, h2⟩ => ?_⟩
  obtain ⟨z, ez, h3⟩ := h2.of
  unfold idxD at ez
  split at ez
  · rename_i i
    have r1' := r1.mono e2
    have sq : ∀ {ds}, s2.seq d1 = some ds → ixAt ds i = some z → (rIx X.K) x y H2 Q := fun {ds} q1 q2 => by
      obtain ⟨p, vs, ev', hh, t⟩ := seq_ok rw2 q1 r1'
      obtain ⟨v, hv, rv⟩ := ixAt_rd t q2
      rw [hk] at hh
      rcases hh with hh | hh
      · exact .inl ⟨p, vs, i, v, ev', r2, hh, hv, h3.here rw2 rv⟩
      · exact .inr (.inl ⟨p, vs, i, v, ev', r2, hh, hv, h3.here rw2 rv⟩)
    cases d1 with
    | str t =>
      simp only [atD] at ez
      split at ez
      · rename_i hz
        cases q : ixAt t i with
        | none => rw [q] at ez; cases ez
        | some c =>
          rw [q] at ez
          cases ez
          refine .inr (.inr ⟨_, i, c, r1', r2, by rw [← sizeL_eq]; simpa [Str.length] using hz, by rw [ixAt_eq] at q; exact q, h3.here rw2 rfl⟩)
      · cases ez
    | _ =>
      simp only [atD] at ez
      cases q1 : s2.seq _ with
      | none => rw [q1] at ez; cases ez
      | some ds => rw [q1] at ez; exact sq q1 ez
  · cases ez
/-- a part of a slice -/
def tO (k : Kx) (C : CallH) (W : WX) (b : Bool) (e : IE) : TO := fun σ H Q => ∃ w τ s, RS k w H τ σ ∧ RW k w s H ∧ Post k (Wσ W σ) w H (fun _ _ d o => d = o) ((ev C e τ s).bind fun d s => R.of (optI b d) s) Q
def SO (X : Cx) (k : Kx) (C : CallH) (W : WX) (b : Bool) (e : Option Expr) (i : IE) : Prop := PO X e (tO k C W b i)
theorem po_imp {e : Option Expr} {t t' : TO} (h : PO X e t) (i : ∀ σ H Q, t' σ H Q → t σ H Q) : PO X e t' := ⟨fun pins s σ H Q I q => h.run pins s σ H Q I (i _ _ _ q)⟩
theorem so_none : SO X k C W false none (.lit .non) := po_imp po_none fun σ H Q ⟨w, τ, s, rs, rw, h⟩ => h w none H (Ext.refl w H) rw rfl
theorem so_some {e : Expr} {i : IE} (h : SE X k C W e i) : SO X k C W true (some e) i := po_imp (po_some h) fun σ H Q ⟨w, τ, s, rs, rw, q⟩ => by
  refine ⟨w, τ, s, rs, rw, (q.bind (ρ := RD k)).imp fun x H1 ⟨w1, d1, s1, e1, rw1, r1, h1⟩ => ?_⟩
  obtain ⟨o, eo, h2⟩ := h1.of
  cases d1 <;> first | (simp [optI] at eo; done) | skip
  rename_i n
  simp only [optI, if_true, Option.some.injEq] at eo
  subst eo
  exact ⟨n, r1, h2.here rw1 rfl⟩
theorem slAt_eq (n d : Nat) (o : Option Int) : slAt n d o = HT.sIx n d o := by cases o <;> rfl
theorem cut_rd {w : Wd} {H : Hp} {ds : List D} {vs : List V} (r : RDs k w H ds vs) (lo hi : Option Int) : RDs k w H (cutL ds lo hi) (cutV vs lo hi) := by
  unfold cutL cutV
  rw [slAt_eq, slAt_eq, r.len]
  exact (r.drop _).take _
theorem cut_whole {α : Type} {xs : List α} {lo hi : Option Int} (h : HT.sIx xs.length 0 lo = 0 ∧ HT.sIx xs.length xs.length hi = xs.length) : cutL xs lo hi = xs := by
  unfold cutL
  rw [slAt_eq, slAt_eq, h.1, h.2]
  simp
theorem cut_str (z : List Nat) (lo hi : Option Int) : cutS ⟨z.toArray⟩ lo hi = ⟨(cutL z lo hi).toArray⟩ := by
  unfold cutS cutL
  simp only [slAt_eq, Str.length, List.size_toArray]
theorem se_sl {a : Expr} {lo hi : Option Expr} {bl bh : Bool} {ia il ih : IE} {p2 pos : Pos} (hk : k.K = X.K) (ha : SE X k C W a ia) (hl : SO X k C W bl lo il) (hh : SO X k C W bh hi ih) : SE X k C W (.Subscript a (.Slice lo hi none p2) pos) (.sl bl bh ia il ih) := pe_imp (pe_slice (sl_list.or (sl_tupA.or sl_str)) ha hl hh) fun σ H Q ⟨w, τ, s, rs, rw, h⟩ => by
  simp only [ev] at h
  refine ⟨w, τ, s, rs, rw, h.bind.imp fun x H1 ⟨w1, d1, s1, e1, rw1, r1, h1⟩ => ?_⟩
  refine ⟨w1, τ, s1, rs.mono e1, rw1, h1.bind.imp fun l H2 ⟨w2, l', s2, e2, rw2, r2, h2⟩ => ?_⟩
  refine ⟨w2, τ, s2, (rs.mono e1).mono e2, rw2, h2.bind.imp fun u H3 ⟨w3, u', s3, e3, rw3, r3, h3⟩ => ?_⟩
  subst r2 r3
  obtain ⟨z, ez, h4⟩ := h3.of
  have r1' := (r1.mono e2).mono e3
  have ls : ∀ {o : Option (List D)}, o = s3.lst d1 → (o.map fun ds => D.lst (cutL ds l' u')) = some z → rSlL X.K x l' u' H3 Q := fun {o} q1 q2 => by
    cases o with
    | none => cases q2
    | some ds =>
      simp only [Option.map_some, Option.some.injEq] at q2
      subst q2
      obtain ⟨p, vs, e, hh, t⟩ := lst_ok rw3 q1.symm r1'
      rw [hk] at hh
      exact ⟨p, vs, e, hh, fun q hq => h4 w3 _ _ (Ext.new rw3 hq) (rw3.new hq) ⟨q, _, rfl, rw3.fresh hq, upd_same, (cut_rd t l' u').mono (Ext.new rw3 hq)⟩⟩
  unfold cutD at ez
  split at ez
  · split at ez
    · rename_i t hz
      cases ez
      refine .inr (.inr ⟨_, r1', by rw [← sizeL_eq]; simpa [Str.length] using hz, ?_⟩)
      rw [cut_str]
      exact h4.here rw3 rfl
    · cases ez
  · rename_i ds
    cases ez
    obtain ⟨p, vs, e, hh, t⟩ := r1'
    refine .inr (.inl ⟨p, vs, e, by rw [← hk]; exact hh.sq, fun hw => ?_, fun _ q hq => ?_⟩)
    · rw [← t.len] at hw
      rw [cut_whole hw] at h4
      exact h4.here rw3 ⟨p, vs, rfl, hh, t⟩
    · exact h4 w3 _ _ (Ext.new rw3 hq) (rw3.new hq) ⟨q, _, rfl, .inl ⟨rw3.fresh hq, .inl upd_same⟩, (cut_rd t l' u').mono (Ext.new rw3 hq)⟩
  · exact .inl (ls rfl ez)

/-! ### calls of built-ins -/
theorem se_blt {id : String} {x : Str} {b : B} {e : Expr} {es : List Expr} {i : IE} {p pos : Pos} {r : List V → Hp → VK → Prop} (hc : CallR X (.builtin id) r)
    (hr : ∀ w s H σ ds vs Q, RW k w s H → RDs k w H ds vs → Post k (Wσ W σ) w H (RD k) (bltD b ds s) Q → r vs H Q) (hm : X.mg x = none) (hv : bootBuiltins x = some (.builtin id)) (ha : SA X k C W (e :: es) i)
    (hg : Gl X x := by rfl) (hn : x ≠ "__name__" := by decide) (hdb : (x == ("__debug__" : Str)) = false := by decide) (hs : starEach (e :: es) X.env = (false, eval e X.env) :: starEach es X.env := by rfl) (hpl : (backTo pos (starEach es X.env)).any (·.1) = false := by rfl) :
    SE X k C W (.Call (.Name x p) (e :: es) [] pos) (.blt b i) := pe_imp (pe_callB hc hg hm hv ha hn hdb hs hpl) fun σ H Q ⟨w, τ, s, rs, rw, h⟩ => by
  simp only [ev] at h
  refine ⟨w, τ, s, rs, rw, (h.bind (ρ := RA k)).imp fun vs H1 ⟨w1, d1, s1, e1, rw1, r1, h1⟩ => ?_⟩
  obtain ⟨ds, rfl, rd⟩ := r1
  exact hr w1 s1 H1 σ ds vs Q rw1 rd h1
theorem se_bltT {T : String} {x : Str} {b : B} {e : Expr} {es : List Expr} {i : IE} {p pos : Pos} {r : List V → Hp → VK → Prop} (hc : CallR X (.type T) r)
    (hr : ∀ w s H σ ds vs Q, RW k w s H → RDs k w H ds vs → Post k (Wσ W σ) w H (RD k) (bltD b ds s) Q → r vs H Q) (hm : X.mg x = none) (hv : bootBuiltins x = some (.type T)) (ha : SA X k C W (e :: es) i)
    (hg : Gl X x := by rfl) (hn : x ≠ "__name__" := by decide) (hdb : (x == ("__debug__" : Str)) = false := by decide) (hs : starEach (e :: es) X.env = (false, eval e X.env) :: starEach es X.env := by rfl) (hpl : (backTo pos (starEach es X.env)).any (·.1) = false := by rfl) :
    SE X k C W (.Call (.Name x p) (e :: es) [] pos) (.blt b i) := pe_imp (pe_callTy hc hg hm hv ha hn hdb hs hpl) fun σ H Q ⟨w, τ, s, rs, rw, h⟩ => by
  simp only [ev] at h
  refine ⟨w, τ, s, rs, rw, (h.bind (ρ := RA k)).imp fun vs H1 ⟨w1, d1, s1, e1, rw1, r1, h1⟩ => ?_⟩
  obtain ⟨ds, rfl, rd⟩ := r1
  exact hr w1 s1 H1 σ ds vs Q rw1 rd h1
variable {w : Wd} {s : S} {H : Hp} {σ : St} {Q : VK}
theorem one_ok {ds : List D} {vs : List V} {f : D → R D} (r : RDs k w H ds vs) (h : Post k (Wσ W σ) w H (RD k) (one ds f) Q) : ∃ d v, ds = [d] ∧ vs = [v] ∧ RD k w H d v ∧ Post k (Wσ W σ) w H (RD k) (f d) Q := by
  cases ds with
  | nil => exact h.elim
  | cons d ds =>
    cases ds with
    | nil => obtain ⟨v, r', e, rd, t⟩ := r; exact ⟨d, v, rfl, by rw [e, show r' = [] from t], rd, h⟩
    | cons _ _ => exact h.elim
theorem two_ok {ds : List D} {vs : List V} {f : D → D → R D} (r : RDs k w H ds vs) (h : Post k (Wσ W σ) w H (RD k) (two ds f) Q) : ∃ d e v u, ds = [d, e] ∧ vs = [v, u] ∧ RD k w H d v ∧ RD k w H e u ∧ Post k (Wσ W σ) w H (RD k) (f d e) Q := by
  cases ds with
  | nil => exact h.elim
  | cons d ds =>
    cases ds with
    | nil => exact h.elim
    | cons e ds =>
      cases ds with
      | nil => obtain ⟨v, r', e1, rd, u, r'', e2, re, t⟩ := r; exact ⟨d, e, v, u, rfl, by rw [e1, e2, show r'' = [] from t], rd, re, h⟩
      | cons _ _ => exact h.elim
theorem len_ok (hk : k.K = X.K) {ds : List D} {vs : List V} (rw : RW k w s H) (r : RDs k w H ds vs) (h : Post k (Wσ W σ) w H (RD k) (bltD .len ds s) Q) : ∃ x n, vs = [x] ∧ LenV X.K x H n ∧ Q (.int n) H := by
  have hx := one_ok r h; clear h; obtain ⟨d, v, rfl, rfl, rd, h⟩ := hx
  have sq : Post k (Wσ W σ) w H (RD k) (R.of ((s.seq d).map fun ds => D.int ds.length) s) Q → ∃ x n, [v] = [x] ∧ LenV X.K x H n ∧ Q (.int n) H := fun h => by
    obtain ⟨z, ez, h⟩ := h.of
    cases q : s.seq d with
    | none => rw [q] at ez; cases ez
    | some es =>
      rw [q] at ez
      simp only [Option.map_some, Option.some.injEq] at ez
      subst ez
      obtain ⟨p, us, rfl, hh, t⟩ := seq_ok rw q rd
      rw [hk] at hh
      refine ⟨_, us.length, rfl, hh.imp (fun a => ⟨us, a, rfl⟩) fun a => ⟨us, a, rfl⟩, ?_⟩
      have := h.here rw (b := V.int es.length) rfl
      rw [t.len] at this
      exact this
  cases d with
  | str z =>
    simp only [lenD] at h
    split at h
    · rename_i hz
      cases rd
      refine ⟨_, z.length, rfl, ⟨by rw [← sizeL_eq]; simpa [Str.length] using hz, by simp [Str.length]⟩, h.here rw rfl⟩
    · exact h.elim
  | _ => exact sq h
theorem bls_rd : ∀ {ds : List D} {bs : List Bool} {vs : List V}, blsOf ds = some bs → RDs k w H ds vs → vs = bs.map V.bl
  | [], bs, vs, h, r => by cases h; exact r
  | d :: ds, bs, vs, h, ⟨v, r, e, rd, t⟩ => by
    cases d <;> first | (simp [blsOf] at h; done) | skip
    simp only [blsOf] at h
    cases q : blsOf ds with
    | none => rw [q] at h; cases h
    | some cs =>
      rw [q] at h
      cases h
      rw [e, rd, bls_rd q t]
      rfl
theorem all_ok (hk : k.K = X.K) {ds : List D} {vs : List V} (rw : RW k w s H) (r : RDs k w H ds vs) (h : Post k (Wσ W σ) w H (RD k) (bltD .all ds s) Q) : rAll X.K vs H Q := by
  have hx := one_ok r h; clear h; obtain ⟨d, v, rfl, rfl, rd, h⟩ := hx
  obtain ⟨z, ez, h⟩ := h.of
  cases q : s.lst d with
  | none => rw [q] at ez; cases ez
  | some es =>
    rw [q, Option.bind_some] at ez
    cases q2 : blsOf es with
    | none => rw [q2] at ez; cases ez
    | some bs =>
      rw [q2] at ez
      cases ez
      obtain ⟨p, us, rfl, hh, t⟩ := lst_ok rw q rd
      rw [hk] at hh
      exact ⟨p, bs, rfl, by rw [← bls_rd q2 t]; exact hh, h.here rw rfl⟩
theorem any_ok (hk : k.K = X.K) {ds : List D} {vs : List V} (rw : RW k w s H) (r : RDs k w H ds vs) (h : Post k (Wσ W σ) w H (RD k) (bltD .any ds s) Q) : rAny X.K vs H Q := by
  have hx := one_ok r h; clear h; obtain ⟨d, v, rfl, rfl, rd, h⟩ := hx
  obtain ⟨z, ez, h⟩ := h.of
  cases q : s.lst d with
  | none => rw [q] at ez; cases ez
  | some es =>
    rw [q, Option.bind_some] at ez
    cases q2 : blsOf es with
    | none => rw [q2] at ez; cases ez
    | some bs =>
      rw [q2] at ez
      cases ez
      obtain ⟨p, us, rfl, hh, t⟩ := lst_ok rw q rd
      rw [hk] at hh
      exact ⟨p, bs, rfl, by rw [← bls_rd q2 t]; exact hh, h.here rw rfl⟩
theorem abs_ok {ds : List D} {vs : List V} (rw : RW k w s H) (r : RDs k w H ds vs) (h : Post k (Wσ W σ) w H (RD k) (bltD .abs ds s) Q) : ∃ i, vs = [.int i] ∧ Q (.int (if i < 0 then -i else i)) H := by
  have hx := one_ok r h; clear h; obtain ⟨d, v, rfl, rfl, rd, h⟩ := hx
  cases d <;> first | exact h.elim | skip
  cases rd
  exact ⟨_, rfl, h.here rw rfl⟩
theorem int_ok {ds : List D} {vs : List V} (rw : RW k w s H) (r : RDs k w H ds vs) (h : Post k (Wσ W σ) w H (RD k) (bltD .int ds s) Q) :
    (((∃ i, vs = [.int i] ∧ Q (.int i) H) ∨ ∃ k, vs = [.bl k] ∧ Q (.int (if k then 1 else 0)) H) ∨ ∃ a n, vs = [.str a] ∧ PySem.intText? a = some n ∧ a.length ≤ 640 ∧ Q (.int n) H) := by
  have hx := one_ok r h; clear h; obtain ⟨d, v, rfl, rfl, rd, h⟩ := hx
  cases d with
  | int i => cases rd; exact .inl (.inl ⟨i, rfl, h.here rw rfl⟩)
  | bl b => cases rd; exact .inl (.inr ⟨b, rfl, h.here rw rfl⟩)
  | str z =>
    simp only [intD] at h
    split at h
    · rename_i hz
      obtain ⟨n, en, h⟩ := h.of
      cases rd
      cases q : natTxt z with
      | none => rw [q] at en; cases en
      | some m =>
        rw [q] at en
        cases en
        unfold natTxt at q
        split at q
        · rename_i c
          simp only [Bool.and_eq_true, Bool.not_eq_true', List.all_eq_true, decide_eq_true_eq] at c
          cases q
          refine .inr ⟨_, _, rfl, PySem.intText_digits (x := ⟨z.toArray⟩) (fun a ha => c.2 a ha) (fun e => ?_) (by simp [Str.length]; omega), by simpa [Str.length] using hz, h.here rw rfl⟩
          have e' : z = [] := e
          rw [e'] at c
          simp at c
        · cases q
    · exact h.elim
  | _ => exact h.elim
theorem str_ok {ds : List D} {vs : List V} (rw : RW k w s H) (r : RDs k w H ds vs) (h : Post k (Wσ W σ) w H (RD k) (bltD .str ds s) Q) : ∃ i, vs = [.int i] ∧ i.natAbs.log2 < 1920 ∧ Q (.str (toString i)) H := by
  have hx := one_ok r h; clear h; obtain ⟨d, v, rfl, rfl, rd, h⟩ := hx
  cases d <;> first | exact h.elim | skip
  rename_i i
  cases rd
  simp only [strD] at h
  split at h
  · rename_i hi
    refine ⟨i, rfl, hi.2, h.here rw ?_⟩
    show V.str _ = V.str _
    congr 1
    refine TL.ext_tl ?_
    obtain ⟨n, rfl⟩ := Int.eq_ofNat_of_zero_le hi.1
    rw [show TL.tl (↑(toString ((n : Nat) : Int)) : Str) = TL.numL n from TL.tl_num n]
    rfl
  · exact h.elim
theorem list_ok (hk : k.K = X.K) {m : Mode} {ds : List D} {vs : List V} (rw : RW k w s H) (r : RDs k w H ds vs) (h : Post k (Wσ W σ) w H (RD k) (bltD (.list m) ds s) Q) : ∃ p ys, vs = [.ref p] ∧ (SqL X.K H p ys ∨ SqT X.K H p ys) ∧ ∀ l, H l = none → Q (.ref l) (upd H l (.lst ys)) := by
  have hx := one_ok r h; clear h; obtain ⟨d, v, rfl, rfl, rd, h⟩ := hx
  cases q : s.seq d with
  | none => rw [q] at h; exact h.elim
  | some es =>
    rw [q] at h
    obtain ⟨p, us, rfl, hh, t⟩ := seq_ok rw q rd
    rw [hk] at hh
    exact ⟨p, us, rfl, hh, fun l hl => mkL_ok rw hl t h⟩
theorem chars_rd {w : Wd} {H : Hp} : ∀ (z : List Nat), RDs k w H (z.map fun c => D.str [c]) (z.map fun c => V.str ⟨#[c]⟩)
  | [] => rfl
  | _ :: z => ⟨_, _, rfl, rfl, chars_rd z⟩
theorem tuple_ok (hk : k.K = X.K) {ds : List D} {vs : List V} (rw : RW k w s H) (r : RDs k w H ds vs) (h : Post k (Wσ W σ) w H (RD k) (bltD .tuple ds s) Q) :
    (∃ p ys, vs = [.ref p] ∧ ((SqL X.K H p ys ∧ ∀ l, H l = none → Q (.ref l) (upd H l (.tup ys))) ∨ (SqT X.K H p ys ∧ Q (.ref p) H))) ∨
      ∃ z : Str, vs = [.str z] ∧ z.cps.size ≤ sizeLine ∧ ∀ l, H l = none → Q (.ref l) (upd H l (.tup (z.cps.toList.map fun c => V.str ⟨#[c]⟩))) := by
  have hx := one_ok r h; clear h; obtain ⟨d, v, rfl, rfl, rd, h⟩ := hx
  have other : Post k (Wσ W σ) w H (RD k) (R.of ((s.seq d).map .tup) s) Q → ∃ p ys, [v] = [.ref p] ∧ ((SqL X.K H p ys ∧ ∀ l, H l = none → Q (.ref l) (upd H l (.tup ys))) ∨ (SqT X.K H p ys ∧ Q (.ref p) H)) := fun h => by
    obtain ⟨z, ez, h⟩ := h.of
    cases q : s.seq d with
    | none => rw [q] at ez; cases ez
    | some es =>
      rw [q] at ez
      cases ez
      have ls : s.lst d = some es → ∃ p ys, [v] = [.ref p] ∧ ((SqL X.K H p ys ∧ ∀ l, H l = none → Q (.ref l) (upd H l (.tup ys))) ∨ (SqT X.K H p ys ∧ Q (.ref p) H)) := fun q => by
        obtain ⟨p, us, rfl, hh, t⟩ := lst_ok rw q rd
        rw [hk] at hh
        exact ⟨p, us, rfl, .inl ⟨hh, fun l hl => h w _ _ (Ext.new rw hl) (rw.new hl) ⟨l, _, rfl, .inl ⟨rw.fresh hl, .inl upd_same⟩, t.mono (Ext.new rw hl)⟩⟩⟩
      cases d with
      | tup es' =>
        cases q
        obtain ⟨p, us, rfl, hh, t⟩ := rd
        exact ⟨p, us, rfl, .inr ⟨by rw [← hk]; exact hh.sq, h.here rw ⟨p, us, rfl, hh, t⟩⟩⟩
      | _ => exact ls (by simpa only [S.seq] using q)
  cases d with
  | str z =>
    cases rd
    simp only [tupD] at h
    split at h
    · rename_i hz
      refine .inr ⟨_, rfl, by rw [← sizeL_eq]; simpa using hz, fun l hl => h w _ _ (Ext.new rw hl) (rw.new hl) ⟨l, _, rfl, .inl ⟨rw.fresh hl, .inl upd_same⟩, ?_⟩⟩
      have e : (⟨z.toArray⟩ : Str).cps.toList = z := by simp
      rw [e]
      exact chars_rd z
    · exact h.elim
  | _ => exact .inl (other h)
theorem sorted_ok {m : Mode} {ds : List D} {vs : List V} (rw : RW k w s H) (r : RDs k w H ds vs) (h : Post k (Wσ W σ) w H (RD k) (bltD (.sorted m) ds s) Q) : rSortD k vs H Q := by
  have hx := one_ok r h; clear h; obtain ⟨d, v, rfl, rfl, rd, h⟩ := hx
  cases q : s.lst d with
  | none => rw [q] at h; exact h.elim
  | some es =>
    rw [q, Option.bind_some] at h
    cases q2 : sortO es with
    | none => rw [q2] at h; exact h.elim
    | some fs =>
      rw [q2] at h
      obtain ⟨ef, _⟩ := sortO_fit q2
      subst ef
      obtain ⟨p, us, rfl, hh, t⟩ := lst_ok rw q rd
      exact ⟨p, us, w, es, rfl, hh, t, q2, fun p vs' hp r' => mkL_ok rw hp r' h⟩
theorem min_ok {ds : List D} {vs : List V} (rw : RW k w s H) (r : RDs k w H ds vs) (h : Post k (Wσ W σ) w H (RD k) (bltD .min2 ds s) Q) : ∃ i j, vs = [.int i, .int j] ∧ Q (.int (if j < i then j else i)) H := by
  have hx := two_ok r h; clear h; obtain ⟨d, e, v, u, rfl, rfl, rd, re, h⟩ := hx
  cases d <;> first | exact h.elim | skip
  cases e <;> first | exact h.elim | skip
  cases rd; cases re
  rename_i i j
  refine ⟨i, j, rfl, ?_⟩
  have := h.here rw (b := V.int (if decide (j < i) = true then j else i)) rfl
  simpa using this
theorem max_ok {ds : List D} {vs : List V} (rw : RW k w s H) (r : RDs k w H ds vs) (h : Post k (Wσ W σ) w H (RD k) (bltD .max2 ds s) Q) : ∃ i j, vs = [.int i, .int j] ∧ Q (.int (if j > i then j else i)) H := by
  have hx := two_ok r h; clear h; obtain ⟨d, e, v, u, rfl, rfl, rd, re, h⟩ := hx
  cases d <;> first | exact h.elim | skip
  cases e <;> first | exact h.elim | skip
  cases rd; cases re
  rename_i i j
  refine ⟨i, j, rfl, ?_⟩
  have := h.here rw (b := V.int (if decide (j > i) = true then j else i)) rfl
  simpa using this

/-! ### methods of built-in types -/
theorem se_meth {T id : String} {name : Str} {b : B} {o e : Expr} {es : List Expr} {io i : IE} {apos cpos : Pos} {r : V → List V → Hp → VK → Prop} (pa : PlainAttrs T) (slot : Slot T name id) (hty : typeOf (.builtin id) = pure (.type "method_descriptor")) (hm : MtR X id r)
    (ht : ∀ w s H x v, RW k w s H → RD k w H x v → tyM b x s = true → tyV X.K T v H)
    (hr : ∀ w s H σ x v ds vs Q, RW k w s H → RD k w H x v → RDs k w H ds vs → Post k (Wσ W σ) w H (RD k) (bltD b (x :: ds) s) Q → r v vs H Q)
    (ho : SE X k C W o io) (ha : SA X k C W (e :: es) i) (hbase : attributeBase o name X.env (eval o X.env) = eval o X.env := by rfl)
    (hfew : ((backTo cpos (starEach (e :: es) X.env)).all (fun x => !x.1) && (backToKw cpos (keywordEach [] X.env)).all (fun x => x.1.isSome)
      && decide ((e :: es).length + ([] : List Keyword).length + (if ([] : List Keyword).isEmpty then 0 else 1) < 30)) = true := by rfl)
    (hline : (apos.endLine == cpos.line) = true := by rfl) (hs : starEach (e :: es) X.env = (false, eval e X.env) :: starEach es X.env := by rfl) (hplain : (backTo cpos (starEach es X.env)).any (·.1) = false := by rfl) :
    SE X k C W (.Call (.Attribute o name apos) (e :: es) [] cpos) (.meth b io i) := pe_imp (pe_bm pa slot hty hm ho ha hbase hfew hline hs hplain) fun σ H Q ⟨w, τ, s, rs, rw, h⟩ => by
  simp only [ev] at h
  refine ⟨w, τ, s, rs, rw, h.bind.imp fun x H1 ⟨w1, d1, s1, e1, rw1, r1, h1⟩ => ?_⟩
  split at h1
  · rename_i hty
    refine ⟨ht w1 s1 H1 d1 x rw1 r1 hty, w1, τ, s1, rs.mono e1, rw1, (h1.bind (ρ := RA k)).imp fun vs H2 ⟨w2, d2, s2, e2, rw2, r2, h2⟩ => ?_⟩
    obtain ⟨ds, rfl, rd⟩ := r2
    exact hr w2 s2 H2 σ d1 x ds vs Q rw2 (r1.mono e2) rd h2
  · exact h1.elim
theorem se_meth0 {T id : String} {name : Str} {b : B} {o : Expr} {io : IE} {apos cpos : Pos} {r : V → List V → Hp → VK → Prop} (pa : PlainAttrs T) (slot : Slot T name id) (hty : typeOf (.builtin id) = pure (.type "method_descriptor")) (hm : MtR X id r)
    (ht : ∀ w s H x v, RW k w s H → RD k w H x v → tyM b x s = true → tyV X.K T v H)
    (hr : ∀ w s H σ x v ds vs Q, RW k w s H → RD k w H x v → RDs k w H ds vs → Post k (Wσ W σ) w H (RD k) (bltD b (x :: ds) s) Q → r v vs H Q)
    (ho : SE X k C W o io) (hbase : attributeBase o name X.env (eval o X.env) = eval o X.env := by rfl) (hline : (apos.endLine == cpos.line) = true := by rfl) :
    SE X k C W (.Call (.Attribute o name apos) [] [] cpos) (.meth b io .nil) := pe_imp (pe_bm0 pa slot hty hm ho hbase hline) fun σ H Q ⟨w, τ, s, rs, rw, h⟩ => by
  simp only [ev] at h
  refine ⟨w, τ, s, rs, rw, h.bind.imp fun x H1 ⟨w1, d1, s1, e1, rw1, r1, h1⟩ => ?_⟩
  split at h1
  · rename_i hty
    exact ⟨ht w1 s1 H1 d1 x rw1 r1 hty, hr w1 s1 H1 σ d1 x [] [] Q rw1 r1 rfl h1⟩
  · exact h1.elim
theorem ty_list (hk : k.K = X.K) {x : D} {v : V} (rw : RW k w s H) (r : RD k w H x v) (h : (s.lst' x).isSome = true) : tyV X.K "list" v H := by
  obtain ⟨ds, q⟩ := Option.isSome_iff_exists.mp h
  obtain ⟨p, vs, rfl, hp, t⟩ := lst'_ok rw q r
  exact .inl ⟨rfl, vs, SqL.of hp⟩
theorem app_okD {x : D} {v : V} {ds : List D} {vs : List V} (rw : RW k w s H) (r : RD k w H x v) (rs : RDs k w H ds vs) (h : Post k (Wσ W σ) w H (RD k) (bltD .append (x :: ds) s) Q) : rAppend v vs H Q := by
  have hx := two_ok (ds := x :: ds) (vs := v :: vs) ⟨v, vs, rfl, r, rs⟩ h; clear h; obtain ⟨d, e, v', u, e1, e2, rd, re, h⟩ := hx
  cases e1; cases e2
  unfold appD at h
  cases q : s.lst x with
  | none => rw [q] at h; exact h.elim
  | some es =>
    rw [q] at h
    simp only at h
    split at h
    · rename_i hl
      cases q2 : setL x (es ++ [e]) s with
      | none => rw [q2] at h; exact h.elim
      | some s' =>
        rw [q2] at h
        obtain ⟨p, vs0, rfl, hp, t, hw⟩ := setL_ok rw rd q q2
        obtain ⟨ex, rw'⟩ := hw (vs0 ++ [u]) (t.app ⟨u, [], rfl, re, rfl⟩)
        exact ⟨p, vs0, u, rfl, rfl, hp, by rw [← t.len, ← sizeL_eq]; exact hl, h w _ _ ex rw' rfl⟩
    · exact h.elim
theorem ext_okD {x : D} {v : V} {ds : List D} {vs : List V} (rw : RW k w s H) (r : RD k w H x v) (rs : RDs k w H ds vs) (h : Post k (Wσ W σ) w H (RD k) (bltD .extend (x :: ds) s) Q) : rExtend v vs H Q := by
  have hx := two_ok (ds := x :: ds) (vs := v :: vs) ⟨v, vs, rfl, r, rs⟩ h; clear h; obtain ⟨d, e, v', u, e1, e2, rd, re, h⟩ := hx
  cases e1; cases e2
  unfold extD at h
  cases q : s.lst x with
  | none => rw [q] at h; exact h.elim
  | some es =>
    rw [q] at h
    simp only at h
    cases q3 : s.lst' e with
    | none => rw [q3] at h; exact h.elim
    | some fs =>
      rw [q3] at h
      simp only at h
      split at h
      · rename_i hl
        cases q2 : setL x (es ++ fs) s with
        | none => rw [q2] at h; exact h.elim
        | some s' =>
          rw [q2] at h
          obtain ⟨p, vs0, rfl, hp, t, hw⟩ := setL_ok rw rd q q2
          obtain ⟨b, us, rfl, hb, tb⟩ := lst'_ok rw q3 re
          obtain ⟨ex, rw'⟩ := hw (vs0 ++ us) (t.app tb)
          exact ⟨p, b, vs0, us, rfl, rfl, hp, hb, by rw [← t.len, ← tb.len, ← sizeL_eq]; exact hl, h w _ _ ex rw' rfl⟩
      · exact h.elim
theorem pop_okD {x : D} {v : V} {ds : List D} {vs : List V} (rw : RW k w s H) (r : RD k w H x v) (rs : RDs k w H ds vs) (h : Post k (Wσ W σ) w H (RD k) (bltD .pop (x :: ds) s) Q) : rPop v vs H Q := by
  have hx := one_ok (ds := x :: ds) (vs := v :: vs) ⟨v, vs, rfl, r, rs⟩ h; clear h; obtain ⟨d, v', e1, e2, rd, h⟩ := hx
  cases e1; cases e2
  unfold popD at h
  cases q : s.lst x with
  | none => rw [q] at h; exact h.elim
  | some es =>
    rw [q] at h
    simp only at h
    cases q1 : es[es.length - 1]? with
    | none => rw [q1] at h; exact h.elim
    | some y =>
      rw [q1] at h
      simp only at h
      cases q2 : setL x es.dropLast s with
      | none => rw [q2] at h; exact h.elim
      | some s' =>
        rw [q2] at h
        obtain ⟨p, vs0, rfl, hp, t, hw⟩ := setL_ok rw rd q q2
        obtain ⟨u, hu, ru⟩ := t.get q1
        have tl : RDs k w H es.dropLast vs0.dropLast := by
          rw [List.dropLast_eq_take, List.dropLast_eq_take, ← t.len]; exact t.take _
        obtain ⟨ex, rw'⟩ := hw vs0.dropLast tl
        exact ⟨p, vs0, u, rfl, rfl, hp, by rw [← t.len]; exact hu, h w _ _ ex rw' (ru.mono ex)⟩
theorem erase_rd : ∀ {ds : List D} {vs : List V} (i : Nat), RDs k w H ds vs → RDs k w H (ds.eraseIdx i) (vs.eraseIdx i)
  | [], vs, i, h => by rw [show vs = [] from h]; simp [RDs]
  | d :: ds, _, 0, ⟨v, r, e, h, t⟩ => by rw [e]; exact t
  | d :: ds, _, i + 1, ⟨v, r, e, h, t⟩ => by rw [e]; exact ⟨v, _, rfl, h, erase_rd i t⟩
theorem popAt_okD {x : D} {v : V} {ds : List D} {vs : List V} (rw : RW k w s H) (r : RD k w H x v) (rs : RDs k w H ds vs) (h : Post k (Wσ W σ) w H (RD k) (bltD .popI (x :: ds) s) Q) : rPopAt v vs H Q := by
  have hx := two_ok (ds := x :: ds) (vs := v :: vs) ⟨v, vs, rfl, r, rs⟩ h; clear h; obtain ⟨d, e, v', u, e1, e2, rd, re, h⟩ := hx
  cases e1; cases e2
  cases e <;> first | exact h.elim | skip
  rename_i i
  cases re
  simp only [popAtD] at h
  cases q : s.lst x with
  | none => rw [q] at h; exact h.elim
  | some es =>
    rw [q] at h
    simp only at h
    split at h
    · rename_i hi
      cases q1 : es[i.toNat]? with
      | none => rw [q1] at h; exact h.elim
      | some y =>
        rw [q1] at h
        simp only at h
        cases q2 : setL x (es.eraseIdx i.toNat) s with
        | none => rw [q2] at h; exact h.elim
        | some s' =>
          rw [q2] at h
          obtain ⟨p, vs0, rfl, hp, t, hw⟩ := setL_ok rw rd q q2
          obtain ⟨u, hu, ru⟩ := t.get q1
          obtain ⟨ex, rw'⟩ := hw (vs0.eraseIdx i.toNat) (erase_rd _ t)
          have hlt := (List.getElem?_eq_some_iff.mp hu).1
          exact ⟨p, vs0, i, i.toNat, u, rfl, rfl, hp, by omega, by omega, seqIndex_of hi.1 (by omega), hu, h w _ _ ex rw' (ru.mono ex)⟩
    · exact h.elim
theorem strs_rd : ∀ {ds : List D} {zs : List (List Nat)} {vs : List V}, strsOf ds = some zs → RDs k w H ds vs → vs = (zs.map fun z => (⟨z.toArray⟩ : Str)).map V.str
  | [], zs, vs, h, r => by cases h; exact r
  | d :: ds, zs, vs, h, ⟨v, r, e, rd, t⟩ => by
    cases d <;> first | (simp [strsOf] at h; done) | skip
    simp only [strsOf] at h
    cases q : strsOf ds with
    | none => rw [q] at h; cases h
    | some cs =>
      rw [q] at h
      cases h
      rw [e, rd, strs_rd q t]
      rfl
theorem rd_strs {w : Wd} {H : Hp} : ∀ {zs : List (List Nat)}, RDs k w H (zs.map D.str) ((zs.map fun z => (⟨z.toArray⟩ : Str)).map V.str)
  | [] => rfl
  | z :: zs => ⟨_, _, rfl, rfl, rd_strs⟩
theorem join_okD (hk : k.K = X.K) {x : D} {v : V} {ds : List D} {vs : List V} (rw : RW k w s H) (r : RD k w H x v) (rs : RDs k w H ds vs) (h : Post k (Wσ W σ) w H (RD k) (bltD .join (x :: ds) s) Q) :
    ∃ a p, ∃ ys : List Str, v = .str a ∧ vs = [.ref p] ∧ (SqL X.K H p (ys.map V.str) ∨ SqT X.K H p (ys.map V.str)) ∧ (ys.map (·.length)).sum + ys.length * a.length ≤ 16777216 ∧ Q (.str (Txt.join a ys)) H := by
  have hx := two_ok (ds := x :: ds) (vs := v :: vs) ⟨v, vs, rfl, r, rs⟩ h; clear h; obtain ⟨d, e, v', u, e1, e2, rd, re, h⟩ := hx
  cases e1; cases e2
  cases x <;> first | exact h.elim | skip
  rename_i z
  cases rd
  simp only [joinD] at h
  cases q : s.seq e with
  | none => rw [q] at h; exact h.elim
  | some es =>
    rw [q, Option.bind_some] at h
    cases q2 : strsOf es with
    | none => rw [q2] at h; exact h.elim
    | some zs =>
      rw [q2] at h
      simp only at h
      split at h
      · rename_i hl
        obtain ⟨p, us, rfl, hh, t⟩ := seq_ok rw q re
        rw [hk, strs_rd q2 t] at hh
        have el : ((zs.map fun z => (⟨z.toArray⟩ : Str)).map (·.length)) = zs.map (·.length) := by
          rw [List.map_map]
          exact List.map_congr_left fun a _ => by simp [Str.length]
        refine ⟨_, p, zs.map fun z => ⟨z.toArray⟩, rfl, rfl, hh, by rw [el, List.length_map]; simpa [Str.length, sizeL] using hl, h.here rw ?_⟩
        show V.str _ = V.str _
        congr 1
        refine TL.ext_tl ?_
        rw [TL.join_eq, TL.tl_join]
        show TL.joinL z _ = TL.joinL z zs
        congr 1
        rw [List.map_map]
        exact (List.map_congr_left fun a _ => rfl).trans (List.map_id _)
      · exact h.elim
theorem split_okD {m : Mode} {x : D} {v : V} {ds : List D} {vs : List V} (rw : RW k w s H) (r : RD k w H x v) (rs : RDs k w H ds vs) (h : Post k (Wσ W σ) w H (RD k) (bltD (.split m) (x :: ds) s) Q) :
    ∃ a b, v = .str a ∧ vs = [.str b] ∧ (b.length == 0) = false ∧ a.length + 2 ≤ sizeLine ∧ rNewStrs (Txt.split a b) H Q := by
  have hx := two_ok (ds := x :: ds) (vs := v :: vs) ⟨v, vs, rfl, r, rs⟩ h; clear h; obtain ⟨d, e, v', u, e1, e2, rd, re, h⟩ := hx
  cases e1; cases e2
  cases x <;> first | exact h.elim | skip
  cases e <;> first | exact h.elim | skip
  rename_i z sep
  cases rd
  cases re
  simp only [splitD] at h
  split at h
  · rename_i c
    simp only [Bool.and_eq_true, Bool.not_eq_true', decide_eq_true_eq] at c
    obtain ⟨⟨c1, c2⟩, c3⟩ := c
    have hne : sep ≠ [] := fun e => by rw [e] at c1; cases c1
    refine ⟨_, _, rfl, rfl, by cases sep <;> simp_all [Str.length], by rw [← sizeL_eq]; simpa [Str.length] using c3, fun p hp => ?_⟩
    have es : (Txt.split ⟨z.toArray⟩ ⟨sep.toArray⟩) = (splitT sep z).map fun z => (⟨z.toArray⟩ : Str) := by
      refine TL.map_tl_inj ?_
      rw [TL.split_spl _ _ (by simpa using hne) (TL.kind_ok (by simpa using c2))]
      rw [List.map_map]
      exact ((List.map_congr_left fun a _ => rfl).trans (List.map_id _)).symm
    rw [es]
    exact mkL_ok rw hp rd_strs h
  · exact h.elim
end
end DI

/-! What loops walk; comprehensions. -/
namespace DI
open PySem L2

/-! ### enumerate of a tuple -/
section
theorem en_new {v : Value} {o : Obj} {P : Heap → Prop} (B : Begins v o P) :
    Meets (Builtin.«enumerate.__new__» ⟨[.type "enumerate", v], []⟩) (fun _ R s => P s.heap ∧ R (.ok (.ret (.ref (s.heap.push o).objs.size)))
      { s with heap := (s.heap.push o).push { cls := .type "enumerate", data := .fields #[.none, .bool false, .ref s.heap.objs.size, rawInt 0, .none, .none] } }) :=
  .of_wp fun prog w A R s h => by
    obtain ⟨hp, gn, dr, tk, os⟩ := s
    obtain ⟨h1, h2⟩ := h
    have sb := sub_enumerate
    have it : ∀ {A' : Around} {E' : Value → Shared → Prop} {Q' : Value → Shared → Prop}, Q' (.ref hp.objs.size) ⟨hp.push o, gn, dr, tk, os⟩ → wpAny (model prog w) A' (pyIter v) Q' E' ⟨hp, gn, dr, tk, os⟩ :=
      fun q => B.iter prog w _ _ ⟨hp, gn, dr, tk, os⟩ _ h1 q
    wp_walk using it
    refine wpAny_stack_any fun st => wpAny_pure ?_
    split
    · rename_i c _ _ _ _ _
      cases (c == Value.type "enumerate") <;> (wp_walk using it; exact ⟨_, rfl, h2⟩)
    · wp_walk using it
      exact ⟨_, rfl, h2⟩
theorem en_call {prog : Program} {w : World} {A : Around} {E : Value → Shared → Prop} {s : Shared} {v : Value} {o : Obj} {P : Heap → Prop} {Q : Value → Shared → Prop} (B : Begins v o P) (h1 : P s.heap)
    (h : ∀ h', IsEnum h' (s.heap.objs.size + 1) s.heap.objs.size 0 .none → h'.get? s.heap.objs.size = some o → (∀ b u, s.heap.get? b = some u → h'.get? b = some u) → Q (.ref (s.heap.objs.size + 1)) { s with heap := h' }) :
    wpAny (model prog w) A (call (.type "enumerate") [v]) Q E s := by
  refine callType_new F.called_enumerate (by decide) (F.typeCall_enumerate_1 _) (F.newCall_enumerate_1 _) (fun ob => F.args_object_init_2 ob _) F.entry_enumerate_new (en_new B) ⟨h1, ?_⟩
  have z : (s.heap.push o).objs.size = s.heap.objs.size + 1 := Heap.size_push ..
  show _ ∧ _
  rw [z]
  have en : IsEnum ((s.heap.push o).push { cls := .type "enumerate", data := .fields #[.none, .bool false, .ref s.heap.objs.size, rawInt 0, .none, .none] }) (s.heap.objs.size + 1) s.heap.objs.size 0 .none := by
    have t := Heap.get?_push_size (s.heap.push o) (o := { cls := .type "enumerate", data := .fields #[.none, .bool false, .ref s.heap.objs.size, rawInt 0, .none, .none] }) rfl
    rw [z] at t
    exact t
  exact ⟨⟨_, en, rfl⟩, h _ en (Heap.get?_push_of_some _ (Heap.get?_push_size _ B.free)) fun b u x => Heap.get?_push_of_some _ (Heap.get?_push_of_some _ x)⟩
/-- a tuple's items with their numbers -/
def ItE (K : PySem.W.Frag) (a : Addr) : It :=
  ⟨fun i H => ∃ xs x, SqT K H a xs ∧ xs[i]? = some x, fun i H v H' => ∃ T x, v = .ref T ∧ H T = none ∧ H' = upd H T (.tup [.int (i : Nat), x]) ∧ ∀ xs, SqT K H a xs → xs[i]? = some x, fun i H => ∃ xs, SqT K H a xs ∧ xs.length = i⟩
theorem turnE {P : Program} {w : World} {K : PySem.W.Frag} {elts : List Expr} {kk : Nat} {tp : Pos} (a e it : Addr) :
    Turn P w K (.Tuple elts kk tp) (ItE K a) [e, it] e (fun i h => (∃ old, IsEnum h e it ((i : Nat) : Int) old) ∧ h.IsTupleIter it a i ∧ e ≠ it) where
  mem := List.mem_cons_self
  obj := by
    rintro i h ⟨⟨old, he⟩, ⟨o, ho, hc, hd⟩, _⟩ b hb
    rcases List.mem_cons.mp hb with z | z
    · rw [z]; exact ⟨_, he, fun v q => nomatch q⟩
    · rw [List.mem_singleton.mp z]; exact ⟨o, ho, fun v q => by rw [hd] at q; cases q⟩
  keep := by
    rintro i h h' ⟨⟨old, he⟩, hi, hne⟩ k
    exact ⟨⟨old, k e List.mem_cons_self _ he⟩, hi.at fun o q => k it (by simp) o q, hne⟩
  item := by
    intro X hP hw hK hc i pins s σ H E I hf st hg
    subst hP hw hK
    obtain ⟨⟨old, he⟩, hit, hne⟩ := st
    obtain ⟨xs, x, hq, hx⟩ := hg
    obtain ⟨its, rv, tp, hz⟩ := I.tuple hq
    obtain ⟨u, hu, ru⟩ := rv.get hx
    have le : e < s.heap.objs.size := Heap.lt_size he
    have li : it < s.heap.objs.size := by obtain ⟨_, q, _⟩ := hit; exact Heap.lt_size q
    have nai : a ≠ it := by
      rintro rfl
      obtain ⟨o1, g1, c1, _⟩ := hit
      obtain ⟨o2, g2, c2, _⟩ := tp
      rw [g1] at g2; cases g2
      rw [c1] at c2
      exact absurd c2 (by decide)
    have nea : e ≠ a := by
      rintro rfl
      obtain ⟨o2, g2, c2, _⟩ := tp
      have he' : s.heap.get? e = some _ := he
      rw [he'] at g2; cases g2
      simp at c2
    have hlt : i < its.toArray.size := by
      have := (List.getElem?_eq_some_iff.mp hu).1
      simpa using this
    refine wpAny_pyNext_enum_itemD (Draws.tuple (A := X.A.in1) (I.ok.hd hc) it a nai its.toArray) he ⟨hit, show s.heap.IsTuple a its.toArray from tp⟩ hlt hne (by simp [hne, nea]) fun y h' tk hy ho hit' hT hsz hk => ?_
    have ey : y = u := by
      have hy' : its.toArray[i]? = some y := hy
      rw [List.getElem?_toArray, hu] at hy'
      exact (Option.some.inj hy').symm
    subst ey
    refine ⟨_, rfl, wpAny_letOwnedTupleGo_enum (s := { s with heap := h', toks := tk + 1 }) ho fun h2 he2 sb => ?_⟩
    have hT2 : h2.get? s.heap.objs.size = some { cls := .type "tuple", data := .seq #[.int i tk, y] } := (sb.2 _ (Nat.ne_of_gt le)).trans hT
    have ok : ObjOk X.prog X.w (upd H s.heap.objs.size (.tup [.int (i : Nat), x])) h2 s.heap.objs.size (.tup [.int (i : Nat), x]) :=
      ⟨by show 2 ≤ sizeLine; decide, [.int i tk, y], .cons ⟨_, rfl⟩ (.cons ru .nil), ⟨_, hT2, rfl, _, rfl⟩⟩
    have I1 := I.turnedNew (ch := [e, it]) (t' := tk + 1) (h' := h2) (fun b ob hb q => (sb.2 b (fun z => hb (by simp [z]))).trans (hk b ob (fun z => hb (by simp [z])) (fun z => hb (by simp [z])) q)) hf (Nat.le_refl _) ok
    refine ⟨.ref s.heap.objs.size, _, I1, rfl, ⟨_, x, rfl, I.hok.fresh (Nat.le_refl _), rfl, fun ys hys => by rw [I.tuple_inj hys hq]; exact hx⟩, ⟨⟨y, ?_⟩, hit'.1.at fun o q => (sb.2 it (Ne.symm hne)).trans q, hne⟩, fun b hb => ?_⟩
    · rw [show ((i + 1 : Nat) : Int) = (i : Int) + 1 by omega]; exact he2
    · have lb : b < s.heap.objs.size := by
        rcases List.mem_cons.mp hb with z | z
        · rw [z]; exact le
        · rw [List.mem_singleton.mp z]; exact li
      rw [upd_ne (Nat.ne_of_lt lb)]
      exact (hf b hb).1
  done := by
    intro X hP hw hK hc i pins s σ H E I hf st hg
    subst hP hw hK
    obtain ⟨⟨old, he⟩, hit, hne⟩ := st
    obtain ⟨xs, hq, hx⟩ := hg
    obtain ⟨its, rv, tp, hz⟩ := I.tuple hq
    obtain ⟨f0, f1, f2, f3, f4, f5⟩ := hf it (by simp)
    have nai : a ≠ it := by
      rintro rfl
      obtain ⟨o1, g1, c1, _⟩ := hit
      obtain ⟨o2, g2, c2, _⟩ := tp
      rw [g1] at g2; cases g2
      rw [c1] at c2
      exact absurd c2 (by decide)
    have hl := rv.length
    have en : i = its.toArray.size := by rw [List.size_toArray, ← hl, hx]
    exact wpAny_pyNext_enum_endD (Draws.tuple (prog := X.prog) (w := X.w) (A := X.A.in1) (I.ok.hd hc) it a nai its.toArray) he ⟨by rw [← en]; exact hit, show s.heap.IsTuple a its.toArray from tp⟩ fun h' eb => ⟨rfl, I.turned (t' := s.toks) (fun b o hb q => eb b o hb q) f0 f1 f3 f4 f5⟩
  self := fun A i s Q E st h => let ⟨⟨_, he⟩, _⟩ := st; wpAny_pyIter_enum he h
end

section
variable {X : Cx} {k : Kx} {C : CallH} {W : WX}
/-- what stands in a loop's head: a list, a tuple, a text -/
def iSeq (K : PySem.W.Frag) (tl : TE) : TI := fun σ H R => tl σ H fun x H1 => (∃ a, x = .ref a ∧ (∃ xs, SqL K H1 a xs) ∧ R (Itl K a) H1) ∨ (∃ a, x = .ref a ∧ (∃ xs, SqT K H1 a xs) ∧ R (Itt K a) H1) ∨ ∃ z, x = .str z ∧ R (Its z) H1
theorem pi_seq {tg l : Expr} {tl : TE} (hl : PE X l tl) : PI X tg l (iSeq X.K tl) := by
  refine ⟨fun pins s σ H R I h => thn (hl.run pins s σ H _ I h) fun v s1 ⟨x, H1, I1, r1, q1⟩ => ?_⟩
  rcases q1 with ⟨a, rfl, ⟨xs, hq⟩, q⟩ | ⟨a, rfl, ⟨xs, hq⟩, q⟩ | ⟨z, rfl, q⟩
  · cases r1
    obtain ⟨its, rv, p, hz⟩ := I1.list hq
    exact wpAny_pyIter_list p.isList (pi_one (tk := s1.toks) I1 _ (turn_list a _) ⟨_, Heap.get?_push_size _ rfl, rfl, rfl⟩ q)
  · cases r1
    obtain ⟨its, rv, p, hz⟩ := I1.tuple hq
    exact wpAny_pyIter_tuple (show s1.heap.IsTuple a its.toArray from p) (pi_one (tk := s1.toks) I1 _ (turn_tuple a _) ⟨_, Heap.get?_push_size _ rfl, rfl, rfl⟩ q)
  · obtain ⟨t, rfl⟩ := r1
    cases ha : z.cps.all (· < 128) with
    | false => exact wpAny_pyIter_wide ha (pi_one (tk := s1.toks) I1 _ (turn_str _ z t "str_iterator" (.inr rfl)) ⟨_, Heap.get?_push_size _ rfl, rfl, rfl⟩ q)
    | true => exact wpAny_pyIter_ascii ha (pi_one (tk := s1.toks) I1 _ (turn_str _ z t "str_ascii_iterator" (.inl rfl)) ⟨_, Heap.get?_push_size _ rfl, rfl, rfl⟩ q)
def iEn (K : PySem.W.Frag) (ta : TA) : TI := fun σ H R => ta σ H fun vs H1 => (∃ a xs, vs = [.ref a] ∧ SqL K H1 a xs ∧ R (Ite K a) H1) ∨ ∃ a xs, vs = [.ref a] ∧ SqT K H1 a xs ∧ R (ItE K a) H1
theorem pi_en {e : Expr} {ta : TA} {p pos tpos : Pos} {elts : List Expr} {kk : Nat} (hg : Gl X "enumerate") (hm : X.mg "enumerate" = none) (ha : PA X [e] ta) (hs : starEach [e] X.env = [(false, eval e X.env)] := by rfl) :
    PI X (.Tuple elts kk tpos) (.Call (.Name "enumerate" p) [e] [] pos) (iEn X.K ta) := by
  refine ⟨fun pins s σ H R I h => PyProof.Rows.Call_ (ld_blt I hg hm PyProof.Rows.boot_enumerate (PyProof.Rows.callWith_type1 (thn (ha.run pos pins s σ H _ I h) fun us s1 ⟨vs, H1, I1, r1, q1⟩ => ?_) hs rfl))⟩
  have two : ∀ b, b ∈ [s1.heap.objs.size + 1, s1.heap.objs.size] → FpOk X pins H1 b := fun b hb => by
    have lb : s1.heap.objs.size ≤ b := by
      rcases List.mem_cons.mp hb with z | z
      · omega
      · have := List.mem_singleton.mp z; omega
    exact I1.fpOk lb (I1.hok.fresh lb)
  rcases q1 with ⟨a, xs, rfl, hq, q⟩ | ⟨a, xs, rfl, hq, q⟩
  · obtain ⟨u, rfl, ru⟩ := Vals.one r1
    cases ru
    obtain ⟨its, rv, p', hz⟩ := I1.list hq
    exact call_enumerate_list p'.isList fun h' he hit hsz hk => wpAny_pyIter_enum he ⟨_, _, _, _, H1, rfl, I1.kept (t' := s1.toks) hk, turn_enum a (s1.heap.objs.size + 1) s1.heap.objs.size, ⟨⟨.none, he⟩, hit, Nat.succ_ne_self _⟩, two, q⟩
  · obtain ⟨u, rfl, ru⟩ := Vals.one r1
    cases ru
    obtain ⟨its, rv, p', hz⟩ := I1.tuple hq
    refine en_call (begins_tuple a its.toArray) (show s1.heap.IsTuple a its.toArray from p') fun h' he hit hk => wpAny_pyIter_enum he ?_
    exact ⟨_, _, _, _, H1, rfl, I1.kept (t' := s1.toks) hk, turnE a (s1.heap.objs.size + 1) s1.heap.objs.size, ⟨⟨.none, he⟩, ⟨_, hit, rfl, rfl⟩, Nat.succ_ne_self _⟩, two, q⟩
end
end DI

/-! What loops walk, by data; comprehensions. -/
namespace DI
open PySem L2 RZ

mutual
theorem beq_eq : ∀ (d e : D), D.beq d e = true → d = e
  | .non, e, h => by cases e <;> first | rfl | (simp [D.beq] at h; done)
  | .bl a, e, h => by cases e <;> first | (simp [D.beq] at h; done) | (simp only [D.beq] at h; rw [eq_of_beq h])
  | .int a, e, h => by cases e <;> first | (simp [D.beq] at h; done) | (simp only [D.beq] at h; rw [of_decide_eq_true h])
  | .str a, e, h => by cases e <;> first | (simp [D.beq] at h; done) | (simp only [D.beq] at h; rw [of_decide_eq_true h])
  | .tup a, e, h => by cases e <;> first | (simp [D.beq] at h; done) | (simp only [D.beq] at h; rw [beqs_eq _ _ h])
  | .lst a, e, h => by cases e <;> first | (simp [D.beq] at h; done) | (simp only [D.beq] at h; rw [beqs_eq _ _ h])
  | .ref a, e, h => by cases e <;> first | (simp [D.beq] at h; done) | (simp only [D.beq] at h; rw [of_decide_eq_true h])
  | .loc a, e, h => by cases e <;> first | (simp [D.beq] at h; done) | (simp only [D.beq] at h; rw [of_decide_eq_true h])
  | .exc c f, e, h => by cases e <;> first | (simp [D.beq] at h; done) | (simp only [D.beq, Bool.and_eq_true] at h; rw [of_decide_eq_true h.1, beq_eq _ _ h.2])
  | .ins c f, e, h => by cases e <;> first | (simp [D.beq] at h; done) | (simp only [D.beq, Bool.and_eq_true] at h; rw [of_decide_eq_true h.1, beqs_eq _ _ h.2])
  | .st a, e, h => by cases e <;> first | (simp [D.beq] at h; done) | (simp only [D.beq] at h; rw [beqs_eq _ _ h])
  | .fn a, e, h => by cases e <;> first | (simp [D.beq] at h; done) | (simp only [D.beq] at h; rw [of_decide_eq_true h])
  | .ro a, e, h => by cases e <;> first | (simp [D.beq] at h; done) | (simp only [D.beq] at h; rw [beqs_eq _ _ h])
theorem beqs_eq : ∀ (ds es : List D), D.beqs ds es = true → ds = es
  | [], [], _ => rfl
  | [], _ :: _, h => by simp [D.beqs] at h
  | _ :: _, [], h => by simp [D.beqs] at h
  | d :: ds, e :: es, h => by
    simp only [D.beqs, Bool.and_eq_true] at h
    rw [beq_eq d e h.1, beqs_eq ds es h.2]
end

section
variable {k : Kx} {w : Wd} {H : Hp} {s : S}
/-- at a later time, as long as the lists stand that must stand -/
def LaterL (k : Kx) (w : Wd) (H : Hp) (ds : List D) (ws : List (D × List D)) (p : Addr) : Prop := ∀ w' s' H', Ext w H w' H' → RW k w' s' H' → okW s' ws = true → ∃ vs, SqL k.K H' p vs ∧ RDs k w' H' ds vs
def LaterT (k : Kx) (w : Wd) (H : Hp) (ds : List D) (ws : List (D × List D)) (p : Addr) : Prop := ∀ w' s' H', Ext w H w' H' → RW k w' s' H' → okW s' ws = true → ∃ vs, SqT k.K H' p vs ∧ RDs k w' H' ds vs
theorem okW_one {d : D} {ds : List D} {ws : List (D × List D)} (h : okW s ws = true) (m : (d, ds) ∈ ws) : s.seq d = some ds := by
  unfold okW at h
  rw [List.all_eq_true] at h
  have z := h _ m
  simp only at z
  cases q : s.seq d with
  | none => rw [q] at z; cases z
  | some es => rw [q] at z; rw [beqs_eq _ _ z]
theorem later {d : D} {v : V} {ds : List D} {ws : List (D × List D)} (rw : RW k w s H) (r : RD k w H d v) (h : seqW d s = some (ds, ws)) :
    (D.isTup d = false ∧ ∃ p, v = .ref p ∧ (∃ vs, SqL k.K H p vs) ∧ ∀ ws', (∀ x ∈ ws, x ∈ ws') → LaterL k w H ds ws' p) ∨ (D.isTup d = true ∧ ∃ p, v = .ref p ∧ (∃ vs, SqT k.K H p vs) ∧ ∀ ws', (∀ x ∈ ws, x ∈ ws') → LaterT k w H ds ws' p) ∨
      ∃ z, d = .str z ∧ v = .str ⟨z.toArray⟩ ∧ ds = z.map fun c => .str [c] := by
  have cell : ∀ {o : Option (List D)}, o = s.seq d → (∀ v ds, RD k w H d v → s.seq d = some ds → s.lst d = some ds) → (∀ w' H', RD k w' H' d v → ∀ s', RW k w' s' H' → s'.seq d = some ds → s'.lst d = some ds) → (o.map fun ds => (ds, [(d, ds)])) = some (ds, ws) →
      (∃ p, v = .ref p ∧ (∃ vs, SqL k.K H p vs) ∧ ∀ ws', (∀ x ∈ ws, x ∈ ws') → LaterL k w H ds ws' p) := fun {o} e1 e2 e3 e4 => by
    cases o with
    | none => cases e4
    | some es =>
      simp only [Option.map_some, Option.some.injEq, Prod.mk.injEq] at e4
      obtain ⟨rfl, rfl⟩ := e4
      obtain ⟨p, vs, ev, hp, t⟩ := lst_ok rw (e2 v es r e1.symm) r
      refine ⟨p, ev, ⟨vs, hp⟩, fun ws' hm w' s' H' x rw' ok => ?_⟩
      have q := okW_one ok (hm _ List.mem_cons_self)
      obtain ⟨p', vs', ev', hp', t'⟩ := lst_ok rw' (e3 w' H' (r.mono x) s' rw' q) (r.mono x)
      rw [ev] at ev'
      cases ev'
      exact ⟨vs', hp', t'⟩
  cases d with
  | str z =>
    simp only [seqW, Option.some.injEq, Prod.mk.injEq] at h
    obtain ⟨rfl, _⟩ := h
    exact .inr (.inr ⟨z, rfl, r, rfl⟩)
  | tup es =>
    simp only [seqW, Option.some.injEq, Prod.mk.injEq] at h
    obtain ⟨rfl, _⟩ := h
    obtain ⟨p, vs, e, hh, t⟩ := r
    exact .inr (.inl ⟨rfl, p, e, ⟨vs, hh.sq⟩, fun ws' _ w' s' H' x _ _ => ⟨vs, (hh.mono x).sq, t.mono x⟩⟩)
  | lst es =>
    simp only [seqW, Option.some.injEq, Prod.mk.injEq] at h
    obtain ⟨rfl, _⟩ := h
    obtain ⟨p, vs, e, n, hh, t⟩ := r
    exact .inl ⟨rfl, p, e, ⟨vs, SqL.of hh⟩, fun ws' _ w' s' H' x _ _ => ⟨vs, SqL.of (x.keep _ _ n hh), t.mono x⟩⟩
  | ro es =>
    simp only [seqW, Option.some.injEq, Prod.mk.injEq] at h
    obtain ⟨rfl, _⟩ := h
    obtain ⟨p, vs, e, hh, t⟩ := r
    exact .inl ⟨rfl, p, e, ⟨vs, hh.sq⟩, fun ws' _ w' s' H' x _ _ => ⟨vs, (hh.mono x).sq, t.mono x⟩⟩
  | _ => exact .inl ⟨rfl, cell rfl (fun _ _ _ q => by simpa only [S.seq] using q) (fun _ _ _ _ _ q => by simpa only [S.seq] using q) h⟩

/-- the iterator goes through ds -/
structure ItOk (k : Kx) (w : Wd) (H : Hp) (c : Walk) (J : It) : Prop where
  go : ∀ w' s' H' i d, Ext w H w' H' → RW k w' s' H' → okW s' c.2 = true → c.1[i]? = some d → J.go i H'
  yld : ∀ w' s' H' i d x H'', Ext w H w' H' → RW k w' s' H' → okW s' c.2 = true → c.1[i]? = some d → J.yld i H' x H'' → Ext w' H' w' H'' ∧ RW k w' s' H'' ∧ RD k w' H'' d x
  stop : ∀ w' s' H', Ext w H w' H' → RW k w' s' H' → okW s' c.2 = true → J.stop c.1.length H'
theorem get_len {α β : Type} {xs : List α} {ys : List β} (h : xs.length = ys.length) {i : Nat} {x : α} (e : xs[i]? = some x) : ∃ y, ys[i]? = some y := by
  have := (List.getElem?_eq_some_iff.mp e).1
  exact ⟨ys[i]'(by omega), List.getElem?_eq_getElem _⟩
theorem okL {ds : List D} {ws : List (D × List D)} {p : Addr} (h : LaterL k w H ds ws p) : ItOk k w H (ds, ws) (Itl k.K p) := by
  refine ⟨fun w' s' H' i d x rw ok e => ?_, fun w' s' H' i d v H'' x rw ok e y => ?_, fun w' s' H' x rw ok => ?_⟩
  · obtain ⟨vs, hv, t⟩ := h w' s' H' x rw ok
    obtain ⟨u, hu, _⟩ := t.get e
    exact ⟨vs, u, hv, hu⟩
  · obtain ⟨vs, hv, t⟩ := h w' s' H' x rw ok
    obtain ⟨u, hu, ru⟩ := t.get e
    obtain ⟨rfl, y⟩ := y
    have := y vs hv
    rw [hu] at this
    cases this
    exact ⟨Ext.refl _ _, rw, ru⟩
  · obtain ⟨vs, hv, t⟩ := h w' s' H' x rw ok
    exact ⟨vs, hv, by rw [← t.len]; exact Nat.le_refl _⟩
theorem okT {ds : List D} {ws : List (D × List D)} {p : Addr} (h : LaterT k w H ds ws p) : ItOk k w H (ds, ws) (Itt k.K p) := by
  refine ⟨fun w' s' H' i d x rw ok e => ?_, fun w' s' H' i d v H'' x rw ok e y => ?_, fun w' s' H' x rw ok => ?_⟩
  · obtain ⟨vs, hv, t⟩ := h w' s' H' x rw ok
    obtain ⟨u, hu, _⟩ := t.get e
    exact ⟨vs, u, hv, hu⟩
  · obtain ⟨vs, hv, t⟩ := h w' s' H' x rw ok
    obtain ⟨u, hu, ru⟩ := t.get e
    obtain ⟨rfl, y⟩ := y
    have := y vs hv
    rw [hu] at this
    cases this
    exact ⟨Ext.refl _ _, rw, ru⟩
  · obtain ⟨vs, hv, t⟩ := h w' s' H' x rw ok
    exact ⟨vs, hv, by rw [← t.len]; exact Nat.le_refl _⟩
theorem okS {z : List Nat} {ws : List (D × List D)} : ItOk k w H (z.map fun c => .str [c], ws) (Its ⟨z.toArray⟩) := by
  refine ⟨fun w' s' H' i d x rw ok e => ?_, fun w' s' H' i d v H'' x rw ok e y => ?_, fun w' s' H' x rw ok => ?_⟩
  · have := (List.getElem?_eq_some_iff.mp e).1
    show i < z.toArray.size
    simpa using this
  · obtain ⟨rfl, c, hc, rfl⟩ := y
    rw [List.getElem?_map] at e
    have hc' : z[i]? = some c := by simpa using hc
    rw [hc'] at e
    cases e
    exact ⟨Ext.refl _ _, rw, rfl⟩
  · show z.toArray.size ≤ (z.map fun c => D.str [c]).length
    simp
theorem okR {lo hi : Int} {ws : List (D × List D)} : ItOk k w H (ranged lo hi, ws) (Itr lo (hi - lo).toNat) := by
  refine ⟨fun w' s' H' i d x rw ok e => ?_, fun w' s' H' i d v H'' x rw ok e y => ?_, fun w' s' H' x rw ok => ?_⟩
  · have := (List.getElem?_eq_some_iff.mp e).1
    show i < (hi - lo).toNat
    simp only [ranged, List.length_map, List.length_range] at this
    exact this
  · obtain ⟨rfl, rfl⟩ := y
    simp only [ranged, List.getElem?_map] at e
    cases q : (List.range (hi - lo).toNat)[i]? with
    | none => rw [q] at e; cases e
    | some j =>
      rw [q] at e
      cases e
      have hj : j = i := by
        obtain ⟨h1, h2⟩ := List.getElem?_eq_some_iff.mp q
        rw [List.getElem_range] at h2
        exact h2.symm
      subst hj
      exact ⟨Ext.refl _ _, rw, rfl⟩
  · show (hi - lo).toNat ≤ (ranged lo hi).length
    simp [ranged]
theorem enum_get : ∀ {ds : List D} {n i : Nat} {d : D}, (enumFrom n ds)[i]? = some d → ∃ e, ds[i]? = some e ∧ d = .tup [.int ((n + i : Nat) : Int), e]
  | [], n, i, d, h => by simp [enumFrom] at h
  | e :: ds, n, 0, d, h => by simp [enumFrom] at h; exact ⟨e, rfl, by rw [← h]; rfl⟩
  | e :: ds, n, i + 1, d, h => by
    obtain ⟨e', h1, h2⟩ := enum_get (ds := ds) (n := n + 1) (i := i) (by simpa [enumFrom] using h)
    exact ⟨e', by simpa using h1, by rw [h2, show n + 1 + i = n + (i + 1) by omega]⟩
theorem enum_len : ∀ {ds : List D} {n : Nat}, (enumFrom n ds).length = ds.length
  | [], _ => rfl
  | _ :: ds, n => by rw [enumFrom, List.length_cons, List.length_cons, enum_len]
theorem pair_new {w' : Wd} {s' : S} {H' : Hp} {T : Addr} {x y : V} {d e : D} (rw : RW k w' s' H') (hT : H' T = none) (r1 : RD k w' H' d x) (r2 : RD k w' H' e y) :
    Ext w' H' w' (upd H' T (.tup [x, y])) ∧ RW k w' s' (upd H' T (.tup [x, y])) ∧ RD k w' (upd H' T (.tup [x, y])) (.tup [d, e]) (.ref T) := by
  have ex := Ext.new (o := .tup [x, y]) rw hT
  exact ⟨ex, rw.new hT, T, [x, y], rfl, .inl ⟨rw.fresh hT, .inl upd_same⟩, x, [y], rfl, r1.mono ex, y, [], rfl, r2.mono ex, rfl⟩
theorem okEL {ds : List D} {ws : List (D × List D)} {p : Addr} (h : LaterL k w H ds ws p) : ItOk k w H (enumFrom 0 ds, ws) (Ite k.K p) := by
  refine ⟨fun w' s' H' i d x rw ok e => ?_, fun w' s' H' i d v H'' x rw ok e y => ?_, fun w' s' H' x rw ok => ?_⟩
  · obtain ⟨vs, hv, t⟩ := h w' s' H' x rw ok
    obtain ⟨e', he, _⟩ := enum_get e
    obtain ⟨u, hu, _⟩ := t.get he
    exact ⟨vs, u, hv, hu⟩
  · obtain ⟨vs, hv, t⟩ := h w' s' H' x rw ok
    obtain ⟨e', he, rfl⟩ := enum_get e
    obtain ⟨u, hu, ru⟩ := t.get he
    obtain ⟨T, y', rfl, hT, rfl, hy⟩ := y
    have := hy vs hv
    rw [hu] at this
    cases this
    refine pair_new rw hT ?_ ru
    show V.int _ = V.int _
    rw [Nat.zero_add]
  · obtain ⟨vs, hv, t⟩ := h w' s' H' x rw ok
    exact ⟨vs, hv, by show vs.length ≤ (enumFrom 0 ds).length; rw [enum_len, ← t.len]; exact Nat.le_refl _⟩
theorem okET {ds : List D} {ws : List (D × List D)} {p : Addr} (h : LaterT k w H ds ws p) : ItOk k w H (enumFrom 0 ds, ws) (ItE k.K p) := by
  refine ⟨fun w' s' H' i d x rw ok e => ?_, fun w' s' H' i d v H'' x rw ok e y => ?_, fun w' s' H' x rw ok => ?_⟩
  · obtain ⟨vs, hv, t⟩ := h w' s' H' x rw ok
    obtain ⟨e', he, _⟩ := enum_get e
    obtain ⟨u, hu, _⟩ := t.get he
    exact ⟨vs, u, hv, hu⟩
  · obtain ⟨vs, hv, t⟩ := h w' s' H' x rw ok
    obtain ⟨e', he, rfl⟩ := enum_get e
    obtain ⟨u, hu, ru⟩ := t.get he
    obtain ⟨T, y', rfl, hT, rfl, hy⟩ := y
    have := hy vs hv
    rw [hu] at this
    cases this
    refine pair_new rw hT ?_ ru
    show V.int _ = V.int _
    rw [Nat.zero_add]
  · obtain ⟨vs, hv, t⟩ := h w' s' H' x rw ok
    exact ⟨vs, hv, by show vs.length = (enumFrom 0 ds).length; rw [enum_len, ← t.len]⟩
theorem zip_get {ds es : List D} {i : Nat} {d : D} (h : ((ds.zip es).map fun p => D.tup [p.1, p.2])[i]? = some d) : ∃ a b, ds[i]? = some a ∧ es[i]? = some b ∧ d = .tup [a, b] := by
  rw [List.getElem?_map] at h
  cases q : (ds.zip es)[i]? with
  | none => rw [q] at h; cases h
  | some p =>
    rw [q] at h
    cases h
    obtain ⟨h1, h2⟩ := List.getElem?_zip_eq_some.mp q
    exact ⟨p.1, p.2, h1, h2, rfl⟩
theorem okZL {ds es : List D} {ws : List (D × List D)} {p q : Addr} (h : LaterL k w H ds ws p) (h' : LaterL k w H es ws q) : ItOk k w H ((ds.zip es).map fun p => D.tup [p.1, p.2], ws) (Itz k.K p q) := by
  refine ⟨fun w' s' H' i d x rw ok e => ?_, fun w' s' H' i d v H'' x rw ok e y => ?_, fun w' s' H' x rw ok => ?_⟩
  · obtain ⟨vs, hv, t⟩ := h w' s' H' x rw ok
    obtain ⟨us, hu, t'⟩ := h' w' s' H' x rw ok
    obtain ⟨a, b, ha, hb, _⟩ := zip_get e
    obtain ⟨v1, h1, _⟩ := t.get ha
    obtain ⟨u1, h2, _⟩ := t'.get hb
    exact ⟨vs, us, v1, u1, hv, hu, h1, h2⟩
  · obtain ⟨vs, hv, t⟩ := h w' s' H' x rw ok
    obtain ⟨us, hu, t'⟩ := h' w' s' H' x rw ok
    obtain ⟨a, b, ha, hb, rfl⟩ := zip_get e
    obtain ⟨v1, h1, r1⟩ := t.get ha
    obtain ⟨u1, h2, r2⟩ := t'.get hb
    obtain ⟨T, y1, y2, rfl, hT, rfl, hy1, hy2⟩ := y
    have z1 := hy1 vs hv
    have z2 := hy2 us hu
    rw [h1] at z1; rw [h2] at z2
    cases z1; cases z2
    exact pair_new rw hT r1 r2
  · obtain ⟨vs, hv, t⟩ := h w' s' H' x rw ok
    obtain ⟨us, hu, t'⟩ := h' w' s' H' x rw ok
    refine ⟨vs, us, hv, hu, ?_⟩
    show vs.length ≤ ((ds.zip es).map _).length ∨ us.length ≤ ((ds.zip es).map _).length
    rw [List.length_map, List.length_zip, ← t.len, ← t'.len]
    omega
theorem okZT {ds es : List D} {ws : List (D × List D)} {p q : Addr} (h : LaterT k w H ds ws p) (h' : LaterT k w H es ws q) : ItOk k w H ((ds.zip es).map fun p => D.tup [p.1, p.2], ws) (ItzT k.K p q) := by
  refine ⟨fun w' s' H' i d x rw ok e => ?_, fun w' s' H' i d v H'' x rw ok e y => ?_, fun w' s' H' x rw ok => ?_⟩
  · obtain ⟨vs, hv, t⟩ := h w' s' H' x rw ok
    obtain ⟨us, hu, t'⟩ := h' w' s' H' x rw ok
    obtain ⟨a, b, ha, hb, _⟩ := zip_get e
    obtain ⟨v1, h1, _⟩ := t.get ha
    obtain ⟨u1, h2, _⟩ := t'.get hb
    exact ⟨vs, us, v1, u1, hv, hu, h1, h2⟩
  · obtain ⟨vs, hv, t⟩ := h w' s' H' x rw ok
    obtain ⟨us, hu, t'⟩ := h' w' s' H' x rw ok
    obtain ⟨a, b, ha, hb, rfl⟩ := zip_get e
    obtain ⟨v1, h1, r1⟩ := t.get ha
    obtain ⟨u1, h2, r2⟩ := t'.get hb
    obtain ⟨T, y1, y2, rfl, hT, rfl, hy1, hy2⟩ := y
    have z1 := hy1 vs hv
    have z2 := hy2 us hu
    rw [h1] at z1; rw [h2] at z2
    cases z1; cases z2
    exact pair_new rw hT r1 r2
  · obtain ⟨vs, hv, t⟩ := h w' s' H' x rw ok
    obtain ⟨us, hu, t'⟩ := h' w' s' H' x rw ok
    refine ⟨vs, us, hv, hu, ?_⟩
    show vs.length ≤ ((ds.zip es).map _).length ∨ us.length ≤ ((ds.zip es).map _).length
    rw [List.length_map, List.length_zip, ← t.len, ← t'.len]
    omega
end

/-! ### a loop's head -/
section
variable {X : Cx} {k : Kx} {C : CallH} {W : WX}
def evS (C : CallH) (m : SrcK) (a b : IE) (τ : Sl) (s : S) : R Walk := (ev C a τ s).bind fun x s => (ev C b τ s).bind fun y s => R.of (srcW m x y s) s
def tS (k : Kx) (C : CallH) (W : WX) (m : SrcK) (a b : IE) : TI := fun σ H R => ∃ w τ s, RS k w H τ σ ∧ RW k w s H ∧ Post k (Wσ W σ) w H (ItOk k) (evS C m a b τ s) (fun J H' => R J H')
def SI (X : Cx) (k : Kx) (C : CallH) (W : WX) (tg iter : Expr) (m : SrcK) (a b : IE) : Prop := PI X tg iter (tS k C W m a b)
theorem pi_imp {tg e : Expr} {t t' : TI} (h : PI X tg e t) (i : ∀ σ H Q, t' σ H Q → t σ H Q) : PI X tg e t' := ⟨fun pins s σ H Q I q => h.run pins s σ H Q I (i _ _ _ q)⟩
theorem si_seq {tg a : Expr} {ia : IE} (hk : k.K = X.K) (ha : SE X k C W a ia) : SI X k C W tg a .seq ia .nil := pi_imp (pi_seq ha) fun σ H Q ⟨w, τ, s, rs, rw, h⟩ => by
  unfold evS at h
  simp only [ev] at h
  refine ⟨w, τ, s, rs, rw, (h.bind (ρ := RD k)).imp fun x H1 ⟨w1, d1, s1, e1, rw1, r1, h1⟩ => ?_⟩
  simp only [R.bind] at h1
  obtain ⟨⟨ds, ws⟩, ec, h2⟩ := h1.of
  have ec' : seqW d1 s1 = some (ds, ws) := ec
  rw [← hk]
  rcases later rw1 r1 ec' with ⟨_, p, rfl, hp, l⟩ | ⟨_, p, rfl, hp, l⟩ | ⟨z, rfl, rfl, rfl⟩
  · exact .inl ⟨p, rfl, hp, h2.here rw1 (okL (l ws fun _ h => h))⟩
  · exact .inr (.inl ⟨p, rfl, hp, h2.here rw1 (okT (l ws fun _ h => h))⟩)
  · exact .inr (.inr ⟨_, rfl, h2.here rw1 okS⟩)
theorem si_enum {a : Expr} {ia : IE} {p pos tpos : Pos} {elts : List Expr} {kk : Nat} (hk : k.K = X.K) (hm : X.mg "enumerate" = none) (ha : SE X k C W a ia) (hg : Gl X "enumerate" := by rfl) (he : starEach [a] X.env = (false, eval a X.env) :: starEach [] X.env := by rfl) (hs : starEach [a] X.env = [(false, eval a X.env)] := by rfl) :
    SI X k C W (.Tuple elts kk tpos) (.Call (.Name "enumerate" p) [a] [] pos) .enum ia .nil := pi_imp (pi_en hg hm (pa_cons ha pa_nil he) hs) fun σ H Q ⟨w, τ, s, rs, rw, h⟩ => by
  unfold evS at h
  simp only [ev] at h
  refine ⟨w, τ, s, rs, rw, (h.bind (ρ := RD k)).imp fun x H1 ⟨w1, d1, s1, e1, rw1, r1, h1⟩ => ?_⟩
  show _ ∨ _
  simp only [R.bind] at h1
  obtain ⟨c, ec, h2⟩ := h1.of
  simp only [srcW] at ec
  split at ec
  · cases ec
  rename_i ns
  cases q : seqW d1 s1 with
  | none => rw [q] at ec; cases ec
  | some c' =>
    rw [q] at ec
    obtain ⟨ds, ws⟩ := c'
    simp only [Option.map_some, Option.some.injEq] at ec
    subst ec
    rw [← hk]
    rcases later rw1 r1 q with ⟨_, p, rfl, ⟨vs, hp⟩, l⟩ | ⟨_, p, rfl, ⟨vs, hp⟩, l⟩ | ⟨z, rfl, rfl, rfl⟩
    · exact .inl ⟨p, vs, rfl, hp, h2.here rw1 (okEL (l ws fun _ h => h))⟩
    · exact .inr ⟨p, vs, rfl, hp, h2.here rw1 (okET (l ws fun _ h => h))⟩
    · exact absurd rfl ns
theorem si_rng1 {tg a : Expr} {ia : IE} {p pos : Pos} (hm : X.mg "range" = none) (ha : SE X k C W a ia) (hg : Gl X "range" := by rfl) (he : starEach [a] X.env = (false, eval a X.env) :: starEach [] X.env := by rfl) (hs : starEach [a] X.env = [(false, eval a X.env)] := by rfl) :
    SI X k C W tg (.Call (.Name "range" p) [a] [] pos) .rng1 ia .nil := pi_imp (pi_range1 hg hm (pa_cons ha pa_nil he) hs) fun σ H Q ⟨w, τ, s, rs, rw, h⟩ => by
  unfold evS at h
  simp only [ev] at h
  refine ⟨w, τ, s, rs, rw, (h.bind (ρ := RD k)).imp fun x H1 ⟨w1, d1, s1, e1, rw1, r1, h1⟩ => ?_⟩
  show ∃ _, _
  simp only [R.bind] at h1
  obtain ⟨c, ec, h2⟩ := h1.of
  cases d1 <;> first | (simp [srcW] at ec; done) | skip
  rename_i j
  simp only [srcW] at ec
  split at ec
  · rename_i hj
    simp only [in62, Bool.and_eq_true, decide_eq_true_eq] at hj
    cases ec
    refine ⟨j, by rw [r1], hj.1, hj.2, ?_⟩
    have z := h2.here rw1 (b := Itr 0 (j - 0).toNat) okR
    rw [Int.sub_zero] at z
    exact z
  · cases ec
theorem si_rng2 {tg a b : Expr} {ia ib : IE} {p pos : Pos} (hm : X.mg "range" = none) (ha : SE X k C W a ia) (hb : SE X k C W b ib) (hg : Gl X "range" := by rfl) (he : starEach [a, b] X.env = (false, eval a X.env) :: starEach [b] X.env := by rfl) (he' : starEach [b] X.env = (false, eval b X.env) :: starEach [] X.env := by rfl)
    (hs : starEach [a, b] X.env = [(false, eval a X.env), (false, eval b X.env)] := by rfl) (hs2 : starEach [b] X.env = [(false, eval b X.env)] := by rfl) :
    SI X k C W tg (.Call (.Name "range" p) [a, b] [] pos) .rng2 ia ib := pi_imp (pi_range2 hg hm (pa_cons ha (pa_cons hb pa_nil he') he) hs hs2) fun σ H Q ⟨w, τ, s, rs, rw, h⟩ => by
  unfold evS at h
  refine ⟨w, τ, s, rs, rw, (h.bind (ρ := RD k)).imp fun x H1 ⟨w1, d1, s1, e1, rw1, r1, h1⟩ => ?_⟩
  refine ⟨w1, τ, s1, rs.mono e1, rw1, (h1.bind (ρ := RD k)).imp fun y H2 ⟨w2, d2, s2, e2, rw2, r2, h2⟩ => ?_⟩
  show ∃ _, _
  obtain ⟨c, ec, h3⟩ := h2.of
  obtain ⟨i, j, rfl, rfl⟩ : ∃ i j, d1 = .int i ∧ d2 = .int j := by
    clear h1 h2 h
    cases d1 <;> first | (simp [srcW] at ec; done) | skip
    cases d2 <;> first | (simp [srcW] at ec; done) | skip
    exact ⟨_, _, rfl, rfl⟩
  simp only [srcW] at ec
  split at ec
  · rename_i hj
    simp only [in62, Bool.and_eq_true, decide_eq_true_eq] at hj
    cases ec
    refine ⟨i, j, by rw [r1, r2], ⟨hj.1.1, hj.1.2, hj.2.1, hj.2.2⟩, h3.here rw2 okR⟩
  · cases ec
theorem si_zip {a b : Expr} {ia ib : IE} {p pos tpos : Pos} {elts : List Expr} {kk : Nat} (hk : k.K = X.K) (hm : X.mg "zip" = none) (ha : SE X k C W a ia) (hb : SE X k C W b ib) (hg : Gl X "zip" := by rfl) (he : starEach [a, b] X.env = (false, eval a X.env) :: starEach [b] X.env := by rfl) (he' : starEach [b] X.env = (false, eval b X.env) :: starEach [] X.env := by rfl)
    (hpl : (backTo pos (starEach [b] X.env)).any (·.1) = false := by rfl) :
    SI X k C W (.Tuple elts kk tpos) (.Call (.Name "zip" p) [a, b] [] pos) .zip ia ib := pi_imp (pi_zipA hg hm (pa_cons ha (pa_cons hb pa_nil he') he) he hpl) fun σ H Q ⟨w, τ, s, rs, rw, h⟩ => by
  unfold evS at h
  refine ⟨w, τ, s, rs, rw, (h.bind (ρ := RD k)).imp fun x H1 ⟨w1, d1, s1, e1, rw1, r1, h1⟩ => ?_⟩
  refine ⟨w1, τ, s1, rs.mono e1, rw1, (h1.bind (ρ := RD k)).imp fun y H2 ⟨w2, d2, s2, e2, rw2, r2, h2⟩ => ?_⟩
  show ∃ _, _
  obtain ⟨c, ec, h3⟩ := h2.of
  simp only [srcW] at ec
  split at ec
  · cases ec
  rename_i ns
  simp only [Bool.or_eq_true, Bool.not_eq_true', not_or, Bool.not_eq_true, Bool.not_eq_false] at ns
  cases q1 : seqW d1 s2 with
  | none => rw [q1] at ec; cases ec
  | some c1 =>
    rw [q1, Option.bind_some] at ec
    cases q2 : seqW d2 s2 with
    | none => rw [q2] at ec; cases ec
    | some c2 =>
      rw [q2] at ec
      obtain ⟨ds, ws⟩ := c1
      obtain ⟨es, us⟩ := c2
      simp only [Option.map_some, Option.some.injEq] at ec
      subst ec
      have r1' := r1.mono e2
      rw [← hk]
      rcases later rw2 r1' q1 with ⟨t1, p, rfl, ⟨vs, hp⟩, l⟩ | ⟨t1, p, rfl, ⟨vs, hp⟩, l⟩ | ⟨z, rfl, rfl, rfl⟩
      · rcases later rw2 r2 q2 with ⟨t2, q, rfl, ⟨us', hq⟩, l'⟩ | ⟨t2, q, rfl, ⟨us', hq⟩, l'⟩ | ⟨z, rfl, rfl, rfl⟩
        · exact ⟨p, q, vs, us', rfl, .inl ⟨hp, hq, h3.here rw2 (okZL (l _ fun _ h => List.mem_append_left _ h) (l' _ fun _ h => List.mem_append_right _ h))⟩⟩
        · rw [t1, t2] at ns; exact absurd ns.2 (by decide)
        · exact absurd ns.1.2 (by simp [D.isStr])
      · rcases later rw2 r2 q2 with ⟨t2, q, rfl, ⟨us', hq⟩, l'⟩ | ⟨t2, q, rfl, ⟨us', hq⟩, l'⟩ | ⟨z, rfl, rfl, rfl⟩
        · rw [t1, t2] at ns; exact absurd ns.2 (by decide)
        · exact ⟨p, q, vs, us', rfl, .inr ⟨hp, hq, h3.here rw2 (okZT (l _ fun _ h => List.mem_append_left _ h) (l' _ fun _ h => List.mem_append_right _ h))⟩⟩
        · exact absurd ns.1.2 (by simp [D.isStr])
      · exact absurd ns.1.1 (by simp [D.isStr])
end
end DI

/-! Targets; comprehensions of lists. -/
namespace DI
open PySem L2

section
variable {k : Kx} {w w' : Wd} {H H' : Hp}
/-- what a datum needs to go on standing -/
structure Go (w : Wd) (H : Hp) (w' : Wd) (H' : Hp) : Prop where
  g : ∀ (a : Nat) (p : Addr), w.g[a]? = some p → w'.g[a]? = some p
  l : ∀ (a : Nat) (p : Addr), w.l[a]? = some p → w'.l[a]? = some p
  keep : ∀ p o, p ∉ w.all → H p = some o → p ∉ w'.all ∧ H' p = some o
theorem Ext.goes (x : Ext w H w' H') : Go w H w' H' := ⟨x.g, x.l, fun p o n h => ⟨x.out n h, x.keep p o n h⟩⟩
theorem Go.rd (x : Go w H w' H') {p : Addr} {u : HO} (n : p ∉ w.all) (h : Rd H p u) : p ∉ w'.all ∧ Rd H' p u := by
  rcases h with h | ⟨o, h⟩
  · exact ⟨(x.keep _ _ n h).1, .inl (x.keep _ _ n h).2⟩
  · exact ⟨(x.keep _ _ n h).1, .inr ⟨o, (x.keep _ _ n h).2⟩⟩
mutual
theorem RD.goes (x : Go w H w' H') : ∀ (d : D) (v : V), RD k w H d v → RD k w' H' d v
  | .non, _, h => h
  | .bl _, _, h => h
  | .int _, _, h => h
  | .str _, _, h => h
  | .tup ds, _, ⟨p, vs, e, h, r⟩ => ⟨p, vs, e, h.imp (fun ⟨n, r⟩ => x.rd n r) id, RDs.goes x ds vs r⟩
  | .lst ds, _, ⟨p, vs, e, n, h, r⟩ => ⟨p, vs, e, (x.keep _ _ n h).1, (x.keep _ _ n h).2, RDs.goes x ds vs r⟩
  | .ro ds, _, ⟨p, vs, e, h, r⟩ => ⟨p, vs, e, h.imp (fun ⟨n, r⟩ => x.rd n r) id, RDs.goes x ds vs r⟩
  | .ref a, _, ⟨p, h, e⟩ => ⟨p, x.g a p h, e⟩
  | .loc a, _, ⟨p, h, e⟩ => ⟨p, x.l a p h, e⟩
  | .exc c f, _, ⟨a, d, vf, e, n1, n2, h1, h2, r⟩ => ⟨a, d, vf, e, (x.keep _ _ n1 h1).1, (x.keep _ _ n2 h2).1, (x.keep _ _ n1 h1).2, (x.keep _ _ n2 h2).2, RD.goes x f vf r⟩
  | .fn _, _, h => h
  | .ins _ _, _, h => h
  | .st _, _, h => h
theorem RDs.goes (x : Go w H w' H') : ∀ (ds : List D) (vs : List V), RDs k w H ds vs → RDs k w' H' ds vs
  | [], _, h => h
  | d :: ds, _, ⟨v, r, e, h, t⟩ => ⟨v, r, e, RD.goes x d v h, RDs.goes x ds r t⟩
end
theorem COk.goes {c : Cell} {p : Addr} (x : Go w H w' H') (hp : H' p = H p) (h : COk k w H c p) : COk k w' H' c p := by
  cases c with
  | lst ds => obtain ⟨vs, h, r⟩ := h; exact ⟨vs, by rw [hp]; exact h, RDs.goes x _ _ r⟩
  | dead => obtain ⟨o, h⟩ := h; exact ⟨o, by rw [hp]; exact h⟩
theorem mem_all {w : Wd} {p : Addr} : p ∈ w.all ↔ p ∈ w.g ∨ p ∈ w.l ∨ p ∈ w.e := by
  unfold Wd.all
  simp only [List.mem_append, or_assoc]
/-- the list that is being made, changed -/
theorem updE {s : S} (rw : RW k w s H) {p : Addr} {o : HO} (hp : p ∈ w.e) : Go w H w (upd H p o) ∧ RW k w s (upd H p o) := by
  have go : Go w H w (upd H p o) := ⟨fun _ _ h => h, fun _ _ h => h, fun q u n e => ⟨n, by rw [upd_ne (fun z => n (by rw [z]; exact mem_all.mpr (.inr (.inr hp))))]; exact e⟩⟩
  have nd := rw.nod
  unfold Wd.all at nd
  rw [List.nodup_append] at nd
  have ne : ∀ q ∈ w.g ++ w.l, q ≠ p := fun q hq => nd.2.2 q hq p hp
  refine ⟨go, rw.gl, rw.ll, fun a c q h1 h2 => ?_, fun a c q h1 h2 => ?_, rw.nod, fun q hq => ?_⟩
  · exact ⟨(rw.g a c q h1 h2).1.goes go (upd_ne (ne q (List.mem_append_left _ (List.mem_of_getElem? h2)))), (rw.g a c q h1 h2).2⟩
  · exact (rw.l a c q h1 h2).goes go (upd_ne (ne q (List.mem_append_right _ (List.mem_of_getElem? h2))))
  · by_cases z : q = p
    · rw [z]; exact ⟨_, upd_same⟩
    · obtain ⟨u, e⟩ := rw.e q hq
      exact ⟨u, by rw [upd_ne z]; exact e⟩
/-- the list is made -/
theorem mkL_here {W : Value → Option Addr → Hp → Prop} {w1 : Wd} {H1 : Hp} {s : S} {m : Mode} {p : Addr} {ds : List D} {vs : List V} {Q : VK} (ex : Ext w1 H1 w H) (rw : RW k w s H) (he : w.e = p :: w1.e) (h1 : H1 p = none) (hp : H p = some (.lst vs)) (r : RDs k w H ds vs)
    (h : Post k W w1 H1 (RD k) (mkL m ds s) Q) : Q (.ref p) H := by
  have nd := rw.nod
  have np : p ∉ w.g ∧ p ∉ w.l ∧ p ∉ w1.e := by
    unfold Wd.all at nd
    rw [he] at nd
    simp only [List.nodup_append, List.nodup_cons, List.mem_append, List.mem_cons] at nd
    refine ⟨fun z => nd.2.2 p (.inl z) p (.inl rfl) rfl, fun z => nd.2.2 p (.inr z) p (.inl rfl) rfl, nd.2.1.1⟩
  have sub : ∀ q ∈ w1.e, q ∈ w.e := fun q hq => by rw [he]; exact List.mem_cons_of_mem _ hq
  have nde : w1.e.Nodup := by
    have := rw.nodE
    rw [he, List.nodup_cons] at this
    exact this.2
  have ex1 : Ext w1 H1 ⟨w.g, w.l, w1.e⟩ H := ex.cut (fun _ h => h) sub
  have rw1 : RW k ⟨w.g, w.l, w1.e⟩ s H := rw.cut sub nde
  have r1 : RDs k ⟨w.g, w.l, w1.e⟩ H ds vs := RDs.cut sub ds vs r
  have np1 : p ∉ (⟨w.g, w.l, w1.e⟩ : Wd).all := fun z => by
    rcases mem_all.mp z with z | z | z
    · exact np.1 z
    · exact np.2.1 z
    · exact np.2.2 z
  cases m with
  | fz => exact h _ _ _ ex1 rw1 ⟨p, vs, rfl, np1, hp, r1⟩
  | loc =>
    have go : Go w H ⟨w.g, w.l ++ [p], w1.e⟩ H := by
      refine ⟨fun _ _ h => h, fun a q h => ?_, fun q o n e => ⟨fun z => n ?_, e⟩⟩
      · show (w.l ++ [p])[a]? = some q
        rw [List.getElem?_append_left (List.getElem?_eq_some_iff.mp h).1]
        exact h
      · rw [mem_all] at z ⊢
        simp only [List.mem_append, List.mem_singleton] at z
        rw [he, List.mem_cons]
        rcases z with z | (z | z) | z
        · exact .inl z
        · exact .inr (.inl z)
        · exact .inr (.inr (.inl z))
        · exact .inr (.inr (.inr z))
    refine h ⟨w.g, w.l ++ [p], w1.e⟩ _ H ?_ ?_ ⟨p, ?_, rfl⟩
    · refine ⟨ex1.g, fun a q h => go.l a q (ex.l a q h), fun _ h => h, fun q hq => ?_, ex.keep, ex.efix⟩
      rw [mem_all] at hq
      simp only [List.mem_append, List.mem_singleton] at hq
      rcases hq with z | (z | z) | z
      · exact ex1.ex q (mem_all.mpr (.inl z))
      · exact ex1.ex q (mem_all.mpr (.inr (.inl z)))
      · rw [z]; exact .inr h1
      · exact ex1.ex q (mem_all.mpr (.inr (.inr z)))
    · refine ⟨rw.gl, by simp [rw.ll], fun a c q h1 h2 => ⟨(rw.g a c q h1 h2).1.goes go rfl, (rw.g a c q h1 h2).2⟩, fun a c q h1 h2 => ?_, ?_, fun q hq => rw.e q (sub q hq)⟩
      · by_cases ha : a < s.L.length
        · rw [List.getElem?_append_left ha] at h1
          have h2' : (w.l ++ [p])[a]? = some q := h2
          rw [List.getElem?_append_left (by rw [rw.ll]; exact ha)] at h2'
          exact (rw.l a c q h1 h2').goes go rfl
        · have ea : a = s.L.length := by
            have := (List.getElem?_eq_some_iff.mp h1).1
            simp at this; omega
          subst ea
          have h2' : (w.l ++ [p])[s.L.length]? = some q := h2
          rw [← rw.ll] at h2'
          simp at h1 h2'
          subst h1 h2'
          exact ⟨vs, hp, RDs.goes go _ _ r⟩
      · unfold Wd.all at nd ⊢
        rw [he] at nd
        simp only [List.nodup_append, List.mem_append, List.nodup_cons, List.not_mem_nil, not_false_eq_true, List.nodup_nil, List.mem_singleton, List.mem_cons, true_and] at nd ⊢
        grind
    · show (w.l ++ [p])[s.L.length]? = some p
      rw [← rw.ll]; simp
  | glob =>
    unfold mkL at h
    by_cases c : D.noCs ds = true
    · simp only [c, if_true] at h
      have go : Go w H ⟨w.g ++ [p], w.l, w1.e⟩ H := by
        refine ⟨fun a q h => ?_, fun _ _ h => h, fun q o n e => ⟨fun z => n ?_, e⟩⟩
        · show (w.g ++ [p])[a]? = some q
          rw [List.getElem?_append_left (List.getElem?_eq_some_iff.mp h).1]
          exact h
        · rw [mem_all] at z ⊢
          simp only [List.mem_append, List.mem_singleton] at z
          rw [he, List.mem_cons]
          rcases z with (z | z) | z | z
          · exact .inl z
          · exact .inr (.inr (.inl z))
          · exact .inr (.inl z)
          · exact .inr (.inr (.inr z))
      refine h ⟨w.g ++ [p], w.l, w1.e⟩ _ H ?_ ?_ ⟨p, ?_, rfl⟩
      · refine ⟨fun a q h => go.g a q (ex.g a q h), ex1.l, fun _ h => h, fun q hq => ?_, ex.keep, ex.efix⟩
        rw [mem_all] at hq
        simp only [List.mem_append, List.mem_singleton] at hq
        rcases hq with (z | z) | z | z
        · exact ex1.ex q (mem_all.mpr (.inl z))
        · rw [z]; exact .inr h1
        · exact ex1.ex q (mem_all.mpr (.inr (.inl z)))
        · exact ex1.ex q (mem_all.mpr (.inr (.inr z)))
      · refine ⟨by simp [rw.gl], rw.ll, fun a c' q h1 h2 => ?_, fun a c q h1 h2 => (rw.l a c q h1 h2).goes go rfl, ?_, fun q hq => rw.e q (sub q hq)⟩
        · by_cases ha : a < s.G.length
          · rw [List.getElem?_append_left ha] at h1
            have h2' : (w.g ++ [p])[a]? = some q := h2
            rw [List.getElem?_append_left (by rw [rw.gl]; exact ha)] at h2'
            exact ⟨(rw.g a c' q h1 h2').1.goes go rfl, (rw.g a c' q h1 h2').2⟩
          · have ea : a = s.G.length := by
              have := (List.getElem?_eq_some_iff.mp h1).1
              simp at this; omega
            subst ea
            have h2' : (w.g ++ [p])[s.G.length]? = some q := h2
            rw [← rw.gl] at h2'
            simp at h1 h2'
            subst h1 h2'
            exact ⟨⟨vs, hp, RDs.goes go _ _ r⟩, c⟩
        · unfold Wd.all at nd ⊢
          rw [he] at nd
          simp only [List.nodup_append, List.mem_append, List.nodup_cons, List.not_mem_nil, not_false_eq_true, List.nodup_nil, List.mem_singleton, List.mem_cons, true_and] at nd ⊢
          grind
      · show (w.g ++ [p])[s.G.length]? = some p
        rw [← rw.gl]; simp
    · simp only [c, if_false] at h
      exact h.elim
/-- the new list is ours, not the others' to touch -/
theorem keepE {s : S} (rw : RW k w s H) {p : Addr} {o : HO} (hp : H p = none) : Ext w H ⟨w.g, w.l, p :: w.e⟩ (upd H p o) ∧ RW k ⟨w.g, w.l, p :: w.e⟩ s (upd H p o) := by
  have e0 := Ext.new (o := o) rw hp
  have r0 := rw.new (o := o) hp
  have nf := rw.fresh hp
  have np : p ∉ w.g ∧ p ∉ w.l ∧ p ∉ w.e := by
    rw [mem_all] at nf
    exact ⟨fun z => nf (.inl z), fun z => nf (.inr (.inl z)), fun z => nf (.inr (.inr z))⟩
  have mem : ∀ q, q ∈ (⟨w.g, w.l, p :: w.e⟩ : Wd).all → q ∈ w.all ∨ q = p := fun q hq => by
    rw [mem_all] at hq ⊢
    simp only [List.mem_cons] at hq
    rcases hq with z | z | z | z
    · exact .inl (.inl z)
    · exact .inl (.inr (.inl z))
    · exact .inr z
    · exact .inl (.inr (.inr z))
  have ex : Ext w H ⟨w.g, w.l, p :: w.e⟩ (upd H p o) := ⟨fun _ _ h => h, fun _ _ h => h, fun _ h => List.mem_cons_of_mem _ h, fun q hq => (mem q hq).imp id fun z => by rw [z]; exact hp, e0.keep, e0.efix⟩
  refine ⟨ex, rw.gl, rw.ll, fun a c q h1 h2 => ?_, fun a c q h1 h2 => ?_, ?_, fun q hq => ?_⟩
  · obtain ⟨z, hc⟩ := rw.g a c q h1 h2
    obtain ⟨u, e⟩ := z.there
    exact ⟨z.mono' ex (upd_ne (ne_of_none e hp)), hc⟩
  · have z := rw.l a c q h1 h2
    obtain ⟨u, e⟩ := z.there
    exact z.mono' ex (upd_ne (ne_of_none e hp))
  · have nd := rw.nod
    unfold Wd.all at nd ⊢
    simp only [List.nodup_append, List.mem_append, List.nodup_cons] at nd ⊢
    grind
  · rcases List.mem_cons.mp hq with z | z
    · rw [z]; exact ⟨_, upd_same⟩
    · exact r0.e q z
end

/-! ### targets -/
def P.slots : P → List Nat
  | .v i => [i]
  | .t l => l
/-- a target, by data -/
def tG (k : Kx) (p : P) : TG := fun v σ H Q => ∃ w τ s d τ', RS k w H τ σ ∧ RW k w s H ∧ RD k w H d v ∧ bindP p d τ s = some τ' ∧
  ∀ σ', RS k w H τ' σ' → (∀ vs : List Nat, (∀ i ∈ p.slots, i ∈ vs) → wipe σ' vs = wipe σ vs) → Q σ' H
def SG (X : Cx) (k : Kx) (tg : Expr) (p : P) : Prop := PG X tg (tG k p)
theorem pg_imp {X : Cx} {e : Expr} {t t' : TG} (h : PG X e t) (i : ∀ v σ H Q, t' v σ H Q → t v σ H Q) : PG X e t' := ⟨fun pins s σ H v u Q I r q => h.run pins s σ H v u Q I r (i _ _ _ _ q)⟩
theorem pg_or {X : Cx} {e : Expr} {t u : TG} (h : PG X e t) (h' : PG X e u) : PG X e (fun v σ H Q => t v σ H Q ∨ u v σ H Q) := ⟨fun pins s σ H v x Q I r q => q.elim (h.run pins s σ H v x Q I r) (h'.run pins s σ H v x Q I r)⟩
theorem wipe_set {σ : St} {i : Nat} {o : Option V} : ∀ {vs : List Nat}, i ∈ vs → wipe (σ.set i o) vs = wipe σ vs
  | [], h => nomatch h
  | j :: vs, h => by
    show (wipe (σ.set i o) vs).set j none = (wipe σ vs).set j none
    by_cases hi : i ∈ vs
    · rw [wipe_set hi]
    · have e : j = i := by
        rcases List.mem_cons.mp h with z | z
        · exact z.symm
        · exact absurd z hi
      subst e
      have : ∀ {us : List Nat} {σ : St}, j ∉ us → wipe (σ.set j o) us = (wipe σ us).set j o := fun {us} => by
        induction us with
        | nil => intro σ _; rfl
        | cons l us ih =>
          intro σ hn
          show (wipe (σ.set j o) us).set l none = ((wipe σ us).set l none).set j o
          rw [ih (fun z => hn (List.mem_cons_of_mem _ z)), List.set_comm _ _ (fun z => hn (by rw [z]; exact List.mem_cons_self))]
      rw [this hi, List.set_set]
theorem wipe_wipe {σ : St} : ∀ {us vs : List Nat}, (∀ i ∈ us, i ∈ vs) → wipe (wipe σ us) vs = wipe σ vs
  | [], _, _ => rfl
  | i :: us, vs, h => by
    show wipe ((wipe σ us).set i none) vs = _
    rw [wipe_set (h i List.mem_cons_self), wipe_wipe fun j hj => h j (List.mem_cons_of_mem _ hj)]
section
variable {X : Cx} {k : Kx}
theorem sg_name {i : Nat} {x : Str} {pos : Pos} (hN : X.N.Nodup) (hi : X.N[i]? = some x := by rfl) (hx : Loc X.env.scope x) (hf : X.fn x = true ∨ X.env.scope.names.lookup x = some .local := by first | exact .inr rfl | exact .inl rfl) : SG X k (.Name x pos) (.v i) :=
  pg_imp (pg_name hN hi hx hf) fun v σ H Q ⟨w, τ, s, d, τ', rs, rw, r, e, h⟩ => by
    cases e
    exact h _ (rs.set r) fun vs hv => wipe_set (hv i List.mem_cons_self)
/-- several names -/
def tGs (k : Kx) (l : List Nat) : TGs := fun xs σ H Q => ∃ w τ ds, RS k w H τ σ ∧ RDs k w H ds xs ∧ ds.length = l.length ∧ ∀ σ', RS k w H ((l.zip ds).foldl (fun σ p => σ.set p.1 (some p.2)) τ) σ' → (∀ vs : List Nat, (∀ i ∈ l, i ∈ vs) → wipe σ' vs = wipe σ vs) → Q σ' H
def SGs (X : Cx) (k : Kx) (es : List Expr) (l : List Nat) : Prop := PGs X es (tGs k l)
theorem sgs_nil : SGs X k [] [] := ⟨fun pins s σ H vs us Q I r ⟨w, τ, ds, rs, rd, hl, h⟩ => by
  have e : ds = [] := List.eq_nil_of_length_eq_zero hl
  subst e
  cases (show vs = [] from rd)
  exact pgs_nil.run pins s σ H [] us Q I r ⟨rfl, h σ rs fun _ _ => rfl⟩⟩
theorem sgs_cons {e : Expr} {es : List Expr} {i : Nat} {l : List Nat} {x : Str} {pos : Pos} (he : e = .Name x pos := by rfl) (h1 : PG X e (gName i)) (h2 : SGs X k es l)
    (hs : (assignEach (e :: es) X.env).map (·.2) = assign e X.env :: (assignEach es X.env).map (·.2) := by rfl) : SGs X k (e :: es) (i :: l) := ⟨fun pins s σ H vs us Q I r ⟨w, τ, ds, rs, rd, hl, h⟩ => by
  cases ds with
  | nil => cases hl
  | cons d ds =>
    obtain ⟨v, t, ev, r1, rt⟩ := rd
    refine (pgs_cons h1 h2 hs).run pins s σ H vs us Q I r ⟨v, t, ev, ?_⟩
    refine ⟨w, τ.set i (some d), ds, rs.set r1, rt, by simpa using hl, fun σ' r' hw => h σ' r' fun vs hv => ?_⟩
    rw [hw vs fun j hj => hv j (List.mem_cons_of_mem _ hj), wipe_set (hv i List.mem_cons_self)]⟩
theorem sg_tup {es : List Expr} {l : List Nat} {kk n : Nat} {pos : Pos} (hk : k.K = X.K) (hc : X.calm = true) (h : SGs X k es l) (hn : (assignEach es X.env).length = n := by rfl) (hl : l.length = n := by rfl) (hst : (assignEach es X.env).findIdx? (·.1) = none := by rfl) : SG X k (.Tuple es kk pos) (.t l) :=
  pg_imp (pg_or (pg_tup hc h hn hst) (pg_unl hc h hn hst)) fun v σ H Q ⟨w, τ, s, d, τ', rs, rw, r, e, q⟩ => by
    simp only [bindP] at e
    cases e1 : s.seq d with
    | none => rw [e1] at e; cases e
    | some ds =>
      rw [e1] at e
      simp only at e
      by_cases z : ds.length = l.length
      · rw [if_pos z] at e
        cases e
        obtain ⟨p, vs, ev, hh, t⟩ := seq_ok rw e1 r
        have hv : vs.length = n := by rw [← t.len, z, hl]
        rw [hk] at hh
        rcases hh with hh | hh
        · exact .inr ⟨p, vs, ev, hh, hv, w, τ, ds, rs, t, z, fun σ' r' hw => q σ' r' hw⟩
        · exact .inl ⟨p, vs, ev, hh, hv, w, τ, ds, rs, t, z, fun σ' r' hw => q σ' r' hw⟩
      · rw [if_neg z] at e; cases e
end

/-! ### a list's comprehension -/
def W0 : WX := fun _ _ _ _ => False
theorem Post.calm {α β : Type} {k : Kx} {W : Value → Option Addr → Hp → Prop} {w : Wd} {H : Hp} {ρ : Wd → Hp → α → β → Prop} {a : α} {s : S} {Q : β → Hp → Prop} (h : ∀ w' b H', Ext w H w' H' → RW k w' s H' → ρ w' H' a b → Q b H') : Post k W w H ρ (.ok a s) Q := h
theorem bind_ok {α β : Type} {r : R α} {f : α → S → R β} {b : β} {s : S} (h : r.bind f = .ok b s) : ∃ a s1, r = .ok a s1 ∧ f a s1 = .ok b s := by
  cases r with
  | ok a s1 => exact ⟨a, s1, rfl, h⟩
  | ex x s1 => cases h
  | no => cases h
section
variable {X : Cx} {k : Kx} {C : CallH} {W : WX}
/-- one turn -/
def lcG (C : CallH) (own : List Nat) (p : P) (c e : IE) (σ : Sl) (d : D) (s : S) : R (Option D) := match bindP p d (wipeI σ own) s with
  | some σ' => (ev C c σ' s).bind fun t s => match s.tr t with
    | some true => (ev C e σ' s).bind fun d s => .ok (some d) s
    | some false => .ok none s
    | none => .no
  | none => .no
theorem lc_red {own : List Nat} {m : Mode} {sk : SrcK} {ia ib ic ie : IE} {p : P} {σ : St} {H : Hp} {Q : VK} {tt : TT}
    (ht : ∀ σ H Q, tT k C W0 ic σ H Q → tt σ H Q) (hp : ∀ i ∈ p.slots, i ∈ own)
    (h : tE k C W (.lc m own sk ia ib p ic ie) σ H Q) : tLc (tS k C W sk ia ib) (tG k p) tt (tE k C W0 ie) own σ H Q := by
  obtain ⟨w, τ, s, rs, rw, h⟩ := h
  have h : Post k (Wσ W σ) w H (RD k) ((evS C sk ia ib τ s).bind fun c s => (lcL (lcG C own p ic ie τ) c.2 c.1 [] s).bind fun ds s => mkL m ds s) Q := h
  refine ⟨w, τ, s, rs, rw, (h.bind (ρ := ItOk k)).imp fun J H1 ⟨w1, c, s1, e1, rw1, it, q1⟩ => ?_⟩
  intro Dn hD
  obtain ⟨x0, r0⟩ := keepE (o := .lst []) rw1 hD
  have rs1 := rs.mono e1
  refine ⟨fun i m' H2 => i ≤ c.1.length ∧ m' = c.1.length - i ∧ ∃ w2 s2 acc vs, Ext w1 H1 w2 H2 ∧ w2.e = Dn :: w1.e ∧ RW k w2 s2 H2 ∧ H2 Dn = some (.lst vs) ∧ RDs k w2 H2 acc vs ∧
    Post k (Wσ W σ) w1 H1 (RD k) ((lcL (lcG C own p ic ie τ) c.2 (c.1.drop i) acc s2).bind fun ds s => mkL m ds s) Q, ⟨c.1.length, Nat.zero_le _, rfl, ⟨w1.g, w1.l, Dn :: w1.e⟩, s1, [], [], x0, rfl, r0, upd_same, rfl, q1⟩, ?_⟩
  rintro i m' H2 ⟨hi, hm, w2, s2, acc, vs, x2, we, rw2, hD2, ra, q2⟩
  cases hd : c.1.drop i with
  | nil =>
    have hl : c.1.length ≤ i := List.drop_eq_nil_iff.mp hd
    have ei : i = c.1.length := Nat.le_antisymm hi hl
    rw [hd] at q2
    simp only [lcL] at q2
    by_cases ok : okW s2 c.2 = true
    · rw [if_pos ok] at q2
      refine .inl ⟨by rw [ei]; exact it.stop w2 s2 H2 x2 rw2 ok, ?_⟩
      exact mkL_here x2 rw2 we hD hD2 ra q2
    · rw [if_neg ok] at q2; exact q2.elim
  | cons d rest =>
    have hlt : i < c.1.length := by
      by_cases z : i < c.1.length
      · exact z
      · rw [List.drop_eq_nil_of_le (Nat.le_of_not_lt z)] at hd; cases hd
    have hget : c.1[i]? = some d := by
      have := List.drop_eq_getElem_cons hlt
      rw [hd] at this
      rw [List.getElem?_eq_getElem hlt]
      injection this with a b
      rw [a]
    have hrest : c.1.drop (i + 1) = rest := by
      have := List.drop_eq_getElem_cons hlt
      rw [hd] at this
      injection this with a b
      exact b.symm
    rw [hd] at q2
    simp only [lcL] at q2
    by_cases ok : okW s2 c.2 = true
    · rw [if_pos ok] at q2
      refine .inr ⟨it.go w2 s2 H2 i d x2 rw2 ok hget, ?_⟩
      cases g : lcG C own p ic ie τ d s2 with
      | no => rw [g] at q2; exact q2.elim
      | ex x s' => rw [g] at q2; exact q2.elim
      | ok o s5 =>
        rw [g] at q2
        simp only [R.calm, R.bind] at q2
        refine ⟨fun H' => i + 1 ≤ c.1.length ∧ c.1.length - (i + 1) = c.1.length - (i + 1) ∧ ∃ w2 s2 acc vs, Ext w1 H1 w2 H' ∧ w2.e = Dn :: w1.e ∧ RW k w2 s2 H' ∧ H' Dn = some (.lst vs) ∧ RDs k w2 H' acc vs ∧
          Post k (Wσ W σ) w1 H1 (RD k) ((lcL (lcG C own p ic ie τ) c.2 (c.1.drop (i + 1)) acc s2).bind fun ds s => mkL m ds s) Q, fun H' n => ⟨c.1.length - (i + 1), by omega, n⟩, ?_⟩
        intro x H3 hy
        obtain ⟨x3, rw3, r3⟩ := it.yld w2 s2 H2 i d x H3 x2 rw2 ok hget hy
        unfold lcG at g
        cases gb : bindP p d (wipeI τ own) s2 with
        | none => rw [gb] at g; cases g
        | some τ' =>
          rw [gb] at g
          simp only at g
          refine ⟨w2, wipeI τ own, s2, d, τ', ((rs1.mono x2).mono x3).wipe, rw3, r3, gb, fun σ2 rs2 hw => ⟨?_, ?_⟩⟩
          · rw [hw own hp, wipe_wipe fun i hi => hi]
          obtain ⟨t, s3, ec, g⟩ := bind_ok g
          refine ht _ _ _ ⟨w2, τ', s2, rs2, rw3, ?_⟩
          cases et : s3.tr t with
          | none => rw [et] at g; cases g
          | some b =>
            have evt : evT C ic τ' s2 = .ok b s3 := by unfold evT; rw [ec]; simp only [R.bind, et, R.of]
            rw [evt]
            rw [et] at g
            intro w3 b' H4 x4 rw4 eb
            cases eb
            have hin : Dn ∈ w2.e := by rw [we]; exact List.mem_cons_self
            have x24 := x3.trans x4
            have sub : ∀ {w5 : Wd} {H5 : Hp}, Ext w2 H2 w5 H5 → ∀ p ∈ Dn :: w1.e, p ∈ w5.e := fun x5 p hp => x5.e p (by rw [we]; exact hp)
            have nde : (Dn :: w1.e).Nodup := by rw [← we]; exact rw2.nodE
            cases b with
            | false =>
              rw [if_neg Bool.false_ne_true]
              cases g
              refine ⟨hlt, rfl, ⟨w3.g, w3.l, Dn :: w1.e⟩, s5, acc, vs, (x2.trans x24).cut (fun p hp => List.mem_cons_of_mem _ hp) (sub x24), rfl, rw4.cut (sub x24) nde, ?_, RDs.cut (sub x24) _ _ (ra.mono x24), ?_⟩
              · rw [x24.efix Dn hin]; exact hD2
              · rw [hrest]; exact q2
            | true =>
              rw [if_pos rfl]
              obtain ⟨y, s4, ee, g⟩ := bind_ok g
              cases g
              refine ⟨w3, τ', s3, rs2.mono x4, rw4, ?_⟩
              rw [ee]
              intro w4 v H5 x5 rw5 r5
              have x25 := x24.trans x5
              have hD5 : H5 Dn = some (.lst vs) := by rw [x25.efix Dn hin]; exact hD2
              have ra5 := ra.mono x25
              simp only at q2
              by_cases hsz : acc.length < sizeL
              · rw [if_pos hsz] at q2
                refine ⟨vs, hD5, by rw [← ra5.len, ← sizeL_eq]; exact hsz, hlt, rfl, ⟨w4.g, w4.l, Dn :: w1.e⟩, s5, acc ++ [y], vs ++ [v], ?_, rfl, ?_, upd_same, ?_, ?_⟩
                · have z := (x2.trans x25).cut (e' := Dn :: w1.e) (fun p hp => List.mem_cons_of_mem _ hp) (sub x25)
                  refine ⟨z.g, z.l, z.e, z.ex, fun p o n e => ?_, fun p hp => ?_⟩
                  · rw [upd_ne (ne_of_none e hD)]; exact z.keep p o n e
                  · obtain ⟨u, e⟩ := rw1.e p hp
                    rw [upd_ne (ne_of_none e hD)]; exact z.efix p hp
                · exact (updE (rw5.cut (sub x25) nde) List.mem_cons_self).2
                · have go := (updE (o := .lst (vs ++ [v])) (rw5.cut (sub x25) nde) List.mem_cons_self).1
                  exact RDs.goes go _ _ ((RDs.cut (sub x25) _ _ ra5).app ⟨v, [], rfl, RD.cut (sub x25) _ _ r5, rfl⟩)
                · rw [hrest]; exact q2
              · rw [if_neg hsz] at q2; exact q2.elim
    · rw [if_neg ok] at q2; exact q2.elim
theorem tYes_ok {σ : St} {H : Hp} {Q : Bool → Hp → Prop} (h : tT k C W0 (.lit (.bl true)) σ H Q) : tYes σ H Q := by
  obtain ⟨w, τ, s, rs, rw, h⟩ := h
  exact h.here rw rfl
theorem tLc_mono {wi : TI} {g : TG} {tt : TT} {te : TE} {vs : List Nat} {σ : St} {H : Hp} {Q : VK} (h : tLc wi g tt te vs σ H Q) : tLc wi g tt te vs σ H Q := h
theorem se_lc {elt tg iter : Expr} {scope : Scope} {own : List (Str × Nat)} {pos : Pos} {m : Mode} {sk : SrcK} {ia ib ie : IE} {p : P} (hc : X.calm = true) (hN : X.N.Nodup) (hi : SI X k C W tg iter sk ia ib) (ok : BlkOk X.N X.env.scope scope own)
    (hg : ∀ (s : Shared) (H : Hp) (C' : Addr) (cl : List (Str × Addr)) (fp : List Addr), SG (X.blk s H scope (compEnvC scope cl C' X.env) fp) k tg p)
    (he : ∀ (s : Shared) (H : Hp) (C' : Addr) (cl : List (Str × Addr)) (fp : List Addr), SE (X.blk s H scope (compEnvC scope cl C' X.env) fp) k C W0 elt ie)
    (hp : ∀ i ∈ p.slots, i ∈ own.map (·.2) := by decide) (hs : ∀ x, foldedSetIterable iter X.env x = pure x := by intro _; rfl) :
    SE X k C W (.ListComp elt [⟨tg, iter, [], 0⟩] scope pos) (.lc m (own.map (·.2)) sk ia ib p (.lit (.bl true)) ie) :=
  pe_imp (pe_lc hc hN hi ok hg (fun _ _ _ _ _ => pts_nil) he hs) fun σ H Q h => lc_red (fun _ _ _ => tYes_ok) hp h
theorem se_lcIf {elt tg iter c : Expr} {scope : Scope} {own : List (Str × Nat)} {pos : Pos} {m : Mode} {sk : SrcK} {ia ib ic ie : IE} {p : P} (hc : X.calm = true) (hN : X.N.Nodup) (hi : SI X k C W tg iter sk ia ib) (ok : BlkOk X.N X.env.scope scope own)
    (hg : ∀ (s : Shared) (H : Hp) (C' : Addr) (cl : List (Str × Addr)) (fp : List Addr), SG (X.blk s H scope (compEnvC scope cl C' X.env) fp) k tg p)
    (ht : ∀ (s : Shared) (H : Hp) (C' : Addr) (cl : List (Str × Addr)) (fp : List Addr), ST (X.blk s H scope (compEnvC scope cl C' X.env) fp) k C W0 c ic)
    (he : ∀ (s : Shared) (H : Hp) (C' : Addr) (cl : List (Str × Addr)) (fp : List Addr), SE (X.blk s H scope (compEnvC scope cl C' X.env) fp) k C W0 elt ie)
    (hp : ∀ i ∈ p.slots, i ∈ own.map (·.2) := by decide) (hs : ∀ x, foldedSetIterable iter X.env x = pure x := by intro _; rfl) :
    SE X k C W (.ListComp elt [⟨tg, iter, [c], 0⟩] scope pos) (.lc m (own.map (·.2)) sk ia ib p ic ie) :=
  pe_imp (pe_lc hc hN hi ok hg (fun s H C' cl fp => pts_one (ht s H C' cl fp)) he hs) fun σ H Q h => lc_red (fun _ _ _ h => h) hp h
end
end DI

/-! Statements. -/
namespace DI
open PySem L2

def PostS (k : Kx) (W : WX) (w : Wd) (H : Hp) (fl : Flow) (D : Ends) : Prop := match fl with
  | .nx τ s => ∀ w' σ' H', Ext w H w' H' → RW k w' s H' → RS k w' H' τ σ' → D.nx σ' H'
  | .rt d s => ∀ w' v H', Ext w H w' H' → RW k w' s H' → RD k w' H' d v → D.rt v H'
  | .bk τ s => ∀ w' σ' H', Ext w H w' H' → RW k w' s H' → RS k w' H' τ σ' → D.bk σ' H'
  | .ct τ s => ∀ w' σ' H', Ext w H w' H' → RW k w' s H' → RS k w' H' τ σ' → D.ct σ' H'
  | .ex x τ s => ∀ w' σ' cls dd H', Ext w H w' H' → RW k w' s H' → RS k w' H' τ σ' → RX k w' H' x cls dd → W cls dd σ' H'
  | .no => False
def tIS (k : Kx) (C : CallH) (W : WX) (i : IS) : TS := fun D σ H => ∃ w τ s, RS k w H τ σ ∧ RW k w s H ∧ PostS k W w H (exec C i τ s) D
def SS (X : Cx) (k : Kx) (C : CallH) (W : WX) (st : Stmt) (i : IS) : Prop := PS X st (tIS k C W i)
def SSs (X : Cx) (k : Kx) (C : CallH) (W : WX) (sts : List Stmt) (i : IS) : Prop := PSs X sts (tIS k C W i)
theorem ps_imp {X : Cx} {e : Stmt} {t t' : TS} (h : PS X e t) (i : ∀ D σ H, t' D σ H → t D σ H) : PS X e t' := ⟨fun pins s σ H D I q => h.run pins s σ H D I (i _ _ _ q)⟩
theorem pss_imp {X : Cx} {e : List Stmt} {t t' : TS} (h : PSs X e t) (i : ∀ D σ H, t' D σ H → t D σ H) : PSs X e t' := ⟨fun pins s σ H D I q => h.run pins s σ H D I (i _ _ _ q)⟩

section
variable {k : Kx} {w w' : Wd} {H H' : Hp} {W : WX} {D : Ends} {r : Flow}
theorem PostS.mono (x : Ext w H w' H') (h : PostS k W w H r D) : PostS k W w' H' r D := by
  cases r with
  | nx τ s => exact fun w2 σ' H2 e => h w2 σ' H2 (x.trans e)
  | rt d s => exact fun w2 v H2 e => h w2 v H2 (x.trans e)
  | bk τ s => exact fun w2 σ' H2 e => h w2 σ' H2 (x.trans e)
  | ct τ s => exact fun w2 σ' H2 e => h w2 σ' H2 (x.trans e)
  | ex y τ s => exact fun w2 σ' c d H2 e => h w2 σ' c d H2 (x.trans e)
  | no => exact h
theorem PostS.flw {α β : Type} {ρ : Wd → Hp → α → β → Prop} {r : R α} {τ : Sl} {σ : St} {f : α → S → Flow} (rs : RS k w H τ σ) (h : PostS k W w H (r.fl τ f) D) :
    Post k (Wσ W σ) w H ρ r (fun b H1 => ∃ w1 a s1, Ext w H w1 H1 ∧ RW k w1 s1 H1 ∧ ρ w1 H1 a b ∧ PostS k W w1 H1 (f a s1) D) := by
  cases r with
  | ok a s => exact fun w' b H' e rw r => ⟨w', a, s, e, rw, r, PostS.mono e h⟩
  | ex y s => exact fun w' c dd H' e rw r => h w' σ c dd H' e rw (rs.mono e) r
  | no => exact h
theorem PostS.of {α : Type} {o : Option α} {f : α → Flow} (h : PostS k W w H (R.ofF o f) D) : ∃ a, o = some a ∧ PostS k W w H (f a) D := by
  cases o with
  | none => exact h.elim
  | some a => exact ⟨a, rfl, h⟩
theorem PostS.nx {τ : Sl} {σ : St} {s : S} (h : PostS k W w H (.nx τ s) D) (rw : RW k w s H) (rs : RS k w H τ σ) : D.nx σ H := h w σ H (Ext.refl w H) rw rs
theorem PostS.seq {g : Sl → S → Flow} {t : TS} (h : PostS k W w H (r.then g) D) (ht : ∀ w τ s σ H, RS k w H τ σ → RW k w s H → PostS k W w H (g τ s) D → t D σ H) : PostS k W w H r { D with nx := t D } := by
  cases r with
  | nx τ s => exact fun w' σ' H' e rw rs => ht w' τ s σ' H' rs rw (PostS.mono e h)
  | rt d s => exact h
  | bk τ s => exact h
  | ct τ s => exact h
  | ex y τ s => exact h
  | no => exact h
end

section
variable {X : Cx} {k : Kx} {C : CallH} {W : WX}
theorem ss_nil : SSs X k C W [] .skip := pss_imp pss_nil fun D σ H ⟨w, τ, s, rs, rw, h⟩ => h.nx rw rs
theorem ss_one {st : Stmt} {i : IS} (h : SS X k C W st i) : SSs X k C W [st] i := pss_one h
theorem ss_cons {st : Stmt} {rest : List Stmt} {i j : IS} (h : SS X k C W st i) (h' : SSs X k C W rest j) : SSs X k C W (st :: rest) (.seq i j) := pss_imp (pss_cons h h') fun D σ H ⟨w, τ, s, rs, rw, q⟩ =>
  ⟨w, τ, s, rs, rw, PostS.seq (D := D) (g := exec C j) q fun w τ s σ H rs rw q => ⟨w, τ, s, rs, rw, q⟩⟩
theorem s_expr {e : Expr} {i : IE} {pos : Pos} (he : SE X k C W e i) (hs : swapsWith e none pos.line X.env = pure false := by rfl) : SS X k C W (.Expr e pos) (.expr i) := ps_imp (ps_expr he hs) fun D σ H ⟨w, τ, s, rs, rw, h⟩ => by
  simp only [exec] at h
  exact ⟨w, τ, s, rs, rw, (PostS.flw (ρ := RD k) rs h).imp fun v H1 ⟨w1, d, s1, e1, rw1, r1, q⟩ => q.nx rw1 (rs.mono e1)⟩
theorem s_set {i : Nat} {x : Str} {e : Expr} {ie : IE} {pos pos' : Pos} (hN : X.N.Nodup) (he : SE X k C W e ie) (hi : X.N[i]? = some x := by rfl) (hx : Loc X.env.scope x := by first | exact .inl rfl | exact .inr rfl) (hs : swapsWith e (some (.Name x pos')) pos.line X.env = pure false := by rfl)
    (hf : X.fn x = true ∨ X.env.scope.names.lookup x = some .local := by first | exact .inr rfl | exact .inl rfl) : SS X k C W (.Assign [.Name x pos'] e pos) (.asg (.v i) ie) := ps_imp (ps_set hN hi hx he hs hf) fun D σ H ⟨w, τ, s, rs, rw, h⟩ => by
  simp only [exec] at h
  exact ⟨w, τ, s, rs, rw, (PostS.flw (ρ := RD k) rs h).imp fun v H1 ⟨w1, d, s1, e1, rw1, r1, q⟩ => PostS.nx (τ := τ.set i (some d)) q rw1 ((rs.mono e1).set r1)⟩
theorem s_asg {tg e : Expr} {p : P} {ie : IE} {pos : Pos} (he : SE X k C W e ie) (hg : SG X k tg p) (hs : swapsWithSole [tg] e pos.line X.env = pure false := by rfl) (hw : swappedStores [tg] e X.env = pure none := by rfl)
    (h1 : (assignEach [tg] X.env).map (·.2) = [assign tg X.env] := by rfl) : SS X k C W (.Assign [tg] e pos) (.asg p ie) := ps_imp (ps_asg he hg hs hw h1) fun D σ H ⟨w, τ, s, rs, rw, h⟩ => by
  simp only [exec] at h
  refine ⟨w, τ, s, rs, rw, (PostS.flw (ρ := RD k) rs h).imp fun v H1 ⟨w1, d, s1, e1, rw1, r1, q⟩ => ?_⟩
  obtain ⟨τ', et, q⟩ := q.of
  exact ⟨w1, τ, s1, d, τ', rs.mono e1, rw1, r1, et, fun σ' rs' _ => q.nx rw1 rs'⟩
theorem s_setLc {i : Nat} {y : Str} {py : Pos} {elt tg iter : Expr} {scope : Scope} {own : List (Str × Nat)} {pos spos : Pos} {m : Mode} {sk : SrcK} {ia ib ie : IE} {p : P} (hc : X.calm = true) (hN : X.N.Nodup)
    (hi : SI X k C W tg iter sk ia ib) (ok : BlkOk X.N X.env.scope scope own)
    (hg : ∀ (s : Shared) (H : Hp) (C' : Addr) (cl : List (Str × Addr)) (fp : List Addr), SG (X.blk s H scope (compEnvC scope cl C' X.env) fp) k tg p)
    (he : ∀ (s : Shared) (H : Hp) (C' : Addr) (cl : List (Str × Addr)) (fp : List Addr), SE (X.blk s H scope (compEnvC scope cl C' X.env) fp) k C W0 elt ie)
    (hy : X.N[i]? = some y := by rfl) (hyl : X.env.scope.names.lookup y = some .local := by rfl) (hk : X.env.scope.kind = .function := by rfl) (hl : (py.line == pos.line) = true := by rfl) (ha : (scope.names.any fun (n, k) => n == y && (k == .local || k == .cell)) = false := by rfl)
    (hsw : swapsWith (.ListComp elt [⟨tg, iter, [], 0⟩] scope pos) (some (.Name y py)) spos.line X.env = pure true := by first | exact sw_true (by assumption) (by assumption) (by assumption) (by assumption))
    (hp : ∀ i ∈ p.slots, i ∈ own.map (·.2) := by decide) (hs : ∀ x, foldedSetIterable iter X.env x = pure x := by intro _; rfl) :
    SS X k C W (.Assign [.Name y py] (.ListComp elt [⟨tg, iter, [], 0⟩] scope pos) spos) (.asg (.v i) (.lc m (own.map (·.2)) sk ia ib p (.lit (.bl true)) ie)) :=
  ps_imp (ps_setLc hc hN hy hyl hsw hi ok hg (fun _ _ _ _ _ => pts_nil) he hs) fun D σ H ⟨w, τ, s, rs, rw, h⟩ => by
    simp only [exec] at h
    show tLc _ _ _ _ _ σ H fun x H1 => gName i x σ H1 D.nx
    refine lc_red (fun _ _ _ => tYes_ok) hp ⟨w, τ, s, rs, rw, (PostS.flw (ρ := RD k) rs h).imp fun v H1 ⟨w1, d, s1, e1, rw1, r1, q⟩ => PostS.nx (τ := τ.set i (some d)) q rw1 ((rs.mono e1).set r1)⟩
theorem s_par {i j : Nat} {x y : Str} {a b : Expr} {ia : IE} {px py pt pos : Pos} {kt k2 pt2} (hc : X.calm = true) (hN : X.N.Nodup) (ha : SA X k C W [a, b] ia) (hi : X.N[i]? = some x := by rfl) (hj : X.N[j]? = some y := by rfl) (hij : i ≠ j := by decide)
    (hx : X.env.scope.names.lookup x = some .local := by rfl) (hy : X.env.scope.names.lookup y = some .local := by rfl)
    (hw : swappedStores [.Tuple [.Name x px, .Name y py] kt pt] (.Tuple [a, b] k2 pt2) X.env = pure (some [x, y]) := by rfl)
    (hs : swapsWithSole [.Tuple [.Name x px, .Name y py] kt pt] (.Tuple [a, b] k2 pt2) pos.line X.env = pure false := by rfl) :
    SS X k C W (.Assign [.Tuple [.Name x px, .Name y py] kt pt] (.Tuple [a, b] k2 pt2) pos) (.par i j ia) := ps_imp (ps_par hc hN hi hj hij hx hy ha hw hs) fun D σ H ⟨w, τ, s, rs, rw, h⟩ => by
  simp only [exec] at h
  refine ⟨w, τ, s, rs, rw, (PostS.flw (ρ := RA k) rs h).imp fun vs H1 ⟨w1, d, s1, e1, rw1, r1, q⟩ => ?_⟩
  obtain ⟨ds, rfl, r⟩ := r1
  match ds, r with
  | [], _ => exact q.elim
  | [_], _ => exact q.elim
  | _ :: _ :: _ :: _, _ => exact q.elim
  | [a, b], ⟨v, _, e2, ra, u, _, e3, rb, e4⟩ =>
    cases e4
    subst e3 e2
    exact ⟨v, u, rfl, PostS.nx (τ := (τ.set i (some a)).set j (some b)) q rw1 (((rs.mono e1).set ra).set rb)⟩
theorem s_sub {o i e : Expr} {io ii ie : IE} {tpos pos : Pos} (ho : SE X k C W o io) (hi : SE X k C W i ii) (he : SE X k C W e ie)
    (hs : swapsWithSole [.Subscript o i tpos] e pos.line X.env = pure false := by rfl) (hw : swappedStores [.Subscript o i tpos] e X.env = pure none := by rfl) (h1 : (assignEach [.Subscript o i tpos] X.env).map (·.2) = [assign (.Subscript o i tpos) X.env] := by rfl)
    (ha : ∀ v, assign (.Subscript o i tpos) X.env v = (do { let ov ← holding [v] (eval o X.env); let iv ← holding [v, ov] (eval i X.env); standAt tpos; holding [v, ov, iv] (setItem ov iv v); release [v, ov, iv] [] }) := by intro _; rfl) : SS X k C W (.Assign [.Subscript o i tpos] e pos) (.sub io ii ie) := ps_imp (ps_asg he (pg_sub ho hi set_list ha) hs hw h1) fun D σ H ⟨w, τ, s, rs, rw, h⟩ => by
  simp only [exec] at h
  refine ⟨w, τ, s, rs, rw, (PostS.flw (ρ := RD k) rs h).imp fun v H1 ⟨w1, d, s1, e1, rw1, r1, q1⟩ => ?_⟩
  refine ⟨w1, τ, s1, rs.mono e1, rw1, (PostS.flw (ρ := RD k) (rs.mono e1) q1).imp fun x H2 ⟨w2, dx, s2, e2, rw2, r2, q2⟩ => ?_⟩
  have rs2 := (rs.mono e1).mono e2
  refine ⟨w2, τ, s2, rs2, rw2, (PostS.flw (ρ := RD k) rs2 q2).imp fun y H3 ⟨w3, dy, s3, e3, rw3, r3, q3⟩ => ?_⟩
  obtain ⟨s4, es, q⟩ := q3.of
  unfold setI at es
  cases dy <;> first | (cases es; done) | skip
  rename_i z
  simp only at es
  cases el : s3.lst dx with
  | none => rw [el] at es; cases es
  | some ds =>
    rw [el] at es
    simp only at es
    by_cases c : 0 ≤ z ∧ z < ds.length
    · rw [if_pos c] at es
      obtain ⟨p, vs, ev, hp, t, st⟩ := setL_ok rw3 (r2.mono e3) el es
      have hv := t.len
      obtain ⟨ex, rw4⟩ := st _ (RDs.setI z.toNat t ((r1.mono e2).mono e3))
      refine ⟨p, vs, z, z.toNat, ev, r3, hp, ?_, q.mono ex |>.nx rw4 ((rs2.mono e3).mono ex)⟩
      unfold ixN
      rw [if_pos c.1, if_pos (by omega)]
    · rw [if_neg c] at es; cases es
theorem s_ret {e : Expr} {i : IE} {pos : Pos} (he : SE X k C W e i) : SS X k C W (.Return (some e) pos) (.ret i) := ps_imp (ps_ret he) fun D σ H ⟨w, τ, s, rs, rw, h⟩ => by
  simp only [exec] at h
  exact ⟨w, τ, s, rs, rw, (PostS.flw (ρ := RD k) rs h).imp fun v H1 ⟨w1, d, s1, e1, rw1, r1, q⟩ => q w1 v H1 (Ext.refl _ _) rw1 r1⟩
theorem s_retN {pos : Pos} : SS X k C W (.Return none pos) .retN := ps_imp ps_retN fun D σ H ⟨w, τ, s, rs, rw, h⟩ => by
  simp only [exec] at h
  exact h w .non H (Ext.refl _ _) rw rfl
theorem s_brk {pos : Pos} : SS X k C W (.Break pos) .brk := ps_imp ps_break fun D σ H ⟨w, τ, s, rs, rw, h⟩ => h w σ H (Ext.refl _ _) rw rs
theorem s_cont {pos : Pos} : SS X k C W (.Continue pos) .cont := ps_imp ps_continue fun D σ H ⟨w, τ, s, rs, rw, h⟩ => h w σ H (Ext.refl _ _) rw rs
theorem s_pass {pos : Pos} : SS X k C W (.Pass pos) .skip := ps_imp ps_pass fun D σ H ⟨w, τ, s, rs, rw, h⟩ => h w σ H (Ext.refl _ _) rw rs
theorem s_if {c : Expr} {a b : List Stmt} {ic : IE} {ia ib : IS} {pos : Pos} (hc : ST X k C W c ic) (ha : SSs X k C W a ia) (hb : SSs X k C W b ib) : SS X k C W (.If c a b pos) (.ife ic ia ib) := ps_imp (ps_if hc ha hb) fun D σ H ⟨w, τ, s, rs, rw, h⟩ => by
  simp only [exec] at h
  refine ⟨w, τ, s, rs, rw, (PostS.flw (ρ := fun _ _ a b => a = b) rs h).imp fun b H1 ⟨w1, t, s1, e1, rw1, r1, q⟩ => ?_⟩
  subst r1
  cases t with
  | true => exact ⟨w1, τ, s1, rs.mono e1, rw1, q⟩
  | false => exact ⟨w1, τ, s1, rs.mono e1, rw1, q⟩
/-- code that is never come to -/
theorem s_never {st : Stmt} : SS X k C W st (.expr (.blt .sum .nil)) := ps_imp ps_never fun D σ H ⟨w, τ, s, rs, rw, h⟩ => h
theorem s_while {c : Expr} {body : List Stmt} {ic : IE} {ib : IS} {pos : Pos} (hp : PassesOwn (model X.prog X.w) X.A X.env X.xe) (hc : ST X k C W c ic) (hb : SSs X k C W body ib) : SS X k C W (.While c body [] pos) (.wh ic ib) := ps_imp (ps_while hp hc hb) fun D σ H ⟨w, τ, s, rs, rw, h⟩ => by
  simp only [exec] at h
  refine ⟨fun n σ H => ∃ w τ s, RS k w H τ σ ∧ RW k w s H ∧ PostS k W w H (whL (evT C ic) (exec C ib) n τ s) D, ⟨wFuel, w, τ, s, rs, rw, h⟩, ?_⟩
  rintro n σ H ⟨w, τ, s, rs, rw, h⟩
  cases n with
  | zero => exact h.elim
  | succ n =>
    simp only [whL] at h
    refine ⟨w, τ, s, rs, rw, (PostS.flw (ρ := fun _ _ a b => a = b) rs h).imp fun b H1 ⟨w1, t, s1, e1, rw1, r1, q⟩ => ?_⟩
    subst r1
    cases t with
    | false => exact PostS.nx (τ := τ) q rw1 (rs.mono e1)
    | true =>
      refine ⟨fun σ' H' => ∃ w τ s, RS k w H' τ σ' ∧ RW k w s H' ∧ PostS k W w H' (whL (evT C ic) (exec C ib) n τ s) D, fun σ' H' N => ⟨n, Nat.lt_succ_self n, N⟩, w1, τ, s1, rs.mono e1, rw1, ?_⟩
      simp only [if_true] at q
      cases g : exec C ib τ s1 with
      | nx τ s => rw [g] at q; exact fun w' σ' H' e rw' rs' => ⟨w', τ, s, rs', rw', PostS.mono e q⟩
      | rt d s => rw [g] at q; exact q
      | bk τ s => rw [g] at q; exact q
      | ct τ s => rw [g] at q; exact fun w' σ' H' e rw' rs' => ⟨w', τ, s, rs', rw', PostS.mono e q⟩
      | ex y τ s => rw [g] at q; exact q
      | no => rw [g] at q; exact q
theorem s_for {tg iter : Expr} {body : List Stmt} {sk : SrcK} {ia ib : IE} {p : P} {ist : IS} {pos : Pos} (hp : PassesOwn (model X.prog X.w) X.A X.env X.xe) (hc : X.calm = true) (hi : SI X k C W tg iter sk ia ib) (hg : SG X k tg p) (hb : SSs X k C W body ist)
    (hs : ∀ x, foldedSetIterable iter X.env x = pure x := by intro _; rfl) : SS X k C W (.For tg iter body [] pos) (.for sk ia ib p ist) := ps_imp (ps_for hp hc hi hg hb hs) fun D σ H ⟨w, τ, s, rs, rw, h⟩ => by
  have h : PostS k W w H ((evS C sk ia ib τ s).fl τ fun c s => forL (fun d σ s => R.ofF (bindP p d σ s) fun σ => exec C ist σ s) c.2 c.1 τ s) D := by
    simp only [exec] at h
    unfold evS
    cases e1 : ev C ia τ s with
    | no => rw [e1] at h; exact h.elim
    | ex x s' => rw [e1] at h; exact h
    | ok x s1 =>
      rw [e1] at h
      simp only [R.fl, R.bind] at h ⊢
      cases e2 : ev C ib τ s1 with
      | no => rw [e2] at h; exact h.elim
      | ex x s' => rw [e2] at h; exact h
      | ok y s2 =>
        rw [e2] at h
        simp only [R.fl, R.bind] at h ⊢
        cases e3 : srcW sk x y s2 with
        | none => rw [e3] at h; exact h.elim
        | some c => rw [e3] at h; exact h
  refine ⟨w, τ, s, rs, rw, (PostS.flw (ρ := ItOk k) rs h).imp fun J H1 ⟨w1, c, s1, e1, rw1, it, q1⟩ => ?_⟩
  refine ⟨fun i m σ H2 => i ≤ c.1.length ∧ m = c.1.length - i ∧ ∃ w2 τ2 s2, Ext w1 H1 w2 H2 ∧ RS k w2 H2 τ2 σ ∧ RW k w2 s2 H2 ∧
    PostS k W w2 H2 (forL (fun d σ s => R.ofF (bindP p d σ s) fun σ => exec C ist σ s) c.2 (c.1.drop i) τ2 s2) D, ⟨c.1.length, Nat.zero_le _, rfl, w1, τ, s1, Ext.refl _ _, rs.mono e1, rw1, q1⟩, ?_⟩
  rintro i m σ H2 ⟨hi, hm, w2, τ2, s2, x2, rs2, rw2, q2⟩
  cases hd : c.1.drop i with
  | nil =>
    have hl : c.1.length ≤ i := List.drop_eq_nil_iff.mp hd
    have ei : i = c.1.length := Nat.le_antisymm hi hl
    rw [hd] at q2
    simp only [forL] at q2
    by_cases ok : okW s2 c.2 = true
    · rw [if_pos ok] at q2
      exact .inl ⟨by rw [ei]; exact it.stop w2 s2 H2 x2 rw2 ok, PostS.nx (τ := τ2) q2 rw2 rs2⟩
    · rw [if_neg ok] at q2; exact q2.elim
  | cons d rest =>
    have hlt : i < c.1.length := by
      by_cases z : i < c.1.length
      · exact z
      · rw [List.drop_eq_nil_of_le (Nat.le_of_not_lt z)] at hd; cases hd
    have hdd := List.drop_eq_getElem_cons hlt
    rw [hd] at hdd
    injection hdd with ha hrest
    have hget : c.1[i]? = some d := by rw [List.getElem?_eq_getElem hlt, ha]
    rw [hd] at q2
    simp only [forL] at q2
    by_cases ok : okW s2 c.2 = true
    · rw [if_pos ok] at q2
      refine .inr ⟨it.go w2 s2 H2 i d x2 rw2 ok hget, fun σ' H' => i + 1 ≤ c.1.length ∧ c.1.length - (i + 1) = c.1.length - (i + 1) ∧ ∃ w2 τ2 s2, Ext w1 H1 w2 H' ∧ RS k w2 H' τ2 σ' ∧ RW k w2 s2 H' ∧
        PostS k W w2 H' (forL (fun d σ s => R.ofF (bindP p d σ s) fun σ => exec C ist σ s) c.2 (c.1.drop (i + 1)) τ2 s2) D, fun σ' H' N => ⟨c.1.length - (i + 1), by omega, N⟩, fun x H3 hy => ?_⟩
      obtain ⟨x3, rw3, r3⟩ := it.yld w2 s2 H2 i d x H3 x2 rw2 ok hget hy
      cases gb : bindP p d τ2 s2 with
      | none => rw [gb] at q2; exact q2.elim
      | some τ' =>
        rw [gb] at q2
        simp only [R.ofF] at q2
        refine ⟨w2, τ2, s2, d, τ', rs2.mono x3, rw3, r3, gb, fun σ2 rs3 _ => ⟨w2, τ', s2, rs3, rw3, ?_⟩⟩
        have again : ∀ {τ4 : Sl} {s4 : S} {w4 : Wd} {σ4 : St} {H4 : Hp}, Ext w2 H3 w4 H4 → RW k w4 s4 H4 → RS k w4 H4 τ4 σ4 → PostS k W w2 H2 (forL (fun d σ s => R.ofF (bindP p d σ s) fun σ => exec C ist σ s) c.2 rest τ4 s4) D →
            i + 1 ≤ c.1.length ∧ c.1.length - (i + 1) = c.1.length - (i + 1) ∧ ∃ w2 τ2 s2, Ext w1 H1 w2 H4 ∧ RS k w2 H4 τ2 σ4 ∧ RW k w2 s2 H4 ∧ PostS k W w2 H4 (forL (fun d σ s => R.ofF (bindP p d σ s) fun σ => exec C ist σ s) c.2 (c.1.drop (i + 1)) τ2 s2) D :=
          fun {τ4 s4 w4 σ4 H4} e rw' rs' q => ⟨hlt, rfl, w4, τ4, s4, (x2.trans x3).trans e, rs', rw', by rw [← hrest]; exact PostS.mono (x3.trans e) q⟩
        cases g : exec C ist τ' s2 with
        | nx τ s => rw [g] at q2; exact fun w' σ' H' e rw' rs' => again e rw' rs' q2
        | ct τ s => rw [g] at q2; exact fun w' σ' H' e rw' rs' => again e rw' rs' q2
        | bk τ s => rw [g] at q2; exact PostS.mono x3 (r := .nx τ s) q2
        | rt d s => rw [g] at q2; exact PostS.mono x3 (r := .rt d s) q2
        | ex y τ s => rw [g] at q2; exact PostS.mono x3 (r := .ex y τ s) q2
        | no => rw [g] at q2; exact q2
    · rw [if_neg ok] at q2; exact q2.elim
end
end DI

/-! Calls; a def's promise. -/
namespace DI
open PySem L2

section
variable {k : Kx} {w w' : Wd} {H H' : Hp} {s : S}
/-- a world of shared cells alone; F: what is kept from those who stand there -/
theorem RW.drop {F : List Addr} (rw : RW k w s H) (hF : ∀ p ∈ F, p ∈ w.l ++ w.e) (nd : F.Nodup) : RW k ⟨w.g, [], F⟩ ⟨s.G, []⟩ H := by
  have hx : ∀ p, p ∈ (⟨w.g, [], F⟩ : Wd).all → p ∈ w.all := fun p hp => by
    rw [mem_all] at hp ⊢
    rcases hp with h | h | h
    · exact .inl h
    · exact absurd h (by simp)
    · have := hF p h
      rw [List.mem_append] at this
      exact .inr this
  refine ⟨rw.gl, rfl, fun a c p h1 h2 => ?_, fun a c p h1 h2 => by simp at h1, ?_, fun p hp => rw.there (hx p (mem_all.mpr (.inr (.inr hp))))⟩
  · obtain ⟨z, hc⟩ := rw.g a c p h1 h2
    refine ⟨?_, hc⟩
    cases c with
    | dead => exact z
    | lst ds =>
      obtain ⟨vs, hv, t⟩ := z
      exact ⟨vs, hv, RDs.out (w := w) (w' := ⟨w.g, [], F⟩) rfl hx ds vs hc t⟩
  · have n := rw.nod
    unfold Wd.all at n ⊢
    rw [List.append_assoc] at n
    simp only [List.append_nil]
    rw [List.nodup_append] at n ⊢
    exact ⟨n.1, nd, fun a ha b hb => n.2.2 a ha b (hF b hb)⟩
mutual
/-- data without lists go anywhere where lists alone are kept -/
theorem RD.flat (hg : ∀ (a : Nat) (p : Addr), w.g[a]? = some p → w'.g[a]? = some p) (hx : ∀ p, p ∈ w'.all → p ∈ w.all ∨ ∃ vs, H p = some (.lst vs)) : ∀ (d : D) (v : V), D.noL d = true → RD k w H d v → RD k w' H d v
  | .non, _, _, h => h
  | .bl _, _, _, h => h
  | .int _, _, _, h => h
  | .str _, _, _, h => h
  | .tup ds, _, c, ⟨p, vs, e, h, r⟩ => ⟨p, vs, e, h.imp (fun ⟨n, q⟩ => ⟨fun z => (hx _ z).elim n fun ⟨us, z⟩ => by rcases q with q | ⟨o, q⟩ <;> (rw [z] at q; cases q), q⟩) id, RDs.flat hg hx ds vs (by simpa [D.noL] using c) r⟩
  | .lst ds, _, c, _ => by simp [D.noL] at c
  | .ro ds, _, c, _ => by simp [D.noL] at c
  | .ref a, _, c, _ => by simp [D.noL] at c
  | .loc a, _, c, _ => by simp [D.noL] at c
  | .exc c f, _, q, ⟨a, d, vf, e, n1, n2, h1, h2, r⟩ => ⟨a, d, vf, e, fun z => (hx _ z).elim n1 fun ⟨us, z⟩ => by (rw [z] at h1; cases h1), fun z => (hx _ z).elim n2 fun ⟨us, z⟩ => by (rw [z] at h2; cases h2), h1, h2, RD.flat hg hx f vf (by simpa [D.noL] using q) r⟩
  | .fn _, _, _, h => h
  | .ins _ _, _, _, h => h
  | .st _, _, _, h => h
theorem RDs.flat (hg : ∀ (a : Nat) (p : Addr), w.g[a]? = some p → w'.g[a]? = some p) (hx : ∀ p, p ∈ w'.all → p ∈ w.all ∨ ∃ vs, H p = some (.lst vs)) : ∀ (ds : List D) (vs : List V), D.noLs ds = true → RDs k w H ds vs → RDs k w' H ds vs
  | [], _, _, h => h
  | d :: ds, _, c, ⟨v, r, e, h, t⟩ => by
    simp only [D.noLs, Bool.and_eq_true] at c
    exact ⟨v, r, e, RD.flat hg hx d v c.1 h, RDs.flat hg hx ds r c.2 t⟩
end
/-- what a callee hands back stands in the caller's world -/
theorem back {F : List Addr} {fl : Bool} {G : List Cell} (rw : RW k w s H) (hF : F = if fl = true then w.l ++ w.e else w.e) (x : Ext ⟨w.g, [], F⟩ H w' H') (rw' : RW k w' ⟨G, []⟩ H') (hq : fl = true ∨ G.all Cell.noL = true) :
    Ext w H ⟨w'.g, w.l, w.e⟩ H' ∧ RW k ⟨w'.g, w.l, w.e⟩ ⟨G, s.L⟩ H' ∧
      (∀ d v, D.noC d = true → (fl = true ∨ D.noL d = true) → RD k w' H' d v → RD k ⟨w'.g, w.l, w.e⟩ H' d v) ∧
      (∀ d, (∃ vf, H' d = some (.xd vf)) → d ∉ w'.all → d ∉ (⟨w'.g, w.l, w.e⟩ : Wd).all) := by
  have sub : ∀ p, p ∈ (⟨w.g, [], F⟩ : Wd).all → p ∈ w.all := fun p hp => by
    rw [mem_all] at hp ⊢
    rcases hp with h | h | h
    · exact .inl h
    · exact absurd h (by simp)
    · rw [hF] at h
      split at h
      · exact .inr (by simpa using h)
      · exact .inr (.inr h)
  have eF : ∀ p ∈ w.e, p ∈ F := fun p hp => by rw [hF]; split <;> simp [hp]
  have lk : ∀ p ∈ w.l, H' p = H p ∧ ∃ vs, H' p = some (.lst vs) := fun p hp => by
    obtain ⟨i, hi, e⟩ := List.getElem_of_mem hp
    have e1 : s.L[i]? = some (s.L[i]'(by rw [← rw.ll]; exact hi)) := List.getElem?_eq_getElem _
    have c := rw.l i _ p e1 (by rw [List.getElem?_eq_getElem hi, e])
    have hl : ∃ vs, H p = some (.lst vs) := by
      generalize s.L[i]'(by rw [← rw.ll]; exact hi) = cc at c
      cases cc with
      | lst ds => obtain ⟨vs, h, _⟩ := c; exact ⟨vs, h⟩
      | dead => exact c
    have same : H' p = H p := by
      cases fl with
      | true => exact x.efix p (by rw [hF]; simp [hp])
      | false =>
        obtain ⟨vs, h⟩ := hl
        rw [h]
        refine x.keep p _ (fun z => ?_) h
        rw [mem_all] at z
        have nd := rw.nod
        unfold Wd.all at nd
        rw [List.nodup_append] at nd
        have nd1 := nd.1
        rw [List.nodup_append] at nd1
        rcases z with z | z | z
        · exact nd1.2.2 p z p hp rfl
        · exact absurd z (by simp)
        · rw [hF] at z
          exact nd.2.2 p (List.mem_append_right _ hp) p (by simpa using z) rfl
    exact ⟨same, by rw [same]; exact hl⟩
  have up : ∀ p, p ∈ (⟨w'.g, w.l, w.e⟩ : Wd).all → p ∈ w'.all ∨ ∃ vs, H' p = some (.lst vs) := fun p hp => by
    rw [mem_all] at hp
    rcases hp with h | h | h
    · exact .inl (mem_all.mpr (.inl h))
    · exact .inr (lk p h).2
    · exact .inl (mem_all.mpr (.inr (.inr (x.e p (eF p h)))))
  have upT : fl = true → ∀ p, p ∈ (⟨w'.g, w.l, w.e⟩ : Wd).all → p ∈ w'.all := fun ht p hp => by
    rw [mem_all] at hp
    rcases hp with h | h | h
    · exact mem_all.mpr (.inl h)
    · exact mem_all.mpr (.inr (.inr (x.e p (by rw [hF, if_pos ht]; simp [h]))))
    · exact mem_all.mpr (.inr (.inr (x.e p (eF p h))))
  have ex : Ext w H ⟨w'.g, w.l, w.e⟩ H' := by
    refine ⟨x.g, fun _ _ h => h, fun _ h => h, fun p hp => ?_, fun p o n e => x.keep p o (fun z => n (sub p z)) e, fun p hp => x.efix p (eF p hp)⟩
    rw [mem_all] at hp
    rcases hp with h | h | h
    · exact (x.ex p (mem_all.mpr (.inl h))).imp (sub p) id
    · exact .inl (mem_all.mpr (.inr (.inl h)))
    · exact .inl (mem_all.mpr (.inr (.inr h)))
  have rd : ∀ d v, D.noC d = true → (fl = true ∨ D.noL d = true) → RD k w' H' d v → RD k ⟨w'.g, w.l, w.e⟩ H' d v := fun d v c h r => by
    rcases h with h | h
    · exact RD.out (w := w') (w' := ⟨w'.g, w.l, w.e⟩) rfl (upT h) d v c r
    · exact RD.flat (w := w') (w' := ⟨w'.g, w.l, w.e⟩) (fun _ _ h => h) up d v h r
  refine ⟨ex, ⟨rw'.gl, rw.ll, fun a c p h1 h2 => ?_, fun a c p h1 h2 => ?_, ?_, fun p hp => ?_⟩, rd, fun d hd n z => (up d z).elim n fun ⟨vs, z⟩ => by obtain ⟨vf, hd⟩ := hd; rw [hd] at z; cases z⟩
  · obtain ⟨z, hc⟩ := rw'.g a c p h1 h2
    refine ⟨?_, hc⟩
    cases c with
    | dead => exact z
    | lst ds =>
      obtain ⟨vs, hv, t⟩ := z
      refine ⟨vs, hv, ?_⟩
      rcases hq with h | h
      · exact RDs.out (w := w') (w' := ⟨w'.g, w.l, w.e⟩) rfl (upT h) ds vs hc t
      · have hn : D.noLs ds = true := by
          rw [List.all_eq_true] at h
          exact h _ (List.mem_of_getElem? h1)
        exact RDs.flat (w := w') (w' := ⟨w'.g, w.l, w.e⟩) (fun _ _ h => h) up ds vs hn t
  · exact (rw.l a c p h1 h2).mono' ex (lk p (List.mem_of_getElem? h2)).1
  · have nd := rw.nod
    have nd' := rw'.nod
    unfold Wd.all at nd nd' ⊢
    rw [List.append_assoc] at nd nd' ⊢
    rw [List.nodup_append] at nd nd' ⊢
    refine ⟨nd'.1, nd.2.1, fun a ha b hb e => ?_⟩
    subst e
    rcases List.mem_append.mp hb with h | h
    · cases fl with
      | true => exact nd'.2.2 a ha a (List.mem_append_right _ (x.e a (by rw [hF]; simp [h]))) rfl
      | false =>
        obtain ⟨e1, vs, e2⟩ := lk a h
        rcases x.ex a (mem_all.mpr (.inl ha)) with z | z
        · rw [mem_all] at z
          rcases z with z | z | z
          · exact nd.2.2 a z a (List.mem_append_left _ h) rfl
          · exact absurd z (by simp)
          · rw [hF] at z
            have := nd.2.1
            rw [List.nodup_append] at this
            exact this.2.2 a h a (by simpa using z) rfl
        · rw [← e1, e2] at z; cases z
    · exact nd'.2.2 a ha a (List.mem_append_right _ (x.e a (eF a h))) rfl
  · obtain ⟨o, e⟩ := rw.e p hp
    exact ⟨o, by rw [ex.efix p hp]; exact e⟩
end

/-! ### promises -/
def PostC (k : Kx) (w : Wd) (H : Hp) (r : RC) (Q : VK) (E : XK) : Prop := match r with
  | .ok d G => ∀ w' v H', Ext w H w' H' → RW k w' ⟨G, []⟩ H' → RD k w' H' d v → D.noC d = true → Q v H'
  | .ex x G => ∀ w' cls dd H', Ext w H w' H' → RW k w' ⟨G, []⟩ H' → RX k w' H' x cls dd → D.noC x = true → E cls dd H'
  | .no => False
def spI (k : Kx) (C : CallH) (np j : Nat) : Sp := fun vs H Q E => vs.length = np ∧ ∃ g e ds G, RW k ⟨g, [], e⟩ ⟨G, []⟩ H ∧ RDs k ⟨g, [], e⟩ H ds vs ∧ PostC k ⟨g, [], e⟩ H (C j ds G) Q E

section
variable {k : Kx} {w : Wd} {H : Hp} {s : S} {C : CallH} {W : WX} {σ : St} {Q : VK}
theorem mapM_frz {n : Nat} : ∀ {ds es : List D}, ds.mapM (D.frz s.L n) = some es → D.noCs ds = true → es = ds
  | [], es, h, _ => by simp at h; exact h.symm ▸ rfl
  | d :: ds, es, h, c => by
    simp only [D.noCs, Bool.and_eq_true] at c
    rw [List.mapM_cons] at h
    have e1 : D.frz s.L n d = some d := by cases n <;> simp [D.frz, c.1]
    rw [e1] at h
    cases q : ds.mapM (D.frz s.L n) with
    | none => rw [q] at h; simp at h
    | some es' =>
      rw [q] at h
      simp at h
      rw [← h, mapM_frz q c.2]
theorem frzs_rd (rw : RW k w s H) {n : Nat} : ∀ {ds es : List D} {vs : List V}, ds.mapM (D.frz s.L n) = some es → RDs k w H ds vs → RDs k ⟨w.g, [], w.e⟩ H es vs ∧ D.noCs es = true
  | [], es, vs, h, t => by simp at h; subst h; rw [show vs = [] from t]; exact ⟨rfl, rfl⟩
  | d :: ds, es, vs, h, ⟨u, us, e1, r1, t⟩ => by
    rw [List.mapM_cons] at h
    cases q1 : D.frz s.L n d with
    | none => rw [q1] at h; simp at h
    | some d' =>
      cases q2 : ds.mapM (D.frz s.L n) with
      | none => rw [q1, q2] at h; simp at h
      | some ds' =>
        rw [q1, q2] at h
        simp at h
        subst h
        obtain ⟨a, b⟩ := frz_ok rw (F := w.e) (fun _ h => h) n d d' u q1 r1
        obtain ⟨a', b'⟩ := frzs_rd rw q2 t
        exact ⟨⟨u, us, e1, a, a'⟩, by simp [D.noCs, b, b']⟩
theorem callD_ok {j np : Nat} {ds : List D} {vs : List V} (hl : vs.length = np) (rw : RW k w s H) (r : RDs k w H ds vs) (h : Post k (Wσ W σ) w H (RD k) (callD C j ds s) Q) : spI k C np j vs H Q (WE W σ) := by
  refine ⟨hl, ?_⟩
  unfold callD at h
  cases q : ds.mapM (D.frz s.L depthC) with
  | none => rw [q] at h; exact h.elim
  | some es =>
    rw [q] at h
    simp only at h
    have key : ∀ fl : Bool, (fl = true → D.noCs ds = true) → RDs k ⟨w.g, [], if fl = true then w.l ++ w.e else w.e⟩ H es vs → (∀ d G, (C j es s.G = .ok d G ∨ C j es s.G = .ex d G) → fl = true ∨ (D.noL d = true ∧ G.all Cell.noL = true)) →
        PostC k ⟨w.g, [], if fl = true then w.l ++ w.e else w.e⟩ H (C j es s.G) Q (WE W σ) := fun fl h1 h2 h3 => by
      cases c : C j es s.G with
      | no => rw [c] at h; exact h.elim
      | ok d G =>
        rw [c] at h
        simp only at h
        split at h
        · intro w' v H' x rw' rd nc
          obtain ⟨e1, e2, e3, e4⟩ := back rw rfl x rw' ((h3 d G (.inl c)).imp id (·.2))
          exact h _ v H' e1 e2 (e3 d v nc ((h3 d G (.inl c)).imp id (·.1)) rd)
        · exact h.elim
      | ex y G =>
        rw [c] at h
        simp only at h
        split at h
        · rintro w' cls dd H' x rw' ⟨cc, f, d, vf, rfl, rfl, rfl, n1, n2, rf⟩ nc
          obtain ⟨e1, e2, e3, e4⟩ := back rw rfl x rw' ((h3 _ G (.inr c)).imp id (·.2))
          refine h _ _ _ H' e1 e2 ⟨cc, f, d, vf, rfl, rfl, rfl, e4 d ⟨_, n2⟩ n1, n2, e3 f vf (by simpa [D.noC] using nc) ((h3 _ G (.inr c)).imp id fun z => by simpa [D.noL] using z.1) rf⟩
        · exact h.elim
    by_cases hn : D.noCs ds = true
    · have ee := mapM_frz q hn
      subst ee
      refine ⟨w.g, w.l ++ w.e, es, s.G, rw.drop (fun _ h => h) ?_, ?_, ?_⟩
      · have := rw.nod
        unfold Wd.all at this
        rw [List.append_assoc, List.nodup_append] at this
        exact this.2.1
      · refine RDs.out (w := w) (w' := ⟨w.g, [], w.l ++ w.e⟩) rfl (fun p hp => ?_) es vs hn r
        rw [mem_all] at hp ⊢
        simpa using hp
      · exact key true (fun _ => hn) (by
          refine RDs.out (w := w) (w' := ⟨w.g, [], w.l ++ w.e⟩) rfl (fun p hp => ?_) es vs hn r
          rw [mem_all] at hp ⊢
          simpa using hp) fun _ _ _ => .inl rfl
    · obtain ⟨a, b⟩ := frzs_rd rw q r
      refine ⟨w.g, w.e, es, s.G, rw.drop (fun _ h => List.mem_append_right _ h) rw.nodE, a, ?_⟩
      have z := key false (fun z => by cases z) a fun d G c => by
        rcases c with c | c
        · rw [c] at h
          simp only at h
          split at h
          · rename_i z
            simp only [Bool.or_eq_true, Bool.and_eq_true] at z
            exact .inr (z.resolve_left hn)
          · exact h.elim
        · rw [c] at h
          simp only at h
          split at h
          · rename_i z
            simp only [Bool.or_eq_true, Bool.and_eq_true] at z
            exact .inr (z.resolve_left hn)
          · exact h.elim
      exact z
end

section
variable {X : Cx} {k : Kx} {C : CallH} {W : WX}
/-- the number of arguments -/
def IE.argc : IE → Nat
  | .cons _ r => r.argc + 1
  | _ => 0
def IE.isArgs : IE → Bool
  | .nil => true
  | .cons _ r => r.isArgs
  | _ => false
theorem argc_ok : ∀ {i : IE} {τ : Sl} {s s' : S} {d : D}, i.isArgs = true → ev C i τ s = .ok d s' → ∃ ds, d = .tup ds ∧ ds.length = i.argc
  | .nil, τ, s, s', d, _, h => by cases h; exact ⟨[], rfl, rfl⟩
  | .cons a r, τ, s, s', d, hi, h => by
    simp only [ev] at h
    obtain ⟨x, s1, _, h⟩ := bind_ok h
    obtain ⟨y, s2, h2, h⟩ := bind_ok h
    obtain ⟨ds, rfl, hl⟩ := argc_ok (i := r) hi h2
    simp only at h
    cases h
    exact ⟨_, rfl, by simp [IE.argc, hl]⟩
  | .lit _, _, _, _, _, hi, _ => by cases hi
  | .var _, _, _, _, _, hi, _ => by cases hi
  | .bin _ _ _, _, _, _, _, hi, _ => by cases hi
  | .cmp _ _ _, _, _, _, _, hi, _ => by cases hi
  | .chain _ _ _ _ _, _, _, _, _, hi, _ => by cases hi
  | .and _ _, _, _, _, _, hi, _ => by cases hi
  | .or _ _, _, _, _, _, hi, _ => by cases hi
  | .not _, _, _, _, _, hi, _ => by cases hi
  | .neg _, _, _, _, _, hi, _ => by cases hi
  | .ife _ _ _, _, _, _, _, hi, _ => by cases hi
  | .tup _, _, _, _, _, hi, _ => by cases hi
  | .lst _ _, _, _, _, _, hi, _ => by cases hi
  | .call _ _, _, _, _, _, hi, _ => by cases hi
  | .callk _ _ _, _, _, _, _, hi, _ => by cases hi
  | .callv _ _ _, _, _, _, _, hi, _ => by cases hi
  | .blt _ _, _, _, _, _, hi, _ => by cases hi
  | .meth _ _ _, _, _, _, _, hi, _ => by cases hi
  | .idx _ _, _, _, _, _, hi, _ => by cases hi
  | .sl _ _ _ _ _, _, _, _, _, hi, _ => by cases hi
  | .rev _, _, _, _, _, hi, _ => by cases hi
  | .lc _ _ _ _ _ _ _ _, _, _, _, _, hi, _ => by cases hi
  | .fld _ _, _, _, _, _, hi, _ => by cases hi
  | .mk _ _, _, _, _, _, hi, _ => by cases hi
theorem post_argc {w : Wd} {H : Hp} {τ : Sl} {σ : St} {s : S} {i : IE} {f : D → S → R D} {Q : VK} (hi : i.isArgs = true) (h : Post k (Wσ W σ) w H (RD k) ((ev C i τ s).bind f) Q) :
    Post k (Wσ W σ) w H (fun w H d vs => RA k w H d vs ∧ vs.length = i.argc) (ev C i τ s) (fun vs H1 => ∃ w1 ds s1, Ext w H w1 H1 ∧ RW k w1 s1 H1 ∧ RDs k w1 H1 ds vs ∧ vs.length = i.argc ∧ Post k (Wσ W σ) w1 H1 (RD k) (f (.tup ds) s1) Q) := by
  cases e : ev C i τ s with
  | no => rw [e] at h; exact h.elim
  | ex x s' => rw [e] at h; exact h
  | ok d s' =>
    rw [e] at h
    rintro w' vs H' x rw' ⟨⟨ds, rfl, r⟩, hl⟩
    exact ⟨w', ds, s', x, rw', r, hl, Post.mono x h⟩
theorem RA.argc {w : Wd} {H : Hp} {τ : Sl} {s : S} {i : IE} {Q : List V → Hp → Prop} {W : Value → Option Addr → Hp → Prop} (hi : i.isArgs = true) (h : Post k W w H (fun w H d vs => RA k w H d vs ∧ vs.length = i.argc) (ev C i τ s) Q) : Post k W w H (RA k) (ev C i τ s) Q := by
  cases e : ev C i τ s with
  | no => rw [e] at h; exact h
  | ex x s' => rw [e] at h; exact h
  | ok d s' =>
    rw [e] at h
    rintro w' vs H' x rw' ⟨ds, rfl, r⟩
    obtain ⟨ds', e', hl⟩ := argc_ok hi e
    cases e'
    exact h w' vs H' x rw' ⟨⟨ds, rfl, r⟩, by rw [← r.len, hl]⟩
theorem se_call {n np j : Nat} {f : Addr} {fd : FuncData} {ps : List Str} {x : Str} {e : Expr} {es : List Expr} {i : IE} {p pos : Pos} (F : FnOk X.prog X.w X.K X.mg X.base (L2.CX X.prog X.w) n f fd ps (spI k C np j)) (hr : Room n X.A) (hm : X.mg x = some (.ref f)) (hk : PySem.W.keepIn X.K (.ref f) = true) (hb : Binds X.K fd ps [])
    (tk : Takes X W) (ha : SA X k C W (e :: es) i) (hc : i.argc = np := by rfl) (hi : i.isArgs = true := by rfl) (hg : Gl X x := by rfl) (hdb : (x == ("__debug__" : Str)) = false := by decide) (he : starEach (e :: es) X.env = (false, eval e X.env) :: starEach es X.env := by rfl) (hpl : (backTo pos (starEach es X.env)).any (·.1) = false := by rfl) :
    SE X k C W (.Call (.Name x p) (e :: es) [] pos) (.call j i) := pe_imp (pe_callSD (dvs := []) F hr hg hm hk hb .nil (passAt tk) ha hdb he hpl) fun σ H Q ⟨w, τ, s, rs, rw, h⟩ => by
  simp only [ev] at h
  refine ⟨w, τ, s, rs, rw, RA.argc hi ((post_argc hi h).imp fun vs H1 ⟨w1, ds, s1, e1, rw1, r1, hl, h1⟩ => ?_)⟩
  rw [List.append_nil]
  exact callD_ok (hl.trans hc) rw1 r1 h1
/-- keywords, in the parameters' order -/
theorem run_kw {n : Nat} {f : Addr} {fd : FuncData} {ps ks : List Str} {sp : Sp} {pins : List (Addr × Obj)} {σ : St} {H : Hp} {s : Shared} {Q : VK} {us ws : List Value} {vs zs : List V} (F : FnOk X.prog X.w X.K X.mg X.base (L2.CX X.prog X.w) n f fd ps sp) (hr : Room n X.A)
    (hb : BindsTo s fd ⟨us, ks.zip ws⟩ (ps.zip (us ++ ws))) (tk : Takes X W)
    (I : Inv X pins σ H s) (r : Vals vs us) (rz : Vals zs ws) (h : sp (vs ++ zs) H Q (WE W σ)) : wpAny (model X.prog X.w) X.A (call (.ref f) us (ks.zip ws)) (EP X pins σ Q) X.xe s := by
  refine wpAny_call (codeAny_mono (F.run X.A X.stack s H ⟨us, ks.zip ws⟩ (us ++ ws) (vs ++ zs) Q (WE W σ) hr I.env0 hb (r.append rz) h) fun r s' hq => ?_)
  cases r with
  | error e => exact passAt tk σ pins H s e s' I hq
  | ok fl =>
    cases fl with
    | ret u => exact I.after hq
    | next => exact False.elim hq
    | brk => exact False.elim hq
    | cont => exact False.elim hq
def SK (X : Cx) (k : Kx) (C : CallH) (W : WX) (kws : List Keyword) (i : IE) : Prop := PK X kws (tA k C W i)
theorem pk_imp {e : List Keyword} {t t' : TA} (h : PK X e t) (i : ∀ σ H Q, t' σ H Q → t σ H Q) : PK X e t' := ⟨fun pos pins s σ H Q I q => h.run pos pins s σ H Q I (i _ _ _ q)⟩
theorem sk_nil : SK X k C W [] .nil := pk_imp pk_nil fun σ H Q ⟨w, τ, s, rs, rw, q⟩ => q.here rw ⟨[], rfl, rfl⟩
theorem sk_cons {a : Expr} {nm : Option Str} {kpos : Pos} {kws : List Keyword} {i j : IE} (ha : SE X k C W a i) (hb : SK X k C W kws j) : SK X k C W (⟨nm, a, kpos⟩ :: kws) (.cons i j) := pk_imp (pk_cons ha hb) fun σ H Q ⟨w, τ, s, rs, rw, q⟩ => by
  simp only [ev] at q
  refine ⟨w, τ, s, rs, rw, (q.bind (ρ := RD k)).imp fun v H1 ⟨w1, d1, s1, e1, rw1, r1, q1⟩ => ?_⟩
  refine ⟨w1, τ, s1, rs.mono e1, rw1, (q1.bind (ρ := RA k)).imp fun vs H2 ⟨w2, d2, s2, e2, rw2, r2, q2⟩ => ?_⟩
  obtain ⟨ds, rfl, rds⟩ := r2
  exact q2.here rw2 ⟨_, rfl, _, _, rfl, r1.mono e2, rds⟩
theorem se_callk0 {n np j : Nat} {f : Addr} {fd : FuncData} {ps ks : List Str} {x : Str} {kws : List Keyword} {i : IE} {p pos : Pos} (F : FnOk X.prog X.w X.K X.mg X.base (L2.CX X.prog X.w) n f fd ps (spI k C np j)) (hr : Room n X.A) (hm : X.mg x = some (.ref f)) (hk : PySem.W.keepIn X.K (.ref f) = true)
    (hb : ∀ (s : Shared) (ws : List Value), ws.length = np → BindsTo s fd ⟨[], ks.zip ws⟩ (ps.zip ws))
    (tk : Takes X W) (ha : SK X k C W kws i) (hc : i.argc = np := by rfl) (hi : i.isArgs = true := by rfl) (hg : Gl X x := by rfl) (hdb : (x == ("__debug__" : Str)) = false := by decide)
    (hall : (backToKw pos (keywordEach kws X.env)).all (·.1.isSome) = true := by rfl) (hks : (backToKw pos (keywordEach kws X.env)).filterMap (·.1) = ks := by rfl)
    (hpl : ((backTo pos (starEach [] X.env)).any (·.1) || (backToKw pos (keywordEach kws X.env)).any (·.1.isNone)) = false := by rfl) :
    SE X k C W (.Call (.Name x p) [] kws pos) (.callk j .nil i) := ⟨fun pins s σ H Q I ⟨w, τ, s', rs, rw, h⟩ => by
  simp only [ev, R.bind] at h
  refine wpAny_Call_Name_kw (ld_glob I hg hm ?_ hdb)
  refine PySem.W.callWith_KW0 (h₀ := X.base) I.ok.mod.kin hk hall ?_ hpl
  have h1 : Post k (Wσ W σ) w H (RA k) (ev C i τ s') (fun vs H1 => vs.length = np ∧ spI k C np j vs H1 Q (WE W σ)) :=
    RA.argc hi ((post_argc hi h).imp fun vs H1 ⟨w1, ds, s1, e1, rw1, r1, hl, h1⟩ => ⟨hl.trans hc, callD_ok (hl.trans hc) rw1 r1 h1⟩)
  refine thn (ha.run pos pins s σ H _ I ⟨w, τ, s', rs, rw, h1⟩) fun ws s2 ⟨zs, H2, I2, rz, hl, q2⟩ => ⟨I2.kIn, ?_⟩
  rw [hks]
  have z := run_kw (us := []) (vs := []) (ws := ws) (zs := zs) F hr (by simpa using hb s2 ws (by rw [← rz.length]; exact hl)) tk I2 .nil rz (by simpa using q2)
  exact z⟩
theorem se_callk {n np a j : Nat} {f : Addr} {fd : FuncData} {ps ks : List Str} {x : Str} {e : Expr} {es : List Expr} {kws : List Keyword} {i i' : IE} {p pos : Pos} (F : FnOk X.prog X.w X.K X.mg X.base (L2.CX X.prog X.w) n f fd ps (spI k C np j)) (hr : Room n X.A) (hm : X.mg x = some (.ref f)) (hk : PySem.W.keepIn X.K (.ref f) = true)
    (hb : ∀ (s : Shared) (us ws : List Value), us.length = i.argc → ws.length = i'.argc → BindsTo s fd ⟨us, ks.zip ws⟩ (ps.zip (us ++ ws)))
    (tk : Takes X W) (ha : SA X k C W (e :: es) i) (ha' : SK X k C W kws i') (hc : i.argc + i'.argc = np := by rfl) (hi : i.isArgs = true := by rfl) (hi' : i'.isArgs = true := by rfl) (hg : Gl X x := by rfl) (hdb : (x == ("__debug__" : Str)) = false := by decide)
    (hall : (backToKw pos (keywordEach kws X.env)).all (·.1.isSome) = true := by rfl) (hks : (backToKw pos (keywordEach kws X.env)).filterMap (·.1) = ks := by rfl) (he : starEach (e :: es) X.env = (false, eval e X.env) :: starEach es X.env := by rfl)
    (hpl : ((backTo pos (starEach (e :: es) X.env)).any (·.1) || (backToKw pos (keywordEach kws X.env)).any (·.1.isNone)) = false := by rfl) :
    SE X k C W (.Call (.Name x p) (e :: es) kws pos) (.callk j i i') := ⟨fun pins s σ H Q I ⟨w, τ, s', rs, rw, h⟩ => by
  simp only [ev] at h
  refine wpAny_Call_Name_kw (ld_glob I hg hm ?_ hdb)
  refine PySem.W.callWith_KW (h₀ := X.base) I.ok.mod.kin hk hall ?_ hpl he
  have h1 : Post k (Wσ W σ) w H (RA k) (ev C i τ s') (fun vs H1 => vs.length = i.argc ∧ tA k C W i' σ H1 fun zs H2 => zs.length = i'.argc ∧ spI k C np j (vs ++ zs) H2 Q (WE W σ)) :=
    RA.argc hi ((post_argc hi h).imp fun vs H1 ⟨w1, ds, s1, e1, rw1, r1, hl, h1⟩ => by
      refine ⟨hl, w1, τ, s1, rs.mono e1, rw1, RA.argc hi' ((post_argc hi' h1).imp fun zs H2 ⟨w2, ds2, s2, e2, rw2, r2, hl2, h2⟩ => ⟨hl2, ?_⟩)⟩
      exact callD_ok (by rw [List.length_append, hl, hl2, hc]) rw2 ((r1.mono e2).app r2) h2)
  refine thn (ha.run pos pins s σ H _ I ⟨w, τ, s', rs, rw, h1⟩) fun us s1 ⟨vs, H1, I1, r1, hl, q1⟩ => ?_
  refine thn (ha'.run pos pins s1 σ H1 _ I1 q1) fun ws s2 ⟨zs, H2, I2, rz, hl2, q2⟩ => ⟨I2.kIn, ?_⟩
  rw [hks]
  exact run_kw F hr (hb s2 us ws (by rw [← r1.length]; exact hl) (by rw [← rz.length]; exact hl2)) tk I2 r1 rz q2⟩
end

/-! ### a def's body keeps its promise -/
section
variable {P : Program} {w : World} {K : PySem.W.Frag} {mg : Str → Option Value} {base : Heap}
theorem rs_start {k : Kx} {w : Wd} {H : Hp} {N : List Str} {ds : List D} {vs : List V} (r : RDs k w H ds vs) : RS k w H (ds.map some ++ List.replicate (N.length - vs.length) none) (L2.start N vs) := by
  have hl := r.len
  refine ⟨by unfold L2.start; simp [hl], fun i d e => ?_⟩
  by_cases hi : i < ds.length
  · rw [List.getElem?_append_left (by simpa using hi), List.getElem?_map] at e
    cases q : ds[i]? with
    | none => rw [q] at e; cases e
    | some d' =>
      rw [q] at e
      cases e
      obtain ⟨v, hv, rv⟩ := r.get q
      refine ⟨v, ?_, rv⟩
      unfold L2.start
      rw [List.getElem?_append_left (by simp; omega), List.getElem?_map, hv]
      rfl
  · rw [List.getElem?_append_right (by simp; omega), List.getElem?_replicate] at e
    split at e <;> cases e
theorem fn_ok {k : Kx} {x qual : Str} {st : Stmt} {f : Addr} {fd : FuncData} {N ps : List Str} {n j : Nat} {T : Nat → Option FD} {b : FD} (F : Fun K x qual st f fd) (Sc : FnScope N ps (defScope st)) (ht : T j = some b) (hp : b.params = ps.length) (hs : b.slots = N.length) (hkd : b.kind = .fn)
    (hb : ∀ (cdv : Value) (A : Around) (outer : List Env) (s : Shared) (H : Hp) (E : XK), Room n (A.deeper (PyProof.Rows.envOfC qual (defScope st) s.heap.objs.size f cdv)) →
      SSs (cxOf (L2.CX P w) P w K mg base N qual (defScope st) f cdv A outer s H E) k (run T n) (fun cls d _ H => E cls d H) (defBody st) b.body) :
    FnOk P w K mg base (L2.CX P w) (n + 1) f fd ps (spI k (run T (n + 1)) ps.length j) := by
  refine F.okX Sc (fun vs H Q E h => h.1) (fun cdv A outer s H vs Q E hr h => ⟨_, hb cdv A outer s H E hr, ?_⟩)
  obtain ⟨hl, g, e, ds, G, rw, r, q⟩ := h
  simp only [run, ht, hkd] at q
  split at q
  · rename_i c
    rw [hp] at q
    refine ⟨⟨g, [], e⟩, _, ⟨G, []⟩, rs_start (N := N) r, rw, ?_⟩
    rw [hs, ← hl] at q
    have fin : ∀ {w1 : Wd} {s1 : S} {H1 : Hp}, Ext ⟨g, [], e⟩ H w1 H1 → RW k w1 s1 H1 → Ext ⟨g, [], e⟩ H ⟨w1.g, [], w1.e⟩ H1 ∧ RW k ⟨w1.g, [], w1.e⟩ ⟨s1.G, []⟩ H1 := fun {w1 s1 H1} x rw1 =>
      ⟨⟨x.g, fun a p h => by simp at h, x.e, fun p hp => x.ex p (by
        rw [mem_all] at hp ⊢
        rcases hp with h | h | h
        · exact .inl h
        · exact absurd h (by simp)
        · exact .inr (.inr h)), x.keep, x.efix⟩, rw1.drop (fun _ h => List.mem_append_right _ h) rw1.nodE⟩
    cases g1 : exec (run T n) b.body (ds.map some ++ List.replicate (N.length - vs.length) none) ⟨G, []⟩ with
    | nx τ s1 =>
      rw [g1] at q
      intro w1 σ1 H1 x rw1 _
      obtain ⟨a, b⟩ := fin x rw1
      exact q _ .non H1 a b rfl rfl
    | rt d s1 =>
      rw [g1] at q
      intro w1 v H1 x rw1 rd
      simp only [Flow.out] at q
      cases z : D.frz s1.L depthC d with
      | none => rw [z] at q; exact q.elim
      | some d' =>
        rw [z] at q
        obtain ⟨a, b⟩ := fin x rw1
        obtain ⟨r1, r2⟩ := frz_ok rw1 (F := w1.e) (fun _ h => h) _ d d' v z rd
        exact q _ v H1 a b r1 r2
    | bk τ s1 => rw [g1] at q; exact q.elim
    | ct τ s1 => rw [g1] at q; exact q.elim
    | no => rw [g1] at q; exact q.elim
    | ex y τ s1 =>
      rw [g1] at q
      rintro w1 σ1 cls dd H1 x rw1 _ ⟨cc, ff, d, vf, rfl, rfl, rfl, n1, n2, rf⟩
      simp only [Flow.out] at q
      cases z : D.frz s1.L depthC (.exc cc ff) with
      | none => rw [z] at q; exact q.elim
      | some x' =>
        rw [z] at q
        obtain ⟨a, b⟩ := fin x rw1
        have nc : D.noC (.exc cc ff) = true ∧ x' = .exc cc ff := by
          rw [show depthC = 7 + 1 from rfl] at z
          simp only [D.frz] at z
          by_cases c : D.noC (.exc cc ff) = true
          · rw [if_pos c] at z
            cases z
            exact ⟨c, rfl⟩
          · rw [if_neg c] at z
            simp [frzC] at z
        obtain ⟨nc, rfl⟩ := nc
        have sub : ∀ p, p ∈ (⟨w1.g, [], w1.e⟩ : Wd).all → p ∈ w1.all := fun p hp => by
          rw [mem_all] at hp ⊢
          rcases hp with h | h | h
          · exact .inl h
          · exact absurd h (by simp)
          · exact .inr (.inr h)
        exact q _ _ _ H1 a b ⟨cc, ff, d, vf, rfl, rfl, rfl, fun h => n1 (sub d h), n2, RD.out (w := w1) (w' := ⟨w1.g, [], w1.e⟩) rfl sub ff vf (by simpa [D.noC] using nc) rf⟩ nc
  · exact q.elim
/-- with no calls allowed nothing is asked -/
theorem fn_none {k : Kx} {f : Addr} {fd : FuncData} {ps : List Str} {np j : Nat} {T : Nat → Option FD} : FnOk P w K mg base (L2.CX P w) 0 f fd ps (spI k (run T 0) np j) := by
  have no : ∀ vs H Q E, ¬ spI k (run T 0) np j vs H Q E := fun vs H Q E ⟨_, _, _, _, _, _, _, q⟩ => q.elim
  exact ⟨fun vs H Q E h => absurd h (no vs H Q E), fun A outer s H args us vs Q E _ _ _ _ h => absurd h (no vs H Q E)⟩
end
end DI

/-! isinstance of built-in types; words of the text. -/
namespace DI
open PySem L2

def D.tyN : D → String
  | .non => "NoneType" | .bl _ => "bool" | .int _ => "int" | .str _ => "str" | .tup _ => "tuple" | _ => "list"
def Tag.nm : Tag → String
  | .int => "int" | .bool => "bool" | .str => "str" | .list => "list" | .tuple => "tuple" | .cls _ => "object"
def Tag.typ : Tag → Bool
  | .cls _ => false | _ => true
theorem ty_ok {k : Kx} {w : Wd} {H : Hp} {s : S} {d : D} {v : V} (rw : RW k w s H) (r : RD k w H d v) (h : d.tyd = true) : TyX k.K H v (.type d.tyN) := by
  have cell : ∀ {p : Addr} {o : HO} {vs : List V}, v = .ref p → H p = some (.lst vs) → TyX k.K H v (.type "list") := fun {p o vs} e h => by rw [e]; exact .base (.lst h)
  cases d with
  | non => cases r; exact .base .non
  | bl b => cases r; exact .base (.bl b)
  | int i => cases r; exact .base (.int i)
  | str z => cases r; exact .base (.str _)
  | tup ds =>
    obtain ⟨p, vs, rfl, hh, _⟩ := r
    rcases hh with ⟨_, hh | ⟨o, hh⟩⟩ | ⟨o, its, n, e, c, _⟩
    · exact .base (.tup hh)
    · exact .fTuple hh
    · exact .kTuple e c
  | lst ds =>
    obtain ⟨p, vs, rfl, n, hh, _⟩ := r
    exact .base (.lst hh)
  | ro ds =>
    obtain ⟨p, vs, rfl, hh, _⟩ := r
    rcases hh with ⟨_, hh | ⟨o, hh⟩⟩ | ⟨o, its, n, e, c, _⟩
    · exact .base (.lst hh)
    · exact .base (.frz hh)
    · exact .kList e c
  | ref a =>
    obtain ⟨p, hp, rfl⟩ := r
    have hl : a < s.G.length := by rw [← rw.gl]; exact (List.getElem?_eq_some_iff.mp hp).1
    obtain ⟨c, _⟩ := rw.g a _ p (List.getElem?_eq_getElem hl) hp
    generalize s.G[a] = cc at c
    cases cc with
    | lst ds => obtain ⟨vs, h, _⟩ := c; exact .base (.lst h)
    | dead => obtain ⟨vs, h⟩ := c; exact .base (.lst h)
  | loc a =>
    obtain ⟨p, hp, rfl⟩ := r
    have hl : a < s.L.length := by rw [← rw.ll]; exact (List.getElem?_eq_some_iff.mp hp).1
    have c := rw.l a _ p (List.getElem?_eq_getElem hl) hp
    generalize s.L[a] = cc at c
    cases cc with
    | lst ds => obtain ⟨vs, h, _⟩ := c; exact .base (.lst h)
    | dead => obtain ⟨vs, h⟩ := c; exact .base (.lst h)
  | _ => cases h
theorem kit_tag {K : PySem.W.Frag} {d : D} {t : Tag} (h : d.tyd = true) (ht : t.typ = true) : PySem.W.kitOne K (.type d.tyN) (.type t.nm) = some (t.has d) := by
  refine kit_ty ?_
  cases t <;> first | (cases ht; done) | skip
  all_goals (cases d <;> first | (cases h; done) | (show kitB _ _ = some _; simp only [D.tyN, Tag.nm, Tag.has]; decide +kernel))
section
variable {X : Cx} {k : Kx} {C : CallH} {W : WX}
/-- the classes that stand in a call of isinstance -/
inductive Tys (X : Cx) : List Expr → List Tag → Prop where
  | nil : Tys X [] []
  | cons {x : Str} {p : Pos} {t : Tag} {es : List Expr} {ts : List Tag} (hg : Gl X x) (hm : X.mg x = none) (hv : bootBuiltins x = some (.type t.nm)) (ht : t.typ = true) (hn : x ≠ "__name__") (hd : (x == ("__debug__" : Str)) = false)
      (he : starEach (.Name x p :: es) X.env = (false, eval (.Name x p) X.env) :: starEach es X.env) (r : Tys X es ts) : Tys X (.Name x p :: es) (t :: ts)
theorem Tys.pa : ∀ {es : List Expr} {ts : List Tag}, Tys X es ts → PA X es (fun σ H Q => Q (ts.map fun t => V.ty t.nm) H)
  | _, _, .nil => pa_imp pa_nil fun σ H Q h => h
  | _, _, .cons hg hm hv ht hn hd he r => pa_imp (pa_cons (pe_bltn (v := .ty _) hg hm hv rfl hn hd) r.pa he) fun σ H Q h => h
theorem Tys.typ : ∀ {es : List Expr} {ts : List Tag}, Tys X es ts → ts.all Tag.typ = true
  | _, _, .nil => rfl
  | _, _, .cons _ _ _ ht _ _ _ r => by rw [List.all_cons, ht, r.typ]; rfl
theorem kit_tags {K : PySem.W.Frag} {d : D} (h : d.tyd = true) : ∀ {ts : List Tag}, ts.all Tag.typ = true → PySem.W.kitAny K (.type d.tyN) (ts.map fun t => Value.type t.nm) = some (ts.any fun t => t.has d)
  | [], _ => kitAny_nil
  | t :: ts, ht => by
    rw [List.all_cons, Bool.and_eq_true] at ht
    refine kitAny_cons (kit_tag h ht.1) (fun q => ?_) fun q => by rw [List.any_cons, q]; rfl
    rw [List.any_cons, q, kit_tags h ht.2]
    rfl
theorem post_isi {w : Wd} {s : S} {H : Hp} {σ : St} {d : D} {v : V} {ts : List Tag} {Q : VK} (rw : RW k w s H) (h : Post k (Wσ W σ) w H (RD k) (bltD (.isi ts) [d] s) Q) : d.tyd = true ∧ Post k (Wσ W σ) w H (RD k) (.ok (.bl (ts.any fun t => t.has d)) s) Q := by
  simp only [bltD, one] at h
  by_cases c : d.tyd = true
  · rw [if_pos c] at h; exact ⟨c, h⟩
  · rw [if_neg c] at h; exact h.elim
/-- isinstance(e, T) -/
theorem se_isi {x : Str} {t : Tag} {e : Expr} {i : IE} {p p2 pos : Pos} (hk : k.K = X.K) (ha : SE X k C W e i) (hT : Tys X [.Name x p2] [t]) (hm : X.mg "isinstance" = none)
    (hg : Gl X "isinstance" := by rfl) (he : starEach [e, .Name x p2] X.env = (false, eval e X.env) :: starEach [.Name x p2] X.env := by rfl) (hpl : (backTo pos (starEach [.Name x p2] X.env)).any (·.1) = false := by rfl) :
    SE X k C W (.Call (.Name "isinstance" p) [e, .Name x p2] [] pos) (.blt (.isi [t]) (.cons i .nil)) := pe_imp (pe_callB (id := "isinstance") call_isi hg hm PyProof.Rows.boot_isinstance (pa_cons ha hT.pa he) (by decide) (by decide) he hpl) fun σ H Q ⟨w, τ, s, rs, rw, h⟩ => by
  simp only [ev] at h
  have h2 : Post k (Wσ W σ) w H (RD k) ((ev C i τ s).bind fun d s => bltD (.isi [t]) [d] s) Q := by
    cases e1 : ev C i τ s with
    | no => rw [e1] at h; exact h
    | ex y s' => rw [e1] at h; exact h
    | ok d s' => rw [e1] at h; exact h
  refine ⟨w, τ, s, rs, rw, h2.bind.imp fun v H1 ⟨w1, d1, s1, e1, rw1, r1, h1⟩ => ?_⟩
  obtain ⟨c, h1⟩ := post_isi (v := v) rw1 h1
  refine ⟨v, .ty t.nm, .type d1.tyN, .type t.nm, _, rfl, .ty _, by rw [← hk]; exact ty_ok rw1 r1 c, ?_, h1.here rw1 rfl⟩
  have z := hT.typ
  simp only [List.all_cons, List.all_nil, Bool.and_true] at z
  simp only [List.any_cons, List.any_nil, Bool.or_false]
  exact kit_tag c z
theorem paired_ty : ∀ {ts : List Tag}, Paired ClsV (ts.map fun t => V.ty t.nm) (ts.map fun t => Value.type t.nm)
  | [] => .nil
  | _ :: _ => .cons (.ty _) paired_ty
/-- isinstance(e, (T, ..)) -/
theorem se_isiT {e : Expr} {es : List Expr} {ts : List Tag} {i : IE} {kk : Nat} {p p2 pos : Pos} (hk : k.K = X.K) (ha : SE X k C W e i) (hT : Tys X es ts) (hm : X.mg "isinstance" = none) (hl : ts.length ≤ 1000 := by decide)
    (hg : Gl X "isinstance" := by rfl) (he : starEach [e, .Tuple es kk p2] X.env = (false, eval e X.env) :: starEach [.Tuple es kk p2] X.env := by rfl) (he2 : starEach [.Tuple es kk p2] X.env = (false, eval (.Tuple es kk p2) X.env) :: starEach [] X.env := by rfl) (hpl : (backTo pos (starEach [.Tuple es kk p2] X.env)).any (·.1) = false := by rfl) :
    SE X k C W (.Call (.Name "isinstance" p) [e, .Tuple es kk p2] [] pos) (.blt (.isi ts) (.cons i .nil)) := pe_imp (pe_callB (id := "isinstance") call_isiT hg hm PyProof.Rows.boot_isinstance (pa_cons ha (pa_cons (pe_tup hT.pa) pa_nil he2) he) (by decide) (by decide) he hpl) fun σ H Q ⟨w, τ, s, rs, rw, h⟩ => by
  simp only [ev] at h
  have h2 : Post k (Wσ W σ) w H (RD k) ((ev C i τ s).bind fun d s => bltD (.isi ts) [d] s) Q := by
    cases e1 : ev C i τ s with
    | no => rw [e1] at h; exact h
    | ex y s' => rw [e1] at h; exact h
    | ok d s' => rw [e1] at h; exact h
  refine ⟨w, τ, s, rs, rw, h2.bind.imp fun v H1 ⟨w1, d1, s1, e1, rw1, r1, h1⟩ => ?_⟩
  obtain ⟨c, h1⟩ := post_isi (v := v) rw1 h1
  refine ⟨by rw [List.length_map]; exact Nat.le_of_lt (small1000 hl), fun q hq => ?_⟩
  have ex := Ext.new (o := .tup (ts.map fun t => V.ty t.nm)) rw1 hq
  refine ⟨v, q, ts.map fun t => V.ty t.nm, .type d1.tyN, ts.map fun t => Value.type t.nm, _, rfl, upd_same, ?_, by rw [← hk]; exact ty_ok (rw1.new hq) (r1.mono ex) c, kit_tags c hT.typ, h1 w1 _ _ ex (rw1.new hq) rfl⟩
  exact paired_ty
/-! ### words -/
theorem se_int {n : Int} {j : Nat} {pos : Pos} : SE X k C W (.Constant (.int n) j pos) (.lit (.int n)) := se_lit pe_int fun _ _ => rfl
theorem se_bool {b : Bool} {j : Nat} {pos : Pos} : SE X k C W (.Constant (.bool b) j pos) (.lit (.bl b)) := se_lit pe_bl fun _ _ => rfl
theorem se_non {j : Nat} {pos : Pos} : SE X k C W (.Constant .none j pos) (.lit .non) := se_lit pe_non fun _ _ => rfl
theorem se_text {x : Str} {z : List Nat} {j : Nat} {pos : Pos} (h : x = ⟨z.toArray⟩ := by decide +kernel) : SE X k C W (.Constant (.str x) j pos) (.lit (.str z)) := se_lit pe_str fun _ _ => by
  subst h
  exact rfl
/-- a global's value -/
theorem se_glob {x : Str} {v : V} {u : Value} {d : D} {pos : Pos} (hm : X.mg x = some u) (r : RelV v u) (hd : ∀ w H, RD k w H d v) (hg : Gl X x := by rfl) (hn : (x == ("__debug__" : Str)) = false := by decide) : SE X k C W (.Name x pos) (.lit d) := se_lit (pe_glob hg hm r hn) hd
theorem se_globS {x z' : Str} {t : Tok} {z : List Nat} {pos : Pos} (hm : X.mg x = some (.str z' t)) (h : z' = ⟨z.toArray⟩ := by decide +kernel) (hg : Gl X x := by rfl) (hn : (x == ("__debug__" : Str)) = false := by decide) : SE X k C W (.Name x pos) (.lit (.str z)) :=
  se_glob (v := .str z') hm ⟨_, rfl⟩ (fun _ _ => by subst h; exact rfl) hg hn
theorem se_globI {x : Str} {n : Int} {t : Tok} {pos : Pos} (hm : X.mg x = some (.int n t)) (hg : Gl X x := by rfl) (hn : (x == ("__debug__" : Str)) = false := by decide) : SE X k C W (.Name x pos) (.lit (.int n)) :=
  se_glob (v := .int n) hm ⟨_, rfl⟩ (fun _ _ => rfl) hg hn
end
end DI

/-! The built-ins, one by one. -/
namespace DI
open PySem L2
section
variable {X : Cx} {k : Kx} {C : CallH} {W : WX} {e o : Expr} {es : List Expr} {i io : IE} {p pos apos cpos : Pos}
theorem se_len (hk : k.K = X.K) (hm : X.mg "len" = none) (ha : SA X k C W (e :: es) i) (hg : Gl X "len" := by rfl) (hs : starEach (e :: es) X.env = (false, eval e X.env) :: starEach es X.env := by rfl) (hpl : (backTo pos (starEach es X.env)).any (·.1) = false := by rfl) :
    SE X k C W (.Call (.Name "len" p) (e :: es) [] pos) (.blt .len i) := se_blt call_len (fun w s H σ ds vs Q rw r h => len_ok hk rw r h) hm PySem.boot_len ha hg (by decide) (by decide) hs hpl
theorem se_all (hk : k.K = X.K) (hc : X.calm = true) (hm : X.mg "all" = none) (ha : SA X k C W (e :: es) i) (hg : Gl X "all" := by rfl) (hs : starEach (e :: es) X.env = (false, eval e X.env) :: starEach es X.env := by rfl) (hpl : (backTo pos (starEach es X.env)).any (·.1) = false := by rfl) :
    SE X k C W (.Call (.Name "all" p) (e :: es) [] pos) (.blt .all i) := se_blt (cr_all hc) (fun w s H σ ds vs Q rw r h => all_ok hk rw r h) hm PyProof.Rows.boot_all ha hg (by decide) (by decide) hs hpl
theorem se_any (hk : k.K = X.K) (hc : X.calm = true) (hm : X.mg "any" = none) (ha : SA X k C W (e :: es) i) (hg : Gl X "any" := by rfl) (hs : starEach (e :: es) X.env = (false, eval e X.env) :: starEach es X.env := by rfl) (hpl : (backTo pos (starEach es X.env)).any (·.1) = false := by rfl) :
    SE X k C W (.Call (.Name "any" p) (e :: es) [] pos) (.blt .any i) := se_blt (cr_any hc) (fun w s H σ ds vs Q rw r h => any_ok hk rw r h) hm PyProof.Rows.boot_any ha hg (by decide) (by decide) hs hpl
theorem se_abs (hm : X.mg "abs" = none) (ha : SA X k C W (e :: es) i) (hg : Gl X "abs" := by rfl) (hs : starEach (e :: es) X.env = (false, eval e X.env) :: starEach es X.env := by rfl) (hpl : (backTo pos (starEach es X.env)).any (·.1) = false := by rfl) :
    SE X k C W (.Call (.Name "abs" p) (e :: es) [] pos) (.blt .abs i) := se_blt call_abs (fun w s H σ ds vs Q rw r h => abs_ok rw r h) hm PyProof.Rows.boot_abs ha hg (by decide) (by decide) hs hpl
theorem se_cint (hm : X.mg "int" = none) (ha : SA X k C W (e :: es) i) (hg : Gl X "int" := by rfl) (hs : starEach (e :: es) X.env = (false, eval e X.env) :: starEach es X.env := by rfl) (hpl : (backTo pos (starEach es X.env)).any (·.1) = false := by rfl) :
    SE X k C W (.Call (.Name "int" p) (e :: es) [] pos) (.blt .int i) := se_bltT (call_int1.or call_int_str) (fun w s H σ ds vs Q rw r h => int_ok rw r h) hm PyProof.Rows.boot_int ha hg (by decide) (by decide) hs hpl
theorem se_cstr (hm : X.mg "str" = none) (ha : SA X k C W (e :: es) i) (hg : Gl X "str" := by rfl) (hs : starEach (e :: es) X.env = (false, eval e X.env) :: starEach es X.env := by rfl) (hpl : (backTo pos (starEach es X.env)).any (·.1) = false := by rfl) :
    SE X k C W (.Call (.Name "str" p) (e :: es) [] pos) (.blt .str i) := se_bltT call_str_int (fun w s H σ ds vs Q rw r h => str_ok rw r h) hm PyProof.Rows.boot_str ha hg (by decide) (by decide) hs hpl
theorem se_clist {m : Mode} (hk : k.K = X.K) (hm : X.mg "list" = none) (ha : SA X k C W (e :: es) i) (hg : Gl X "list" := by rfl) (hs : starEach (e :: es) X.env = (false, eval e X.env) :: starEach es X.env := by rfl) (hpl : (backTo pos (starEach es X.env)).any (·.1) = false := by rfl) :
    SE X k C W (.Call (.Name "list" p) (e :: es) [] pos) (.blt (.list m) i) := se_bltT call_list_of (fun w s H σ ds vs Q rw r h => list_ok hk rw r h) hm PyProof.Rows.boot_list ha hg (by decide) (by decide) hs hpl
theorem chars_vals {z : Str} {acc : Array Value} (h : PySem.ItemsOf (PySem.SignAt z) acc z.cps.size) : Vals (z.cps.toList.map fun c => V.str ⟨#[c]⟩) acc.toList := by
  obtain ⟨e, hi⟩ := h
  have key : ∀ (l : List Nat) (us : List Value), l.length = us.length → (∀ (j : Nat) (u : Value), us[j]? = some u → ∃ (c : Nat) (t : Tok), l[j]? = some c ∧ u = Value.str ⟨#[c]⟩ t) → Vals (l.map fun c => V.str ⟨#[c]⟩) us := by
    intro l
    induction l with
    | nil =>
      intro us hl _
      cases us with
      | nil => exact .nil
      | cons _ _ => cases hl
    | cons c l ih =>
      intro us hl hq
      cases us with
      | nil => cases hl
      | cons u us =>
        obtain ⟨c', t, e1, e2⟩ := hq 0 u rfl
        cases e1
        exact .cons ⟨t, e2⟩ (ih us (by simpa using hl) fun j v hv => by simpa using hq (j + 1) v (by simpa using hv))
  refine key _ _ (by simp [e]) fun j u hu => ?_
  obtain ⟨c, t, h1, h2⟩ := hi j u (by simpa using hu)
  exact ⟨c, t, by simpa using h1, h2⟩
theorem cr_tupS (hc : X.calm = true) : CallR X (.type "tuple") (fun xs H Q => ∃ z : Str, xs = [.str z] ∧ z.cps.size ≤ sizeLine ∧ ∀ l, H l = none → Q (.ref l) (upd H l (.tup (z.cps.toList.map fun c => V.str ⟨#[c]⟩)))) := by
  intro pins s σ H xs us Q I r h
  obtain ⟨z, rfl, hz, q⟩ := h
  obtain ⟨u, rfl, t, rfl⟩ := Vals.one r
  refine call_tuple_str (I.ok.hd hc) z t (fun h' tk acc kp hi => ?_) hz
  have rv := chars_vals hi
  have I1 : Inv X pins σ H { s with heap := h', toks := tk } := I.kept (t' := tk) kp
  have I2 : Inv X pins σ (upd H h'.objs.size (.tup (z.cps.toList.map fun c => V.str ⟨#[c]⟩))) { s with heap := h'.push { cls := .type "tuple", data := .seq acc }, toks := tk } :=
    I1.laid (t' := tk) (fun b o e => Heap.get?_push_of_some _ e) (Nat.le_refl _) (show ObjOk X.prog X.w _ _ _ (.tup _) from ⟨by simpa using hz, acc.toList, rv, by simpa using PyProof.Rows.IsTup.new h' acc⟩)
  exact ⟨.ref h'.objs.size, _, I2, rfl, q _ (I1.hok.fresh (Nat.le_refl _))⟩
theorem se_ctup (hk : k.K = X.K) (hc : X.calm = true) (hm : X.mg "tuple" = none) (ha : SA X k C W (e :: es) i) (hg : Gl X "tuple" := by rfl) (hs : starEach (e :: es) X.env = (false, eval e X.env) :: starEach es X.env := by rfl) (hpl : (backTo pos (starEach es X.env)).any (·.1) = false := by rfl) :
    SE X k C W (.Call (.Name "tuple" p) (e :: es) [] pos) (.blt .tuple i) := se_bltT (call_tuple_of.or (cr_tupS hc)) (fun w s H σ ds vs Q rw r h => tuple_ok hk rw r h) hm PyProof.Rows.boot_tuple ha hg (by decide) (by decide) hs hpl
theorem se_sorted {m : Mode} (hk : k.K = X.K) (hu : X.A.units + 65 < cLine) (hm : X.mg "sorted" = none) (ha : SA X k C W (e :: es) i) (hg : Gl X "sorted" := by rfl) (hs : starEach (e :: es) X.env = (false, eval e X.env) :: starEach es X.env := by rfl) (hpl : (backTo pos (starEach es X.env)).any (·.1) = false := by rfl) :
    SE X k C W (.Call (.Name "sorted" p) (e :: es) [] pos) (.blt (.sorted m) i) := se_blt (cr_sortD hk hu) (fun w s H σ ds vs Q rw r h => sorted_ok rw r h) hm PyProof.Rows.boot_sorted ha hg (by decide) (by decide) hs hpl
theorem se_min (hc : X.calm = true) (hm : X.mg "min" = none) (ha : SA X k C W (e :: es) i) (hg : Gl X "min" := by rfl) (hs : starEach (e :: es) X.env = (false, eval e X.env) :: starEach es X.env := by rfl) (hpl : (backTo pos (starEach es X.env)).any (·.1) = false := by rfl) :
    SE X k C W (.Call (.Name "min" p) (e :: es) [] pos) (.blt .min2 i) := se_blt (call_min2 hc) (fun w s H σ ds vs Q rw r h => min_ok rw r h) hm PyProof.Rows.boot_min ha hg (by decide) (by decide) hs hpl
theorem se_max (hc : X.calm = true) (hm : X.mg "max" = none) (ha : SA X k C W (e :: es) i) (hg : Gl X "max" := by rfl) (hs : starEach (e :: es) X.env = (false, eval e X.env) :: starEach es X.env := by rfl) (hpl : (backTo pos (starEach es X.env)).any (·.1) = false := by rfl) :
    SE X k C W (.Call (.Name "max" p) (e :: es) [] pos) (.blt .max2 i) := se_blt (call_max2 hc) (fun w s H σ ds vs Q rw r h => max_ok rw r h) hm PyProof.Rows.boot_max ha hg (by decide) (by decide) hs hpl
theorem ty_str {x : D} {v : V} {w : Wd} {s : S} {H : Hp} {K : PySem.W.Frag} (r : RD k w H x v) (h : tyM .join x s = true) : tyV K "str" v H := by
  cases x <;> first | (cases h; done) | skip
  cases r
  exact rfl
theorem se_append (hk : k.K = X.K) (ho : SE X k C W o io) (ha : SA X k C W [e] i) (hbase : attributeBase o "append" X.env (eval o X.env) = eval o X.env := by rfl)
    (hfew : ((backTo cpos (starEach [e] X.env)).all (fun x => !x.1) && (backToKw cpos (keywordEach [] X.env)).all (fun x => x.1.isSome) && decide (([e] : List Expr).length + ([] : List Keyword).length + (if ([] : List Keyword).isEmpty then 0 else 1) < 30)) = true := by rfl)
    (hline : (apos.endLine == cpos.line) = true := by rfl) (hs : starEach [e] X.env = (false, eval e X.env) :: starEach [] X.env := by rfl) (hplain : (backTo cpos (starEach [] X.env)).any (·.1) = false := by rfl) :
    SE X k C W (.Call (.Attribute o "append" apos) [e] [] cpos) (.meth .append io i) :=
  se_meth F.plainAttrs_list F.slot_list_append F.type_list_append mt_append (fun w s H x v rw r h => ty_list hk rw r h) (fun w s H σ x v ds vs Q rw r rs h => app_okD rw r rs h) ho ha hbase hfew hline hs hplain
theorem se_extend (hk : k.K = X.K) (ho : SE X k C W o io) (ha : SA X k C W [e] i) (hbase : attributeBase o "extend" X.env (eval o X.env) = eval o X.env := by rfl)
    (hfew : ((backTo cpos (starEach [e] X.env)).all (fun x => !x.1) && (backToKw cpos (keywordEach [] X.env)).all (fun x => x.1.isSome) && decide (([e] : List Expr).length + ([] : List Keyword).length + (if ([] : List Keyword).isEmpty then 0 else 1) < 30)) = true := by rfl)
    (hline : (apos.endLine == cpos.line) = true := by rfl) (hs : starEach [e] X.env = (false, eval e X.env) :: starEach [] X.env := by rfl) (hplain : (backTo cpos (starEach [] X.env)).any (·.1) = false := by rfl) :
    SE X k C W (.Call (.Attribute o "extend" apos) [e] [] cpos) (.meth .extend io i) :=
  se_meth F.plainAttrs_list F.slot_list_extend F.type_list_extend mt_extend (fun w s H x v rw r h => ty_list hk rw r h) (fun w s H σ x v ds vs Q rw r rs h => ext_okD rw r rs h) ho ha hbase hfew hline hs hplain
theorem se_popI (hk : k.K = X.K) (ho : SE X k C W o io) (ha : SA X k C W [e] i) (hbase : attributeBase o "pop" X.env (eval o X.env) = eval o X.env := by rfl)
    (hfew : ((backTo cpos (starEach [e] X.env)).all (fun x => !x.1) && (backToKw cpos (keywordEach [] X.env)).all (fun x => x.1.isSome) && decide (([e] : List Expr).length + ([] : List Keyword).length + (if ([] : List Keyword).isEmpty then 0 else 1) < 30)) = true := by rfl)
    (hline : (apos.endLine == cpos.line) = true := by rfl) (hs : starEach [e] X.env = (false, eval e X.env) :: starEach [] X.env := by rfl) (hplain : (backTo cpos (starEach [] X.env)).any (·.1) = false := by rfl) :
    SE X k C W (.Call (.Attribute o "pop" apos) [e] [] cpos) (.meth .popI io i) :=
  se_meth F.plainAttrs_list F.slot_list_pop F.type_list_pop mt_popAt (fun w s H x v rw r h => ty_list hk rw r h) (fun w s H σ x v ds vs Q rw r rs h => popAt_okD rw r rs h) ho ha hbase hfew hline hs hplain
theorem se_pop (hk : k.K = X.K) (ho : SE X k C W o io) (hbase : attributeBase o "pop" X.env (eval o X.env) = eval o X.env := by rfl) (hline : (apos.endLine == cpos.line) = true := by rfl) :
    SE X k C W (.Call (.Attribute o "pop" apos) [] [] cpos) (.meth .pop io .nil) :=
  se_meth0 F.plainAttrs_list F.slot_list_pop F.type_list_pop mt_pop (fun w s H x v rw r h => ty_list hk rw r h) (fun w s H σ x v ds vs Q rw r rs h => pop_okD rw r rs h) ho hbase hline
theorem se_join (hk : k.K = X.K) (ho : SE X k C W o io) (ha : SA X k C W [e] i) (hbase : attributeBase o "join" X.env (eval o X.env) = eval o X.env := by rfl)
    (hfew : ((backTo cpos (starEach [e] X.env)).all (fun x => !x.1) && (backToKw cpos (keywordEach [] X.env)).all (fun x => x.1.isSome) && decide (([e] : List Expr).length + ([] : List Keyword).length + (if ([] : List Keyword).isEmpty then 0 else 1) < 30)) = true := by rfl)
    (hline : (apos.endLine == cpos.line) = true := by rfl) (hs : starEach [e] X.env = (false, eval e X.env) :: starEach [] X.env := by rfl) (hplain : (backTo cpos (starEach [] X.env)).any (·.1) = false := by rfl) :
    SE X k C W (.Call (.Attribute o "join" apos) [e] [] cpos) (.meth .join io i) :=
  se_meth F.plainAttrs_str F.slot_str_join F.type_str_join mt_join (fun w s H x v rw r h => ty_str (w := w) (s := s) (H := H) r h) (fun w s H σ x v ds vs Q rw r rs h => join_okD hk rw r rs h) ho ha hbase hfew hline hs hplain
theorem se_split {m : Mode} (ho : SE X k C W o io) (ha : SA X k C W [e] i) (hbase : attributeBase o "split" X.env (eval o X.env) = eval o X.env := by rfl)
    (hfew : ((backTo cpos (starEach [e] X.env)).all (fun x => !x.1) && (backToKw cpos (keywordEach [] X.env)).all (fun x => x.1.isSome) && decide (([e] : List Expr).length + ([] : List Keyword).length + (if ([] : List Keyword).isEmpty then 0 else 1) < 30)) = true := by rfl)
    (hline : (apos.endLine == cpos.line) = true := by rfl) (hs : starEach [e] X.env = (false, eval e X.env) :: starEach [] X.env := by rfl) (hplain : (backTo cpos (starEach [] X.env)).any (·.1) = false := by rfl) :
    SE X k C W (.Call (.Attribute o "split" apos) [e] [] cpos) (.meth (.split m) io i) :=
  se_meth F.plainAttrs_str F.slot_str_split F.type_str_split mt_split (fun w s H x v rw r h => ty_str (w := w) (s := s) (H := H) r h) (fun w s H σ x v ds vs Q rw r rs h => split_okD rw r rs h) ho ha hbase hfew hline hs hplain
end
end DI

/-! Chains in tests; calls without arguments; keywords. -/
namespace DI
open PySem L2
section
variable {X : Cx} {k : Kx} {C : CallH} {W : WX}
theorem chain_red {o o' : COp} {ia ib ic : IE} {σ : St} {H : Hp} {Q : VK} (h : tE k C W (.chain o o' ia ib ic) σ H Q) : tChain (rCmp k o) (rCmp k o') (tE k C W ia) (tE k C W ib) (tE k C W ic) σ H Q := by
  obtain ⟨w, τ, s, rs, rw, h⟩ := h
  simp only [ev] at h
  refine ⟨w, τ, s, rs, rw, h.bind.imp fun x H1 ⟨w1, d1, s1, e1, rw1, r1, h1⟩ => ?_⟩
  refine ⟨w1, τ, s1, rs.mono e1, rw1, h1.bind.imp fun y H2 ⟨w2, d2, s2, e2, rw2, r2, h2⟩ => ?_⟩
  cases q : cmpD o d1 d2 s2 with
  | none => rw [q] at h2; exact h2.elim
  | some b =>
    rw [q] at h2
    refine ⟨w2, s2, d1, d2, b, rw2, r1.mono e2, r2, q, b, rfl, ?_⟩
    cases b with
    | false => rw [if_neg Bool.false_ne_true]; exact h2.here rw2 rfl
    | true =>
      rw [if_pos rfl]
      refine ⟨w2, τ, s2, (rs.mono e1).mono e2, rw2, h2.bind.imp fun z H3 ⟨w3, d3, s3, e3, rw3, r3, h3⟩ => ?_⟩
      obtain ⟨z', ez, h4⟩ := h3.of
      cases q' : cmpD o' d2 d3 s3 with
      | none => rw [q'] at ez; cases ez
      | some b' =>
        rw [q'] at ez
        cases ez
        exact ⟨w3, s3, d2, d3, b', rw3, r2.mono e3, r3, q', h4.here rw3 rfl⟩
theorem chain_bl {o o' : COp} {ia ib ic : IE} {τ : Sl} {s s' : S} {d : D} (h : ev C (.chain o o' ia ib ic) τ s = .ok d s') : ∃ b, d = .bl b := by
  simp only [ev] at h
  obtain ⟨x, s1, _, h⟩ := bind_ok h
  obtain ⟨y, s2, _, h⟩ := bind_ok h
  cases q : cmpD o x y s2 with
  | none => rw [q] at h; cases h
  | some b =>
    rw [q] at h
    cases b with
    | false => cases h; exact ⟨_, rfl⟩
    | true =>
      obtain ⟨z, s3, _, h⟩ := bind_ok h
      cases q' : cmpD o' y z s3 with
      | none => rw [q'] at h; cases h
      | some b' => rw [q'] at h; cases h; exact ⟨_, rfl⟩
theorem st_chain {op op' : CmpOp} {o o' : COp} {a b c : Expr} {ia ib ic : IE} {pos : Pos} (ho : OpR X (compareOp op) (rCmp k o)) (ho' : OpR X (compareOp op') (rCmp k o')) (ha : SE X k C W a ia) (hb : SE X k C W b ib) (hc : SE X k C W c ic)
    (hm : lastMarks [op, op'] [b, c] = false := by with_unfolding_all rfl) : ST X k C W (.Compare a [op, op'] [b, c] pos) (.chain o o' ia ib ic) := pt_imp (pt_chain ho ho' ha hb hc hm) fun σ H Q ⟨w, τ, s, rs, rw, h⟩ => by
  refine chain_red (C := C) (W := W) ⟨w, τ, s, rs, rw, ?_⟩
  unfold evT at h
  cases e : ev C (.chain o o' ia ib ic) τ s with
  | no => rw [e] at h; exact h.elim
  | ex x s' => rw [e] at h; exact h
  | ok d s' =>
    obtain ⟨b, rfl⟩ := chain_bl e
    rw [e] at h
    intro w' v H' x rw' r
    cases r
    exact ⟨b, rfl, h w' b H' x rw' rfl⟩
theorem se_call0 {n j : Nat} {f : Addr} {fd : FuncData} {x : Str} {p pos : Pos} (F : FnOk X.prog X.w X.K X.mg X.base (L2.CX X.prog X.w) n f fd [] (spI k C 0 j)) (hr : Room n X.A) (hm : X.mg x = some (.ref f)) (hk : PySem.W.keepIn X.K (.ref f) = true) (hb : Binds X.K fd [] [])
    (tk : Takes X W) (hg : Gl X x := by rfl) (hdb : (x == ("__debug__" : Str)) = false := by decide) : SE X k C W (.Call (.Name x p) [] [] pos) (.call j .nil) := ⟨fun pins s σ H Q I ⟨w, τ, s', rs, rw, h⟩ => by
  simp only [ev, R.bind] at h
  refine wpAny_Call_Name_kw (ld_glob I hg hm ?_ hdb)
  refine PySem.W.callWith_K0 I.kIn hk ?_
  exact run_fnSD (us := []) (vs := []) (dvs := []) (ds := []) (E := WE W) F hr hb .nil (passAt tk σ) I .nil (callD_ok (C := C) (ds := []) rfl rw (show RDs k w H [] ([] ++ []) from rfl) h)⟩
end
theorem kw_ok {K : PySem.W.Frag} {x qual : Str} {st : Stmt} {f : Addr} {fd : FuncData} {ps ks : List Str} {a b : Nat} (F : Fun K x qual st f fd)
    (h : ∀ (kV doc pm : Value) (an : Option Addr) (cdv ct : Value) (us ws : List Value), us.length = a → ws.length = b → bindArgs (PySem.W.fnOf x qual (defArgs st) (defBody st) (defScope st) .none kV doc pm an cdv ct) ⟨us, ks.zip ws⟩ = pure (ps.zip (us ++ ws))) :
    ∀ (s : Shared) (us ws : List Value), us.length = a → ws.length = b → BindsTo s fd ⟨us, ks.zip ws⟩ (ps.zip (us ++ ws)) := by
  obtain ⟨oc, od, kV, doc, pm, an, cdv, ct, osl, rfl, lk, hcd⟩ := F.ex
  exact fun s us ws h1 h2 => .of_eq (h kV doc pm an cdv ct us ws h1 h2)
theorem kw0_ok {K : PySem.W.Frag} {x qual : Str} {st : Stmt} {f : Addr} {fd : FuncData} {ps ks : List Str} {b : Nat} (F : Fun K x qual st f fd)
    (h : ∀ (kV doc pm : Value) (an : Option Addr) (cdv ct : Value) (ws : List Value), ws.length = b → bindArgs (PySem.W.fnOf x qual (defArgs st) (defBody st) (defScope st) .none kV doc pm an cdv ct) ⟨[], ks.zip ws⟩ = pure (ps.zip ws)) :
    ∀ (s : Shared) (ws : List Value), ws.length = b → BindsTo s fd ⟨[], ks.zip ws⟩ (ps.zip ws) := by
  obtain ⟨oc, od, kV, doc, pm, an, cdv, ct, osl, rfl, lk, hcd⟩ := F.ex
  exact fun s ws h2 => .of_eq (h kV doc pm an cdv ct ws h2)
/-- the units that comparisons ask -/
theorem hu64 {A : Around} {n : Nat} (hr : Room n A) : A.units + 64 < cLine := by have := hr.un; omega
theorem hu65 {A : Around} {n : Nat} (hr : Room n A) : A.units + 65 < cLine := by have := hr.un; omega

/-- a global tuple of texts -/
def GT (K : PySem.W.Frag) (mg : Str → Option Value) (x : Str) (zs : List (List Nat)) : Prop := ∃ (p : Addr) (dd : Option Addr) (its : Array Value) (n : Nat) (sl : Array (Option Value)), mg x = some (.ref p) ∧ K.lookup p = some ⟨.type "tuple", dd, .seq its n, sl⟩ ∧ its.size ≤ 1000 ∧ Vals (zs.map fun z => V.str ⟨z.toArray⟩) its.toList
theorem GT.mk {K : PySem.W.Frag} {mg : Str → Option Value} {x : Str} {zs : List (List Nat)} {p : Addr} {dd : Option Addr} {its : Array Value} {n : Nat} {sl : Array (Option Value)} (h : mg x = some (.ref p)) (u : K.lookup p = some ⟨.type "tuple", dd, .seq its n, sl⟩) (hz : its.size ≤ 1000) (r : Vals (zs.map fun z => V.str ⟨z.toArray⟩) its.toList) : GT K mg x zs := ⟨p, dd, its, n, sl, h, u, hz, r⟩
theorem rd_texts {k : Kx} {w : Wd} {H : Hp} : ∀ {zs : List (List Nat)}, RDs k w H (zs.map D.str) (zs.map fun z => V.str ⟨z.toArray⟩)
  | [] => rfl
  | _ :: _ => ⟨_, _, rfl, rfl, rd_texts⟩
theorem se_globT {X : Cx} {k : Kx} {C : CallH} {W : WX} {x : Str} {zs : List (List Nat)} {pos : Pos} (hk : k.K = X.K) (h : GT X.K X.mg x zs) (hg : Gl X x := by rfl) (hn : (x == ("__debug__" : Str)) = false := by decide) : SE X k C W (.Name x pos) (.lit (.tup (zs.map .str))) := by
  obtain ⟨p, dd, its, n, sl, hm, u, hz, r⟩ := h
  refine se_glob (v := .ref p) hm rfl (fun w H => ⟨p, _, rfl, .inr ⟨_, its, n, by rw [hk]; exact u, rfl, rfl, ?_, r⟩, rd_texts⟩) hg hn
  exact Nat.le_of_lt (small1000 hz)

/-! ### the law itself -/
def spLaw (K : PySem.W.Frag) : Sp := fun vs H Q _ => ∃ (a : Addr) (ns : List Int), vs = [.ref a] ∧ SqL K H a (ns.map V.int) ∧ ns.length ≤ 63 ∧ ∀ H', Q (.bl true) H'
/-- the script, by data -/
def scriptD (ns : List Int) : D := .ro (ns.map .int)
theorem script_rd {k : Kx} {H : Hp} {a : Addr} {ns : List Int} (h : SqL k.K H a (ns.map V.int)) : RD k ⟨[], [], []⟩ H (scriptD ns) (.ref a) := by
  refine ⟨a, ns.map V.int, rfl, h.imp (fun h => ⟨by simp [Wd.all], h⟩) id, ?_⟩
  clear h
  induction ns with
  | nil => exact rfl
  | cons n ns ih => exact ⟨_, _, rfl, rfl, ih⟩
theorem law_ok {P : Program} {w : World} {K : PySem.W.Frag} {mg : Str → Option Value} {base : Heap} {k : Kx} (hk : k.K = K) {f : Addr} {fd : FuncData} {ps : List Str} {n j : Nat} {T : Nat → Option FD} (F : FnOk P w K mg base (L2.CX P w) n f fd ps (spI k (run T n) ps.length j)) (hp : ps.length = 1)
    (L : ∀ ns : List Int, ns.length ≤ 63 → ∃ G, run T n j [scriptD ns] [] = .ok (.bl true) G) : FnOk P w K mg base (L2.CX P w) n f fd ps (spLaw K) := by
  refine F.imp fun vs H Q E ⟨a, ns, e, hS, hl, q⟩ => ?_
  subst e
  refine ⟨hp.symm, [], [], [scriptD ns], [], ⟨rfl, rfl, fun _ _ _ h => by simp at h, fun _ _ _ h => by simp at h, by simp [Wd.all], fun _ h => by simp at h⟩, ⟨.ref a, [], rfl, script_rd (by rw [hk]; exact hS), rfl⟩, ?_⟩
  obtain ⟨G, e⟩ := L ns hl
  rw [e]
  intro w' v H' x rw r nc
  cases r
  exact q H'
end DI

/-! Own exceptions: made and raised, caught and tracked, their fields, isinstance. -/
namespace DI
open PySem PySem.Spec L2
theorem extT_ok {P : Program} {w : World} {H : Hp} {h : Heap} {a d : Addr} {cls : Value} {oe : Obj} {vs : Array Value} (he : h.get? a = some oe) (hz : Zc cls (some d) oe) (hd : oe.data = .fields vs) : ObjOk P w H h a (ExT cls d a) :=
  ⟨⟨oe, vs, he, hz, hd⟩, ⟨_, he⟩, fun h1 h2 z k => by
    obtain ⟨o, v, e, y⟩ := z
    exact ⟨o, v, k _ e, y⟩⟩
theorem extT_own {a d x : Addr} {cls : Value} : ExT cls d a ≠ .own x := fun z => by
  have y : HO.ext _ = HO.own x := z
  cases y
section
variable {X : Cx} {pins : List (Addr × Obj)} {σ : St} {H : Hp} {sI s' : Shared} {B : Heap} {a d : Addr} {cls : Value} {oe : Obj} {vs : Array Value}
/-- as Inv.landed, the exception tracked from here on -/
theorem landedX (I : Inv X pins σ H sI) (nb : ∀ b o, sI.heap.get? b = some o → b ∉ frs X.stack → B.get? b = some o) (st : B.StaysIn s'.heap) (up : sI.heap.UpToSlots s'.heap) (os : s'.os = sI.os) (ag : PyProof.Rows.AllBare s'.gens)
    (na : H a = none) (nI : sI.heap.get? a = none) (he : s'.heap.get? a = some oe) (hz : Zc cls (some d) oe) (hd : oe.data = .fields vs) : Inv X pins σ (upd H a (ExT cls d a)) s' := by
  have ne : ∀ {b : Addr} {o : Obj}, sI.heap.get? b = some o → b ≠ a := fun {b o} q z => by rw [z, nI] at q; cases q
  have neH : ∀ {b : Addr} {u : HO}, H b = some u → b ≠ a := fun {b u} q z => by rw [z, na] at q; cases q
  have onF : ∀ b ∈ frs X.stack, ∀ o, sI.heap.get? b = some o → ∃ sl, s'.heap.get? b = some { o with slots := sl } := fun b hb o q => by
    obtain ⟨_, o2, q2, hdd⟩ := I.stack.mem hb
    rw [q] at q2; cases q2
    exact up b o q hdd
  have ok : HOk X.prog X.w (upd H a (ExT cls d a)) s'.heap := fun b u q => by
    by_cases hb : b = a
    · subst hb
      rw [upd_same] at q
      cases q
      exact extT_ok he hz hd
    · rw [upd_ne hb] at q
      have z := (I.inGround nb).kept st b u q
      exact z.stay (fun _ _ _ y => y) (fun c hc => by rw [upd_ne (neH hc)]; exact hc) fun c xs hc => by rw [upd_ne (neH hc)]; exact hc
  have J := I.call (ch := []) (h' := s'.heap) (g' := s'.gens) (t' := s'.toks) (d' := s'.drawn) (H' := upd H a (ExT cls d a))
    { keep := fun b o q _ hb _ => st b o (nb b o q hb)
      slot := fun b o q _ hb _ => onF b hb o q
      free := fun b o q n _ => by rw [upd_ne (ne q)]; exact n
      there := fun b o q _ => by
        by_cases hb : b ∈ frs X.stack
        · obtain ⟨sl, y⟩ := onF b hb o q
          exact ⟨_, y⟩
        · exact ⟨o, st b o (nb b o q hb)⟩
      tups := fun b xs q => by rw [upd_ne (neH q)]; exact q
      frzs := fun b o v q => by rw [upd_ne (neH q)]; exact q
      tbls := fun b ps q => ⟨#[], by rw [upd_ne (neH q), q]; simp⟩ } ok ag (fun _ z => nomatch z)
  obtain ⟨b1, b2, b3, b4, b5⟩ := s'
  obtain rfl : b5 = sI.os := os
  exact J
theorem intoSuite (I : Inv X pins σ H s') (a : Addr) : Inv (X.suite a (X.pn ++ pins)) [] σ H s' :=
  ⟨I.ok.suite _ _, I.os, I.bare, I.base, I.loc, I.cell, I.free, I.freeC, fun p hp => I.pin p (by simpa using hp), I.hok, I.len⟩
theorem outSuite {a : Addr} {pn' : List (Addr × Obj)} (I : Inv (X.suite a (X.pn ++ pins)) pn' σ H s') (ok : X.Ok) : Inv X pins σ H s' :=
  ⟨ok, I.os, I.bare, I.base, I.loc, I.cell, I.free, I.freeC, fun p hp => I.pin p (List.mem_append_left _ hp), I.hok, I.len⟩
end

/-- what 'except x as n' wishes of an exception of the body; the exception is tracked from there on -/
def wT (K : PySem.W.Frag) (c : Value) (i : Nat) (t : TS) (Wout : WX) (D : Ends) : WX := fun cls d σ H =>
  ∃ b, PySem.W.exmOne K cls c = some b ∧ (b = true → ∃ dd, d = some dd ∧ ∀ a, H a = none → t { nx := fun σ' H' => D.nx (σ'.set i none) H', rt := D.rt, bk := fun σ' H' => D.bk (σ'.set i none) H', ct := fun σ' H' => D.ct (σ'.set i none) H' } (σ.set i (some (.ref a))) (upd H a (ExT cls dd a))) ∧
    (b = false → Wout cls d σ H)

section
variable {X : Cx} {x n : Str} {c : Value} {i : Nat} {body suite : List Stmt} {b₀ : Stmt} {np pos pos' : Pos} {tb : WX → TS} {ts : TS} {Wout : WX}
theorem ps_try_T (hs : X.stack = X.env :: X.outer) (hf : X.env.frame = some X.env.locals) (hN : X.N.Nodup) (hi : X.N[i]? = some n) (hln : X.env.kindOf n = some .local) (hc : Names X x c) (tk : Takes X Wout)
    (hb : ∀ (W : WX) (pn : List (Addr × Obj)) (xe : Value → Shared → Prop), Takes (X.tr pn xe) W → PassesOwn (model X.prog X.w) X.A X.env xe → PSs (X.tr pn xe) body (tb W))
    (hsu : ∀ (a : Addr) (pn : List (Addr × Obj)), PSs (X.suite a pn) (b₀ :: suite) ts) :
    PS X (.Try body [.ExceptHandler (some (.Name x np)) (some n) (b₀ :: suite) pos'] [] [] pos) (fun D σ H => tb (wT X.K c i ts Wout D) D σ H) := by
  refine ⟨fun pins s σ H D I h => ?_⟩
  have ok := I.ok
  have hfr : X.A.frames = some (X.env :: X.outer) := by rw [ok.frames, hs]
  have hloc : Loc X.env.scope n := .inl hln
  refine wpAny_Try_except ?_
  refine wpAny_mono ((hb (wT X.K c i ts Wout D) (X.pn ++ pins) (fun e s₁ => wpAny (model X.prog X.w) X.A (noteFrame e X.env) (fun _ s₂ => wpAny (model X.prog X.w) X.A (setFlight e none) (fun _ s₃ =>
    wpAny (model X.prog X.w) X.A (handleBy e X.env [.ExceptHandler (some (.Name x np)) (some n) (b₀ :: suite) pos']) (SP X pins D) X.xe s₃) X.xe s₂) X.xe s₁) (fun u s' xx => ?_) PassesOwn.looking).run [] s σ H D (I.toTry _) h) (fun f s1 hsp => ?_) (fun e s1 he => he)
  · -- the catch
    obtain ⟨a, B, sI, pins', σ', H', cls, d, rfl, J', nb, up, sky, na, os, ag, b, hb1, hyes, hno⟩ := xx
    have J : Inv X pins σ' H' sI := J'.ofTry ok
    have sky' : Sky B (X.env :: X.outer) a (Zc cls d) X.env.locals s'.heap := by rw [← hs]; exact sky
    show wpAny (model X.prog X.w) X.A (noteFrame (.ref a) X.env) _ _ _
    refine Sky.land Zc.steady hfr hf sky' fun h3 fl3 up3 => ?_
    have J3 : Inv X pins σ' H' { s' with heap := h3 } := J.landed nb fl3.1 (up.trans up3) os ag
    obtain ⟨oe3, vs3, he3, hz3, hd3⟩ := fl3.there
    have notFr : ∀ {h : Heap} {o : Obj} {vs : Array Value}, h.FunFrames B (X.env :: X.outer) → h.get? a = some o → o.data = .fields vs → a ∉ frs (X.env :: X.outer) := fun {h o vs} ff e dd hm => by
      obtain ⟨_, o', e', hnf⟩ := ff.mem hm
      rw [e] at e'; cases e'
      exact hnf _ dd
    have nfr := notFr fl3.2.2.1 he3 hd3
    have nL : a ≠ X.env.locals := fun z => nfr (List.mem_filterMap.mpr ⟨X.env, List.mem_cons_self, by rw [hf, z]⟩)
    have nF : a ∉ X.fs := fun hm => by
      obtain ⟨e, he, q⟩ := List.mem_filterMap.mp hm
      exact nfr (List.mem_filterMap.mpr ⟨e, List.mem_cons_of_mem _ he, q⟩)
    have nI : sI.heap.get? a = none := by
      cases q : sI.heap.get? a with
      | none => rfl
      | some o =>
        have z := nb a o q (by rw [hs]; exact nfr)
        rw [fl3.2.1] at z
        cases z
    have S3 := J3.suite he3 hd3 na nL nF
    refine wpAny_handleBy_cons (codeAny_handlers_test ?_) (by intro q; cases q)
    have LT : PySem.W.Looks (model X.prog X.w) h3 (typeOf (.ref a)) cls := fun A Q E s k q => wpAny_typeOf_ref (k _ _ he3) (by rw [hz3.1]; exact q)
    have LM := PySem.W.exm_one (M := model X.prog X.w) (J3.kIn) LT hb1
    have test : ∀ {Q : Value → Shared → Prop} {E : Value → Shared → Prop}, Q c { s' with heap := h3 } → wpAny (model X.prog X.w) (X.A.mark (some (.ref a))) (eval (.Name x np) X.env) Q E { s' with heap := h3 } := fun {Q E} q => by
      obtain ⟨hg, hdbg, hm | ⟨hm, hv, hnn⟩⟩ := hc
      · exact ld_glob (X := X.suite a ((a, oe3) :: (X.pn ++ pins))) S3 hg hm q hdbg
      · exact ld_blt (X := X.suite a ((a, oe3) :: (X.pn ++ pins))) S3 hg hm hv q hnn hdbg
    refine test (LM.here ?_)
    cases b with
    | true =>
      obtain ⟨dd, ed, hyes'⟩ := hyes rfl
      subst ed
      refine codeAny_handlers_suite_as ?_
      refine HandSPX.lands_againZ fl3 fun h4 fl4 up4 => ?_
      obtain ⟨oe4, vs4, he4, hz4, hd4⟩ := fl4.there
      have J4 : Inv X pins σ' (upd H' a (ExT cls dd a)) { s' with heap := h4 } := landedX J nb fl4.1 ((up.trans up3).trans up4) os ag na nI he4 hz4 hd4
      have S4 := intoSuite J4 a
      refine store_ok (X := X.suite a (X.pn ++ pins)) (v := .ref a) S4 hN hi hloc rfl (fun s5 S5 => ?_) (.inr hln)
      refine wpAny_mono ((hsu a (X.pn ++ pins)).run [] s5 _ _ _ S5 (hyes' a na)) (fun f s6 hsp => ?_) (fun _ _ z => False.elim z)
      have end_ : ∀ {σ6 : St} {H6 : Hp} {Q : Shared → Prop}, Inv (X.suite a (X.pn ++ pins)) [] σ6 H6 s6 → (∀ s7, Inv X pins (σ6.set i none) H6 s7 → Q s7) →
          wpAny (model X.prog X.w) X.A (do bindName X.env n .none; unbindBehindTheSuite X.env n pos') (fun _ s7 => Q s7) X.xe s6 := fun {σ6 H6 Q} S6 hq => gone_ok (outSuite S6 ok) hN hi hln hq
      cases f with
      | next =>
        obtain ⟨σ6, H6, S6, q6⟩ := hsp
        exact end_ S6 fun s7 J7 => ⟨_, _, J7, q6⟩
      | brk =>
        obtain ⟨σ6, H6, S6, q6⟩ := hsp
        exact end_ S6 fun s7 J7 => ⟨_, _, J7, q6⟩
      | cont =>
        obtain ⟨σ6, H6, S6, q6⟩ := hsp
        exact end_ S6 fun s7 J7 => ⟨_, _, J7, q6⟩
      | ret u =>
        obtain ⟨v6, σ6, H6, S6, r6, q6⟩ := hsp
        exact end_ S6 fun s7 J7 => ⟨_, _, _, J7, r6, q6⟩
    | false =>
      show wpAny _ X.A (handleBy (.ref a) X.env []) _ _ _
      refine wpAny_handleBy_nil ?_
      obtain ⟨k1, k2, k3, oe, vs, T, oT, ts', he, hz, hd, h1, hr⟩ := id fl3
      unfold PySem.passOn
      refine wpAny_bind (wpAny_field he hd h1 ?_)
      rw [if_neg (show ¬ ((Value.ref T == Value.none) = true) from by simp)]
      have fin : wpAny (model X.prog X.w) X.A (setFlight (.ref a) X.env.frame) (fun _ s4 => wpAny (model X.prog X.w) X.A (throw (.ref a) : Sem PySem.Flow) (SP X pins D) X.xe s4) X.xe { s' with heap := h3 } := by
        rw [hf]
        refine HandSPX.setFlight_upZ fl3 fun h4 hh4 up4 => wpAny_throw (tk _ _ ?_)
        exact ⟨a, B, sI, pins, σ', H', cls, d, rfl, J, nb, (up.trans up3).trans up4, .inr (.inr (by rw [hs]; exact hh4)), na, os, ag, hno rfl⟩
      first
        | exact wpAny_bind (wpAny_pure (wpAny_bind fin))
        | exact wpAny_bind fin
  · cases f with
    | next =>
      obtain ⟨σ', H', J', q⟩ := hsp
      exact wpAny_execs_nil ⟨σ', H', J'.ofTry ok, q⟩
    | brk =>
      obtain ⟨σ', H', J', q⟩ := hsp
      exact ⟨σ', H', J'.ofTry ok, q⟩
    | cont =>
      obtain ⟨σ', H', J', q⟩ := hsp
      exact ⟨σ', H', J'.ofTry ok, q⟩
    | ret u =>
      obtain ⟨v, σ', H', J', r, q⟩ := hsp
      exact ⟨v, σ', H', J'.ofTry ok, r, q⟩
end

/-! ### the evaluator's try -/
section
variable {k : Kx} {w : Wd} {H : Hp} {C : CallH} {W : WX} {Dn : Ends}
theorem rd_caught {cc : Nat} {f : D} {s : S} {d a : Addr} {vf : V} (rw : RW k w s H) (n1 : d ∉ w.all) (n2 : H d = some (.xd [(k.xf cc, vf)])) (rf : RD k w H f vf) (na : H a = none) :
    Ext w H w (upd H a (ExT (.ref (k.cm cc)) d a)) ∧ RW k w s (upd H a (ExT (.ref (k.cm cc)) d a)) ∧ RD k w (upd H a (ExT (.ref (k.cm cc)) d a)) (.exc cc f) (.ref a) := by
  have ex := Ext.new (o := ExT (.ref (k.cm cc)) d a) rw na
  refine ⟨ex, rw.new na, a, d, vf, rfl, rw.fresh na, n1, upd_same, ?_, rf.mono ex⟩
  rw [upd_ne (ne_of_none n2 na)]
  exact n2
theorem try_red {K : PySem.W.Frag} {cv : Value} {ib ih : IS} {ys ns : List Nat} {i : Nat} (hy : ∀ c ∈ ys, PySem.W.exmOne K (.ref (k.cm c)) cv = some true) (hn : ∀ c ∈ ns, PySem.W.exmOne K (.ref (k.cm c)) cv = some false) {σ : St}
    (h : tIS k C W (.tryx ib ys ns i ih) Dn σ H) : tIS k C (wT K cv i (tIS k C (fun _ _ _ _ => False) ih) W Dn) ib Dn σ H := by
  obtain ⟨w, τ, s, rs, rw, h⟩ := h
  refine ⟨w, τ, s, rs, rw, ?_⟩
  simp only [exec] at h
  cases e : exec C ib τ s with
  | nx τ1 s1 => rw [e] at h; exact h
  | rt d s1 => rw [e] at h; exact h
  | bk τ1 s1 => rw [e] at h; exact h
  | ct τ1 s1 => rw [e] at h; exact h
  | no => rw [e] at h; exact h
  | ex x τ1 s1 =>
    rw [e] at h
    rintro w' σ' cls dd H' e1 rw1 rs1 ⟨cc, f, d, vf, rfl, rfl, rfl, n1, n2, rf⟩
    simp only at h
    by_cases cy : ys.contains cc = true
    · rw [if_pos cy] at h
      refine ⟨true, hy cc (by simpa using cy), fun _ => ⟨d, rfl, fun a na => ?_⟩, fun z => by cases z⟩
      obtain ⟨ex, rw2, rd⟩ := rd_caught rw1 n1 n2 rf na
      refine ⟨w', τ1.set i (some (.exc cc f)), s1, (rs1.mono ex).set rd, rw2, ?_⟩
      have et := e1.trans ex
      cases g : exec C ih (τ1.set i (some (.exc cc f))) s1 with
      | nx τ2 s2 =>
        rw [g] at h
        intro w3 σ3 H3 e3 rw3 rs3
        exact h w3 (σ3.set i none) H3 (et.trans e3) rw3 rs3.del
      | rt d2 s2 =>
        rw [g] at h
        exact PostS.mono et h
      | bk τ2 s2 =>
        rw [g] at h
        intro w3 σ3 H3 e3 rw3 rs3
        exact h w3 (σ3.set i none) H3 (et.trans e3) rw3 rs3.del
      | ct τ2 s2 =>
        rw [g] at h
        intro w3 σ3 H3 e3 rw3 rs3
        exact h w3 (σ3.set i none) H3 (et.trans e3) rw3 rs3.del
      | ex _ _ _ => rw [g] at h; exact h.elim
      | no => rw [g] at h; exact h.elim
    · rw [if_neg cy] at h
      by_cases cn : ns.contains cc = true
      · rw [if_pos cn] at h
        exact ⟨false, hn cc (by simpa using cn), fun z => (by cases z), fun _ => h w' σ' _ _ H' e1 rw1 rs1 ⟨cc, f, d, vf, rfl, rfl, rfl, n1, n2, rf⟩⟩
      · rw [if_neg cn] at h; exact h.elim
end
theorem s_try {X : Cx} {k : Kx} {C : CallH} {W : WX} {x n : Str} {c : Value} {i : Nat} {body suite : List Stmt} {b₀ : Stmt} {np pos pos' : Pos} {ib ih : IS} {ys ns : List Nat} (hN : X.N.Nodup) (hc : Names X x c) (tk : Takes X W)
    (hy : ∀ c' ∈ ys, PySem.W.exmOne X.K (.ref (k.cm c')) c = some true) (hn : ∀ c' ∈ ns, PySem.W.exmOne X.K (.ref (k.cm c')) c = some false)
    (hb : ∀ (W : WX) (pn : List (Addr × Obj)) (xe : Value → Shared → Prop), Takes (X.tr pn xe) W → PassesOwn (model X.prog X.w) X.A X.env xe → SSs (X.tr pn xe) k C W body ib)
    (hsu : ∀ (a : Addr) (pn : List (Addr × Obj)), SSs (X.suite a pn) k C W0 (b₀ :: suite) ih)
    (hs : X.stack = X.env :: X.outer := by rfl) (hf : X.env.frame = some X.env.locals := by rfl) (hi : X.N[i]? = some n := by rfl) (hln : X.env.kindOf n = some .local := by rfl) :
    SS X k C W (.Try body [.ExceptHandler (some (.Name x np)) (some n) (b₀ :: suite) pos'] [] [] pos) (.tryx ib ys ns i ih) :=
  ps_imp (ps_try_T (tb := fun W => tIS k C W ib) (ts := tIS k C W0 ih) (Wout := W) hs hf hN hi hln hc tk hb hsu) fun D σ H h => try_red hy hn h

/-! ### an exception's making -/
/-- what __init__(self, f): self.f = f does -/
def spInit1 (K : PySem.W.Frag) (C : Addr) (f : Str) : Sp := fun vs H Q E => ∃ (a : Addr) (v : V), vs = [.ref a, v] ∧ OexC K C ∧ PySem.W.findIn K (.ref C) f = some none ∧ H a = some (exo a C none) ∧
  ∀ dx, H dx = none → dx ≠ a → Q .non (upd (upd H dx (exd dx [(f, v)])) a (exo a C (some dx)))
theorem init_ok {P : Program} {w : World} {K : PySem.W.Frag} {mg : Str → Option Value} {base : Heap} {qual f sf : Str} {st : Stmt} {fI C : Addr} {fd : FuncData} (F : Fun K "__init__" qual st fI fd) (Sc : FnScope [sf, f] [sf, f] (defScope st))
    (hb : ∀ (cdv : Value) (A : Around) (outer : List Env) (s : Shared) (H : Hp) (E : XK), PSs (cxOf (L2.CX P w) P w K mg base [sf, f] qual (defScope st) fI cdv A outer s H E) (defBody st) (tOst K f (tVar 0) (tVar 1))) :
    FnOk P w K mg base (L2.CX P w) 1 fI fd [sf, f] (spInit1 K C f) := by
  refine F.okX Sc (fun vs H Q E h => ?_) (fun cdv A outer s H vs Q E hr h => ⟨_, hb cdv A outer s H E, ?_⟩)
  · obtain ⟨a, v, rfl, _⟩ := h
    rfl
  · obtain ⟨a, v, rfl, T, no, ha, q⟩ := h
    exact ⟨_, rfl, _, rfl, a, C, rfl, T, no, .inl ⟨ha, q⟩⟩
theorem run_exc {T : Nat → Option FD} {n j c : Nat} {b : FD} {ds : List D} {G : List Cell} (ht : T j = some b) (hk : b.kind = .exc c) (h : run T n j ds G ≠ .no) : 2 ≤ n ∧ ∃ f, ds = [f] ∧ D.noC f = true ∧ run T n j ds G = .ok (.exc c f) G := by
  match n, h with
  | 0, h => exact absurd rfl h
  | 1, h => exact absurd (by simp only [run, ht, hk]; rfl) h
  | n + 2, h =>
    simp only [run, ht, hk] at h ⊢
    match ds, h with
    | [], h => exact absurd rfl h
    | _ :: _ :: _, h => exact absurd rfl h
    | [f], h =>
      by_cases cf : D.noC f = true
      · exact ⟨by omega, f, rfl, cf, by simp only [runX]; rw [if_pos cf]⟩
      · exact absurd (by simp only [runX]; rw [if_neg cf]) h
theorem made_x {k : Kx} {W : WX} {C : CallH} {n j c : Nat} {w : Wd} {H : Hp} {s : S} {σ : St} {ds : List D} {vs : List V} {α β : Type} {ρ : Wd → Hp → α → β → Prop} {Q : β → Hp → Prop} {f : D → S → R α} (hC : ∀ ds G, C j ds G ≠ .no → 2 ≤ n ∧ ∃ f, ds = [f] ∧ D.noC f = true ∧ C j ds G = .ok (.exc c f) G)
    (r : RDs k w H ds vs) (h : Post k (Wσ W σ) w H ρ ((if D.noCs ds then (match C j ds s.G with | .ok d _ => .ok d s | _ => .no) else .no : R D).bind f) Q) : 2 ≤ n ∧ ∃ x v, vs = [v] ∧ RD k w H x v ∧ Post k (Wσ W σ) w H ρ (f (.exc c x) s) Q := by
  by_cases hn : D.noCs ds = true
  · rw [if_pos hn] at h
    by_cases z : C j ds s.G = .no
    · rw [z] at h; exact h.elim
    obtain ⟨h2, x, rfl, hx, e⟩ := hC ds s.G z
    rw [e] at h
    obtain ⟨v, r', rfl, r1, e0⟩ := r
    cases e0
    exact ⟨h2, x, v, rfl, r1, h⟩
  · rw [if_neg hn] at h; exact h.elim
/-- raise C(e) -/
theorem s_raise {X : Cx} {k : Kx} {C : CallH} {W : WX} {n j c : Nat} {x f sf : Str} {e : Expr} {i : IE} {p pos pos' : Pos} {fI : Addr} {fd : FuncData} (hC : ∀ ds G, C j ds G ≠ .no → 2 ≤ n ∧ ∃ f, ds = [f] ∧ D.noC f = true ∧ C j ds G = .ok (.exc c f) G)
    (T : OexC X.K (k.cm c)) (iC : PySem.W.findIn X.K (.ref (k.cm c)) "__init__" = some (some (.ref fI))) (tI : PySem.W.typeIn X.K (.ref fI) = some (.type "function")) (no : PySem.W.findIn X.K (.ref (k.cm c)) (k.xf c) = some none)
    (F : FnOk X.prog X.w X.K X.mg X.base (L2.CX X.prog X.w) 1 fI fd [sf, f] (spInit1 X.K (k.cm c) (k.xf c))) (hb : Binds X.K fd [sf, f] []) (hm : X.mg x = some (.ref (k.cm c)))
    (hr : Room n X.A) (hc : X.calm = true) (tk : Takes X W) (ha : SA X k C W [e] i) (hg : Gl X x := by rfl) (hdb : (x == ("__debug__" : Str)) = false := by decide)
    (he : starEach [e] X.env = (false, eval e X.env) :: starEach [] X.env := by rfl) (hpl : (backTo pos (starEach [] X.env)).any (·.1) = false := by rfl) :
    SS X k C W (.Raise (some (.Call (.Name x p) [e] [] pos)) none pos') (.raise (.mk j i)) := by
  refine ⟨fun pins s σ H Dn I h => ?_⟩
  by_cases h2 : 2 ≤ n
  · refine (ps_raise (W := W) hc tk (pmk_oex (sp := spInit1 X.K (k.cm c) (k.xf c)) (ds := []) (dvs := []) (CX := L2.CX X.prog X.w) T iC tI F (hr.mono h2) hb .nil (fun pins σ H s e s' I q => (passes_call (E := fun _ _ _ => False) tk (fun _ _ _ _ z => z.elim)) pins σ H s e s' I q) hg hm ha hdb he hpl)).run pins s σ H Dn I ?_
    obtain ⟨w, τ, s0, rs, rw, h⟩ := h
    simp only [exec, ev] at h
    show tA k C W i σ H _
    have h' : PostS k W w H (((ev C i τ s0).calm.bind fun x s => match x with | .tup ds => if D.noCs ds then (match C j ds s.G with | .ok d _ => .ok d s | _ => .no) else .no | _ => .no).fl τ fun x s => Flow.ex x τ s) Dn := h
    have h1 : Post k (Wσ W σ) w H (RA k) (ev C i τ s0) (fun vs H1 => ∃ w1 d s1, Ext w H w1 H1 ∧ RW k w1 s1 H1 ∧ RA k w1 H1 d vs ∧ PostS k W w1 H1 ((match (generalizing := false) d with | .tup ds => if D.noCs ds then (match C j ds s1.G with | .ok d _ => .ok d s1 | _ => .no) else .no | _ => .no : R D).fl τ fun x s => Flow.ex x τ s) Dn) := by
      cases e1 : ev C i τ s0 with
      | no => rw [e1] at h'; exact h'.elim
      | ex y s1 => rw [e1] at h'; exact h'.elim
      | ok d s1 =>
        rw [e1] at h'
        exact fun w' b H' ee rw' r => ⟨w', d, s1, ee, rw', r, PostS.mono ee h'⟩
    refine ⟨w, τ, s0, rs, rw, h1.imp fun vs H1 ⟨w1, d, s1, e1, rw1, ⟨ds, ed, r1⟩, q⟩ => ?_⟩
    subst ed
    simp only at q
    by_cases hn : D.noCs ds = true
    · rw [if_pos hn] at q
      by_cases z : C j ds s1.G = .no
      · rw [z] at q; exact q.elim
      obtain ⟨_, x, rfl, hx, e⟩ := hC ds s1.G z
      rw [e] at q
      obtain ⟨v, r', rfl, r2, e0⟩ := r1
      cases e0
      refine ⟨(by show 1 ≤ 1000; decide), fun a na => ⟨a, v, rfl, T, no, upd_same, fun dx nd ne => ⟨rfl, dx, [(k.xf c, v)], upd_same, ?_, ?_, ?_⟩⟩⟩
      · rw [upd_ne ne, upd_same]
      · rw [upd_ne ne] at nd
        exact nd
      · rw [upd_ne ne] at nd
        have eH : upd (del (upd (upd (upd H1 a (exo a (k.cm c) none)) dx (exd dx [(k.xf c, v)])) a (exo a (k.cm c) (some dx))) a) dx (.xd [(k.xf c, v)]) = upd H1 dx (.xd [(k.xf c, v)]) := by
          funext b
          by_cases hb : b = dx
          · rw [hb, upd_same, upd_same]
          · rw [upd_ne hb, upd_ne hb]
            by_cases hba : b = a
            · rw [hba, del_same, na]
            · rw [del_ne hba, upd_ne hba, upd_ne hb, upd_ne hba]
        rw [eH]
        have ex := Ext.new (o := .xd [(k.xf c, v)]) rw1 nd
        exact q w1 σ (.ref (k.cm c)) (some dx) _ ex (rw1.new nd) ((rs.mono e1).mono ex) ⟨c, x, dx, v, rfl, rfl, rfl, rw1.fresh nd, upd_same, r2.mono ex⟩
    · rw [if_neg hn] at q; exact q.elim
  · refine (ps_never (X := X)).run pins s σ H Dn I ?_
    obtain ⟨w, τ, s0, rs, rw, h⟩ := h
    simp only [exec, ev] at h
    cases e1 : ev C i τ s0 with
    | no => rw [e1] at h; exact h.elim
    | ex y s1 => rw [e1] at h; exact h.elim
    | ok d s1 =>
      rw [e1] at h
      cases d <;> first | (exact h.elim; done) | skip
      rename_i ds
      simp only [R.calm, R.bind] at h
      by_cases hn : D.noCs ds = true
      · rw [if_pos hn] at h
        by_cases z : C j ds s1.G = .no
        · rw [z] at h; exact h.elim
        exact absurd (hC ds s1.G z).1 h2
      · rw [if_neg hn] at h; exact h.elim

/-! ### an exception's field -/
theorem se_fld {X : Cx} {k : Kx} {C : CallH} {W : WX} {e : Expr} {i : IE} {f : Str} {ys : List Nat} {pos : Pos} (hT : ∀ c ∈ ys, XfC X.K (k.cm c) ∧ PySem.W.findIn X.K (.ref (k.cm c)) f = some none ∧ k.xf c = f) (he : SE X k C W e i)
    (hb : attributeBase e f X.env (eval e X.env) = eval e X.env := by rfl) : SE X k C W (.Attribute e f pos) (.fld i ys) := by
  refine ⟨fun pins s σ H Q I ⟨w, τ, s', rs, rw, h⟩ => ?_⟩
  simp only [ev] at h
  refine attr_of hb (thn (he.run pins s σ H _ I ⟨w, τ, s', rs, rw, h.bind⟩) fun u s1 ⟨v, H1, I1, rv, w1, d1, s2, e1, rw1, r1, h1⟩ => ?_)
  cases d1 <;> first | (exact h1.elim; done) | skip
  rename_i c fD
  simp only at h1
  by_cases cy : ys.contains c = true
  · rw [if_pos cy] at h1
    obtain ⟨T, no, rfl⟩ := hT c (by simpa using cy)
    obtain ⟨a, d, vf, rfl, n1, n2, h2, h3, rf⟩ := r1
    cases rv
    have hx : ObjOk X.prog X.w H1 s1.heap a (ExT (.ref (k.cm c)) d a) := I1.hok a _ h2
    obtain ⟨⟨oe, vs, ho, hz, hd⟩, _, _⟩ := hx
    have hy : ObjOk X.prog X.w H1 s1.heap d (.xd [(k.xf c, vf)]) := I1.hok d _ h3
    obtain ⟨mA, hns, hr⟩ := hy
    obtain ⟨od, hod, hl⟩ := lookIn_ns hns
    obtain ⟨u, hu, ru⟩ := RelO.some_of (v := vf) (o := mA (k.xf c)) (by have := hr (k.xf c); simpa [List.lookup] using this)
    have J : PySem.W.InstAt s1.heap a oe (k.cm c) (some od) := ⟨ho, hz.1, by unfold PySem.W.notCls; rw [hd] <;> rfl, by rw [hz.2]; exact hod⟩
    exact HandSPX.exc_get I1.kIn J T.ga T.gg T.exC (PySem.W.findObj_own T.hdC no rfl (by rw [hl, hu])) (handed_of ru) ⟨vf, H1, I1.tok _, ru, h1.here rw1 rf⟩
  · rw [if_neg cy] at h1; exact h1.elim
end DI

/-! isinstance of own classes; defs as values, called; the facts of an exception class. -/
namespace DI
open PySem PySem.Spec L2
section
variable {X : Cx} {k : Kx} {C : CallH} {W : WX}
/-- what isinstance asks of an exception class -/
structure IsC (K : PySem.W.Frag) (A : Addr) : Prop where
  cl : (PySem.W.clsIn K A).isSome = true
  ga : PySem.W.findIn K (.ref A) "__getattribute__" = some (some (.builtin "BaseException.__getattribute__"))
  gg : PySem.W.findIn K (.ref A) "__getattr__" = some none
  sb : PySem.W.subIn K (.ref A) (.type "BaseException") = some true
  ha : PySem.W.findIn K (.ref A) "__class__" = some (some (.builtin "object.__class__"))
  hn : PySem.W.specialIn K (.builtin "object.__class__") "__get__" = some (some (.builtin "getset_descriptor.__get__"))
  ht : PySem.W.takesIn K (.builtin "object.__class__") = some true
  hm : PySem.W.mroIn K A (.type "object") = some true
theorem cr_isE : CallR X (.builtin "isinstance") (fun xs H Q => ∃ (a d A : Addr) (c : V) (cv : Value) (b : Bool) (fs : List (Str × V)), xs = [.ref a, c] ∧ H a = some (ExT (.ref A) d a) ∧ H d = some (.xd fs) ∧ IsC X.K A ∧ (∀ u, RelV c u → u = cv) ∧ PySem.W.kitOne X.K (.ref A) cv = some b ∧ Q (.bl b) H) := by
  intro pins s σ H xs us Q I r h
  obtain ⟨a, d, A, c, cv, b, fs, rfl, ha, hd, T, hcv, e, q⟩ := h
  cases r with
  | cons rx rr =>
    cases rr with
    | cons rt rr =>
      cases rr
      cases rx
      have ec := hcv _ rt
      subst ec
      have hx : ObjOk X.prog X.w H s.heap a (ExT (.ref A) d a) := I.hok a _ ha
      obtain ⟨⟨oe, vs, ho, hz, hv⟩, _, _⟩ := hx
      have hy : ObjOk X.prog X.w H s.heap d (.xd fs) := I.hok d _ hd
      obtain ⟨mA, hns, hr⟩ := hy
      obtain ⟨od, hod, hl⟩ := lookIn_ns hns
      have J : PySem.W.InstAt s.heap a oe A (some od) := ⟨ho, hz.1, by unfold PySem.W.notCls; rw [hv] <;> rfl, by rw [hz.2]; exact hod⟩
      exact PySem.W.kia_one (PySem.W.kitx_exc T.cl T.ga T.gg T.sb T.ha T.hn T.ht T.hm) I.kIn J e (fun z => nomatch z) fun tk => ⟨.bl b, H, I.kept (t' := tk) fun _ _ z => z, rfl, q⟩
/-- a class's name as an argument -/
theorem pe_clsG {x : Str} {A : Addr} {p : Pos} (hm : X.mg x = some (.ref A)) (hg : Gl X x := by rfl) (hn : (x == ("__debug__" : Str)) = false := by decide) : PE X (.Name x p) (fun σ H Q => Q (.ref A) H) := pe_imp (pe_glob (v := .ref A) hg hm rfl hn) fun σ H Q h => h
theorem pe_clsB {x : Str} {t : String} {p : Pos} (hm : X.mg x = none) (hv : bootBuiltins x = some (.type t)) (hg : Gl X x := by rfl) (hnn : x ≠ "__name__" := by decide) (hn : (x == ("__debug__" : Str)) = false := by decide) : PE X (.Name x p) (fun σ H Q => Q (.ty t) H) := pe_imp (pe_bltn (v := .ty _) hg hm hv rfl hnn hn) fun σ H Q h => h
def tyNames : List String := ["NoneType", "bool", "int", "str", "tuple", "list"]
theorem tyN_mem (d : D) : d.tyN ∈ tyNames := by
  unfold tyNames D.tyN
  cases d <;> simp
theorem se_isx {cV : V} {cv : Value} {e ce : Expr} {i : IE} {ys ns : List Nat} {p pos : Pos} (hk : k.K = X.K) (ha : SE X k C W e i) (hT : PE X ce (fun σ H Q => Q cV H)) (hV : ClsV cV cv) (hcv : ∀ u, RelV cV u → u = cv) (hm : X.mg "isinstance" = none)
    (hy : ∀ c ∈ ys, IsC X.K (k.cm c) ∧ PySem.W.kitOne X.K (.ref (k.cm c)) cv = some true) (hn : ∀ c ∈ ns, IsC X.K (k.cm c) ∧ PySem.W.kitOne X.K (.ref (k.cm c)) cv = some false) (hb : ∀ T ∈ tyNames, PySem.W.kitOne X.K (.type T) cv = some false)
    (hg : Gl X "isinstance" := by rfl) (he2 : starEach [ce] X.env = (false, eval ce X.env) :: starEach [] X.env := by rfl) (he : starEach [e, ce] X.env = (false, eval e X.env) :: starEach [ce] X.env := by rfl) (hpl : (backTo pos (starEach [ce] X.env)).any (·.1) = false := by rfl) :
    SE X k C W (.Call (.Name "isinstance" p) [e, ce] [] pos) (.blt (.isx ys ns) (.cons i .nil)) := pe_imp (pe_callB (id := "isinstance") (call_isi.or cr_isE) hg hm PyProof.Rows.boot_isinstance (pa_cons ha (pa_cons hT pa_nil he2) he) (by decide) (by decide) he hpl) fun σ H Q ⟨w, τ, s, rs, rw, h⟩ => by
  simp only [ev] at h
  have h2 : Post k (Wσ W σ) w H (RD k) ((ev C i τ s).bind fun d s => bltD (.isx ys ns) [d] s) Q := by
    cases e1 : ev C i τ s with
    | no => rw [e1] at h; exact h
    | ex y s' => rw [e1] at h; exact h
    | ok d s' => rw [e1] at h; exact h
  refine ⟨w, τ, s, rs, rw, h2.bind.imp fun v H1 ⟨w1, d1, s1, e1, rw1, r1, h1⟩ => ?_⟩
  simp only [bltD, one] at h1
  by_cases ht : d1.tyd = true
  · have h1 : Post k (Wσ W σ) w1 H1 (RD k) (.ok (.bl false) s1) Q := by
      cases d1 <;> first | (cases ht; done) | (simp only at h1; rw [if_pos ht] at h1; exact h1)
    exact .inl ⟨v, cV, .type d1.tyN, cv, false, rfl, hV, by rw [← hk]; exact ty_ok rw1 r1 ht, hb _ (tyN_mem d1), h1.here rw1 rfl⟩
  · cases d1 <;> first | (exact absurd rfl ht; done) | skip
    all_goals simp only at h1
    case exc c f =>
      obtain ⟨a, d, vf, rfl, n1, n2, h3, h4, rf⟩ := r1
      by_cases cy : ys.contains c = true
      · rw [if_pos cy] at h1
        obtain ⟨T, kt⟩ := hy c (by simpa using cy)
        exact .inr ⟨a, d, k.cm c, cV, cv, true, _, rfl, h3, h4, T, hcv, kt, h1.here rw1 rfl⟩
      · rw [if_neg cy] at h1
        by_cases cn : ns.contains c = true
        · rw [if_pos cn] at h1
          obtain ⟨T, kt⟩ := hn c (by simpa using cn)
          exact .inr ⟨a, d, k.cm c, cV, cv, false, _, rfl, h3, h4, T, hcv, kt, h1.here rw1 rfl⟩
        · rw [if_neg cn] at h1; exact h1.elim
    all_goals (rw [if_neg ht] at h1; exact h1.elim)

/-! ### defs as values -/
theorem se_fnv {x : Str} {i : Nat} {f : Addr} {p : Pos} (hm : X.mg x = some (.ref f)) (hf : k.fm i = f) (hg : Gl X x := by rfl) (hn : (x == ("__debug__" : Str)) = false := by decide) : SE X k C W (.Name x p) (.lit (.fn i)) := se_glob (v := .ref f) hm rfl (fun _ _ => by rw [← hf]; exact rfl) hg hn
/-- a def that may be called as a value -/
structure FnV (X : Cx) (k : Kx) (C : CallH) (n np f : Nat) : Prop where
  ex : ∃ (fd : FuncData) (ps : List Str), FnOk X.prog X.w X.K X.mg X.base (L2.CX X.prog X.w) n (k.fm f) fd ps (spI k C np f) ∧ PySem.W.keepIn X.K (.ref (k.fm f)) = true ∧ Binds X.K fd ps []
theorem se_callv {n np : Nat} {fs : List Nat} {fe e : Expr} {es : List Expr} {i j : IE} {pos : Pos} (hF : ∀ f ∈ fs, FnV X k C n np f) (hr : Room n X.A) (tk : Takes X W) (hf : SE X k C W fe j) (ha : SA X k C W (e :: es) i) (hc : i.argc = np := by rfl) (hi : i.isArgs = true := by rfl)
    (hev : eval (.Call fe (e :: es) [] pos) X.env = (do callWith pos (← eval fe X.env) [] (backTo pos (starEach (e :: es) X.env)) (backToKw pos (keywordEach [] X.env))) := by rfl)
    (he : starEach (e :: es) X.env = (false, eval e X.env) :: starEach es X.env := by rfl) (hpl : (backTo pos (starEach es X.env)).any (·.1) = false := by rfl) : SE X k C W (.Call fe (e :: es) [] pos) (.callv fs j i) := by
  refine ⟨fun pins s σ H Q I ⟨w, τ, s', rs, rw, h⟩ => ?_⟩
  simp only [ev] at h
  rw [hev]
  refine wpAny_bind (thn (hf.run pins s σ H _ I ⟨w, τ, s', rs, rw, h.bind⟩) fun u s1 ⟨v, H1, I1, rv, w1, d1, s2, e1, rw1, r1, h1⟩ => ?_)
  cases d1 <;> first | (exact h1.elim; done) | skip
  rename_i f
  simp only at h1
  by_cases cf : fs.contains f = true
  · rw [if_pos cf] at h1
    obtain ⟨fd, ps, F, hk, hb⟩ := (hF f (by simpa using cf)).ex
    cases r1
    cases rv
    have h2 : Post k (Wσ W σ) w1 H1 (RA k) (ev C i τ s2) (fun vs H1 => spI k C np f vs H1 Q (WE W σ)) :=
      RA.argc hi ((post_argc hi h1).imp fun vs H1 ⟨w1, ds, s1, e1, rw1, r1, hl, h1⟩ => callD_ok (hl.trans hc) rw1 r1 h1)
    refine PySem.W.callWith_K (h₀ := X.base) I.ok.mod.kin hk (thn (ha.run pos pins s1 σ H1 _ I1 ⟨w1, τ, s2, rs.mono e1, rw1, h2⟩) fun us s3 ⟨vs, H2, I2, r2, q2⟩ => ⟨I2.kIn, ?_⟩) he hpl
    exact run_fnSD (us := us) (vs := vs) (dvs := []) (ds := []) (E := WE W) F hr hb .nil (passAt tk σ) I2 r2 (by rw [List.append_nil]; exact q2)
  · rw [if_neg cf] at h1; exact h1.elim
end
end DI

/-! The facts of an exception class; words for printed derivations. -/
namespace DI
open PySem PySem.Spec L2
structure ExcT (K : PySem.W.Frag) (mg : Str → Option Value) (k : Kx) (c : Nat) (x f sf qual : Str) (st : Stmt) (fI : Addr) (fd : FuncData) : Prop where
  gC : mg x = some (.ref (k.cm c))
  nf : k.xf c = f
  oe : OexC K (k.cm c)
  iC : PySem.W.findIn K (.ref (k.cm c)) "__init__" = some (some (.ref fI))
  tI : PySem.W.typeIn K (.ref fI) = some (.type "function")
  no : PySem.W.findIn K (.ref (k.cm c)) f = some none
  xf : XfC K (k.cm c)
  is : IsC K (k.cm c)
  fn : Fun K "__init__" qual st fI fd
  bd : Binds K fd [sf, f] []
section
variable {X : Cx} {k : Kx} {C : CallH} {W : WX}
theorem s_raiseT {n j c : Nat} {x f sf qual : Str} {st : Stmt} {T : Nat → Option FD} {b : FD} {e : Expr} {i : IE} {p pos pos' : Pos} {fI : Addr} {fd : FuncData} (t : ExcT X.K X.mg k c x f sf qual st fI fd) (ht : T j = some b) (hkd : b.kind = .exc c) (Sc : FnScope [sf, f] [sf, f] (defScope st))
    (hbody : ∀ (cdv : Value) (A : Around) (outer : List Env) (s : Shared) (H : Hp) (E : XK), PSs (cxOf (L2.CX X.prog X.w) X.prog X.w X.K X.mg X.base [sf, f] qual (defScope st) fI cdv A outer s H E) (defBody st) (tOst X.K f (tVar 0) (tVar 1)))
    (hr : Room n X.A) (hc : X.calm = true) (tk : Takes X W) (ha : SA X k (run T n) W [e] i) (hg : Gl X x := by rfl) (hdb : (x == ("__debug__" : Str)) = false := by decide)
    (he : starEach [e] X.env = (false, eval e X.env) :: starEach [] X.env := by rfl) (hpl : (backTo pos (starEach [] X.env)).any (·.1) = false := by rfl) :
    SS X k (run T n) W (.Raise (some (.Call (.Name x p) [e] [] pos)) none pos') (.raise (.mk j i)) := by
  have F := init_ok (C := k.cm c) t.fn Sc hbody
  have nf := t.nf
  subst nf
  exact s_raise (fun ds G z => run_exc ht hkd z) t.oe t.iC t.tI t.no F t.bd t.gC hr hc tk ha hg hdb he hpl
theorem fnV_of {n np f : Nat} {fa : Addr} {fd : FuncData} {ps : List Str} (h : k.fm f = fa) (F : FnOk X.prog X.w X.K X.mg X.base (L2.CX X.prog X.w) n fa fd ps (spI k C np f)) (kp : PySem.W.keepIn X.K (.ref fa) = true) (b : Binds X.K fd ps []) : FnV X k C n np f := by
  subst h
  exact ⟨⟨fd, ps, F, kp, b⟩⟩
end
/-- the making of ExcT from what the head tells -/
theorem ExcT.mk' {K : PySem.W.Frag} {h : Heap} {mg : Str → Option Value} {k : Kx} {c : Nat} {x f sf qual : Str} {st : Stmt} {C fI : Addr} (X : K.In h) (G : h.Ns mainGlobals mg) (hC : k.cm c = C) (nf : k.xf c = f)
    {nm q : Str} {N : Addr} {bs bm : List Value} {sn : List Str} {sub : List Value} {ab : Bool} {col : Option Bool} {dd : Option Addr} {m0 m1 m2 m3 m5 : Option Value}
    {od1 an1 : Option Addr} {sl1 : Array (Option Value)} {oc1 kV1 dc1 pm1 cd1 ct1 : Value}
    (aC : PySem.W.nsIn K mainGlobals x = some (some (.ref C)))
    (xL : K.lookup C = some (excClassObj nm q C N bs bm true sn sub ab col dd m0 m1 m2 m3 m5 "ValueError.__new__")) (hbm : PySem.HandSPX.refsVE bm = true)
    (sa : PySem.W.findIn K (.ref C) "__setattr__" = some (some (.builtin "object.__setattr__"))) (ga : PySem.W.findIn K (.ref C) "__getattribute__" = some (some (.builtin "BaseException.__getattribute__"))) (gg : PySem.W.findIn K (.ref C) "__getattr__" = some none) (nb : PySem.W.findIn K (.ref C) f = some none)
    (ha : PySem.W.findIn K (.ref C) "__class__" = some (some (.builtin "object.__class__"))) (hn : PySem.W.specialIn K (.builtin "object.__class__") "__get__" = some (some (.builtin "getset_descriptor.__get__"))) (ht : PySem.W.takesIn K (.builtin "object.__class__") = some true) (hm : PySem.W.mroIn K C (.type "object") = some true)
    (a1 : PySem.W.findIn K (.ref C) "__init__" = some (some (.ref fI))) (t1 : PySem.W.typeIn K (.ref fI) = some (.type "function"))
    (l1 : K.lookup fI = some ⟨oc1, od1, .func (PySem.W.fnOf "__init__" qual (defArgs st) (defBody st) (defScope st) .none kV1 dc1 pm1 an1 cd1 ct1), sl1⟩) (c1 : PySem.W.codeIn K cd1 qual = true) (k1 : PySem.W.keepIn K (.ref fI) = true)
    (kC : PySem.W.keepIn K (.ref C) = true) (eC : PySem.W.subIn K (.ref C) (.type "BaseException") = some true) (tC : PySem.W.typeIn K (.ref C) = some (.type "type")) (dC : PySem.W.hasDictIn K C = true) (iC : (PySem.W.clsIn K C).isSome = true)
    (hb : ∀ (kV doc pm : Value) (an : Option Addr) (cdv ct : Value) (us : List Value), us.length = ([sf, f] : List Str).length → bindArgs (PySem.W.fnOf "__init__" qual (defArgs st) (defBody st) (defScope st) .none kV doc pm an cdv ct) ⟨us, []⟩ = pure ([sf, f].zip us)) :
    ExcT K mg k c x f sf qual st fI (PySem.W.fnOf "__init__" qual (defArgs st) (defBody st) (defScope st) .none kV1 dc1 pm1 an1 cd1 ct1) := by
  subst hC
  have F := fun_mk (st := st) l1 c1 k1
  exact ⟨PySem.W.mg_of X G aC, nf, ⟨⟨nm, q, N, bs, bm, sn, sub, ab, col, dd, m0, m1, m2, m3, m5, xL, hbm⟩, sa, eC, tC, kC⟩, a1, t1, nb, ⟨ga, gg, eC, dC⟩, ⟨iC, ga, gg, eC, ha, hn, ht, hm⟩, F, F.binds (ps := [sf, f]) hb⟩
end DI

/-! Own exceptions made with keywords: the machine's part. -/
namespace PySem
namespace HandSPX
open PySem.W PySem.Calls PyProof.Rows
section
variable {M : Model} {A : Around} {E : Value → Shared → Prop} {h : Heap} {g : Array GenState} {d : Drawn} {t : Nat} {os : OsState}
variable {nm q : Str} {C N : Addr} {bs bm bmB : List Value} {hdct : Bool} {sn : List Str} {sub : List Value} {ab : Bool} {col : Option Bool} {dd : Option Addr} {k0 k1 k2 k3 k5 : Option Value} {B newId initId : String}
theorem check_new_ownK (F : ExcBaseFacts B newId initId bmB) (hT : ∀ X : String, bm.contains (.type X) = bmB.contains (.type X)) {rest : List Value} {kw : List (Str × Value)} {Q : Unit → Shared → Prop}
    (hC : h.get? C = some (excClassObj nm q C N bs bm hdct sn sub ab col dd k0 k1 k2 k3 k5 newId)) (hq : Q () ⟨h, g, d, t, os⟩) : wpAny M A (checkBuiltinCall newId ⟨.ref C :: rest, kw⟩) Q E ⟨h, g, d, t, os⟩ := by
  have hcont : (Value.ref C :: bm).contains (.type B) = true := by rw [List.contains_cons, hT, F.hasB, Bool.or_true]
  have hstar := F.noStar
  simp only [checkBuiltinCall, F.newKind, F.newSplit, F.newRow]
  repeat (first | refine wpAny_loadPart_at hC ?_ | (refine wpAny_isSubtype_exc hC ?_; rw [hcont]) | refine wpAny_staticBase_exc hC ?_ | refine wpAny_madeBy_exc hC ?_ | simp only [bne_self_eq_false, Bool.false_eq_true, if_false] | wp_step)
  exact hq
end
section
variable {prog : Program} {w : World} {A : Around} {E : Value → Shared → Prop} {R : Result → Shared → Prop} {h : Heap} {g : Array GenState} {d : Drawn} {t : Nat} {os : OsState}
variable {nm q : Str} {C N : Addr} {bs bm bmB : List Value} {hdct : Bool} {sn : List Str} {sub : List Value} {ab : Bool} {col : Option Bool} {dd : Option Addr} {k0 k1 k2 k3 k5 : Option Value} {B newId initId : String}
theorem new_ownK (F : ExcBaseFacts B newId initId bmB) (hT : ∀ X : String, bm.contains (.type X) = bmB.contains (.type X)) {rest : List Value} {kw : List (Str × Value)}
    (hC : h.get? C = some (excClassObj nm q C N bs bm hdct sn sub ab col dd k0 k1 k2 k3 k5 newId))
    (hq : R (.ok (.ret (.ref (h.objs.size + 1)))) ⟨(h.push { cls := .type "tuple", data := .seq rest.toArray }).push
      { cls := .ref C, data := .fields #[.ref h.objs.size, .none, .none, .none, .bool false, .none] }, g, d, t, os⟩) (hrest : rest.length ≤ sizeLine) :
    codeAny (model prog w) A (.builtin newId ⟨.ref C :: rest, kw⟩) R ⟨h, g, d, t, os⟩ := by
  have hends := F.ends
  have hcB : (Value.ref C :: bm).contains (.type B) = true := by rw [List.contains_cons, hT, F.hasB, Bool.or_true]
  have hcA : (Value.ref C :: bm).contains (.type "AttributeError") = false := by rw [List.contains_cons, hT, F.noAttr]; rfl
  have hcN : (Value.ref C :: bm).contains (.type "NameError") = false := by rw [List.contains_cons, hT, F.noName]; rfl
  refine codeAny_builtinAt F.entry ?_
  unfold Builtin.«BaseException.__new__»
  refine wpAt_bind ?_
  show wpAt _ _ _ (stack >>= _) _ _ _
  refine wpAt_bind (wpAt_stack fun p below => wpAt_of_wpAny ?_)
  wp_walk
  refine wpAt_of_wpAny ?_
  rw [F.owner]
  repeat (first | with_reducible refine wpAny_madeHere_exc F.canon hC ?_ | with_reducible refine wpAny_loadPart_at hC ?_ | (with_reducible refine wpAny_isSubtype_exc hC ?_; first | rw [hcB] | rw [hcA] | rw [hcN]) | wp_step)
  show R _ _
  rw [Heap.size_push]
  exact hq
theorem type_call_ownK (F : ExcBaseFacts B newId initId bmB) (hT : ∀ X : String, bm.contains (.type X) = bmB.contains (.type X)) {rest : List Value} {kw : List (Str × Value)} {fI : Addr} {Q : Fin → Shared → Prop}
    (hC : h.get? C = some (excClassObj nm q C N bs bm hdct sn sub ab col dd k0 k1 k2 k3 k5 newId))
    (hi : W.Looks (model prog w) h (typeLookup (.ref C) "__init__") (some (.ref fI))) (hb : ∀ self, W.Looks (model prog w) h (bindSpecial (.ref fI) self) (.ref fI, [self])) (hrest : rest.length ≤ sizeLine)
    (hq : codeAny (model prog w) A (.call (.ref fI) ⟨.ref (h.objs.size + 1) :: rest, kw⟩)
      (fun r s' => match r with | .ok (.ret v) => v = .none ∧ Q (.done (.ret (.ref (h.objs.size + 1)))) s' | .ok _ => False | .error e => E e s')
      ⟨(h.push (W.kdv_tup rest)).push (excO C h.objs.size), g, d, t, os⟩) :
    wpAny (model prog w) A (Builtin.«type.__call__» ⟨.ref C :: rest, kw⟩) Q E ⟨h, g, d, t, os⟩ := by
  repeat (first | with_reducible refine wpAny_loadPart_at hC ?_ | with_reducible refine wpAny_madeBy_exc hC ?_ | wp_step)
  refine codeAny_call_builtin_code (Code.quiet_builtin _ F.quiet) (check_new_ownK F hT hC ?_)
  refine new_ownK F hT hC ?_ hrest
  show wpAny _ _ _ _ _ _
  have k : ∀ b o, h.get? b = some o → ((h.push (W.kdv_tup rest)).push (excO C h.objs.size)).get? b = some o := fun b o e => Heap.get?_push_of_some _ (Heap.get?_push_of_some _ e)
  have hC₁ := k _ _ hC
  have hget : ((h.push (W.kdv_tup rest)).push (excO C h.objs.size)).get? (h.objs.size + 1) = some (excO C h.objs.size) := by heap_get
  have hcC : (Value.ref C :: bm).contains (.ref C) = true := by simp
  have i1 := hi.keeps k
  have b1 := (hb (.ref (h.objs.size + 1))).keeps k
  unfold isInstance
  repeat (first | with_reducible refine wpAny_loadPart_at hget ?_ | (with_reducible refine wpAny_isSubtype_exc hC₁ ?_; rw [hcC]) | wp_step)
  show wpAny _ _ (typeLookup (.ref C) _) _ _ _
  refine i1.at ?_
  refine wpAny_holding (wpAny_bind (b1.at ?_))
  refine wpAny_bind (wpAny_call (codeAny_mono hq fun r s' z => ?_))
  rcases r with e | (v | _ | _ | _) <;> first | exact z | exact z.elim | skip
  obtain ⟨rfl, z⟩ := z
  first
    | exact wpAny_pure (wpAny_pure z)
    | (wp_walk; exact z)
theorem call_ownK (F : ExcBaseFacts B newId initId bmB) (hT : ∀ X : String, bm.contains (.type X) = bmB.contains (.type X)) {rest : List Value} {kw : List (Str × Value)} {fI : Addr}
    (hC : h.get? C = some (excClassObj nm q C N bs bm hdct sn sub ab col dd k0 k1 k2 k3 k5 newId))
    (hi : W.Looks (model prog w) h (typeLookup (.ref C) "__init__") (some (.ref fI))) (hb : ∀ self, W.Looks (model prog w) h (bindSpecial (.ref fI) self) (.ref fI, [self])) (hrest : rest.length ≤ sizeLine)
    (hq : codeAny (model prog w) (A.under (.builtin "type.__call__" ⟨.ref C :: rest, kw⟩)) (.call (.ref fI) ⟨.ref (h.objs.size + 1) :: rest, kw⟩) (W.InitBack (h.objs.size + 1) R)
      ⟨(h.push (W.kdv_tup rest)).push (excO C h.objs.size), g, d, t, os⟩) :
    codeAny (model prog w) A (.call (.ref C) ⟨rest, kw⟩) R ⟨h, g, d, t, os⟩ := by
  have f1 := tc_lookup
  have f2 := tc_bind (.ref C)
  have hTy : (⟨h, g, d, t, os⟩ : Shared).TypeIs (.ref C) "type" := ⟨_, hC, rfl⟩
  refine codeAny_of_tree ?_
  show wpAny _ _ (callAny (.ref C) _) _ _ _
  repeat (any_goals (first | assumption | with_reducible refine wpAny_loadPart_at hC ?_ | wp_step))
  refine ⟨rfl, ?_⟩
  refine codeAny_call_builtin_at (Code.quiet_builtin _ (by decide +kernel)) entry_typeCall (wpAny_check_type_call_sub hC (type_call_ownK F hT hC hi hb hrest ?_))
  refine codeAny_mono hq fun r s' z => ?_
  rcases r with e | (v | _ | _ | _) <;> exact z
end
end HandSPX
end PySem

/-! Own exceptions made as values; raised without a value. -/
namespace DI
open PySem PySem.Spec L2
section
variable {X : Cx} {pins : List (Addr × Obj)} {σ : St}
/-- an exception made stands for a value from here on -/
theorem retrack {H : Hp} {s : Shared} {a C d : Addr} {fs : List (Str × V)} (I : Inv X pins σ H s) (ea : H a = some (exo a C (some d))) (ed : H d = some (exd d fs)) (ne : d ≠ a) : Inv X pins σ (upd (upd H d (.xd fs)) a (ExT (.ref C) d a)) s := by
  obtain ⟨t1, ho⟩ := exo_at I.hok ea
  obtain ⟨mA, hns, rel⟩ := exd_at I.hok ed
  obtain ⟨hp, g, dr, t, os⟩ := s
  have hd : ∃ o, hp.get? d = some o := by
    obtain ⟨o, _, _, e', _⟩ := hns
    exact ⟨o, e'⟩
  have I1 : Inv X pins σ (upd H d (.xd fs)) ⟨hp, g, dr, t, os⟩ := I.write (t' := t) (x := d) (e := d) (o := .xd fs) (by rw [ed]; exact True.intro) (.inl rfl) (fun _ _ _ h => h) hd (show ObjOk X.prog X.w _ hp d (.xd fs) from ⟨mA, hns, rel⟩)
  exact I1.write (t' := t) (x := a) (e := a) (o := ExT (.ref C) d a) (by rw [upd_ne (Ne.symm ne), ea]; exact True.intro) (.inl rfl) (fun _ _ _ h => h) ⟨_, ho⟩ (extT_ok ho ⟨rfl, rfl⟩ rfl)
theorem run_oex {CX : CXT} {H1 : Hp} {s1 : Shared} {Q : VK} {us us' : List Value} {kw : List (Str × Value)} {vs : List V} {C fI : Addr} {k : Nat} {fd : FuncData} {ps : List Str} {sp : Sp} (T : OexC X.K C) (iC : PySem.W.findIn X.K (.ref C) "__init__" = some (some (.ref fI))) (tI : PySem.W.typeIn X.K (.ref fI) = some (.type "function"))
    (F1 : FnOk X.prog X.w X.K X.mg X.base CX k fI fd ps sp) (hr : Room (k + 1) X.A) (hx : Passes CX X (fun _ _ _ => False)) (I1 : Inv X pins σ H1 s1) (hus : us.length ≤ 1000) (r : Vals vs us') (hbt : ∀ (s : Shared) (self : Value), X.K.In s.heap → BindsTo s fd ⟨self :: us, kw⟩ (ps.zip (self :: us')))
    (h : ∀ a, H1 a = none → sp (.ref a :: vs) (upd H1 a (exo a C none)) (fun v H2 => v = .non ∧ ∃ (d : Addr) (fs : List (Str × V)), H2 a = some (exo a C (some d)) ∧ H2 d = some (exd d fs) ∧ d ≠ a ∧ Q (.ref a) (upd (upd H2 d (.xd fs)) a (ExT (.ref C) d a))) (fun _ _ _ => False)) :
    wpAny (model X.prog X.w) X.A (call (.ref C) us kw) (EP X pins σ Q) X.xe s1 := by
  obtain ⟨nm, q, N, bs, bm, sn, sub, ab, col, dd, k0, k1, k2, k3, k5, hC, hbm⟩ := T.cls
  obtain ⟨hp, g, dr, tk, os⟩ := s1
  have hsz : hp.objs.size ≤ hp.objs.size + 1 := Nat.le_succ _
  have hn : H1 (hp.objs.size + 1) = none := I1.hok.fresh hsz
  have hq := h (hp.objs.size + 1) hn
  have kk : ∀ b o, hp.get? b = some o → ((hp.push (PySem.W.kdv_tup us)).push (PySem.HandSPX.excO C hp.objs.size)).get? b = some o := fun b o e => Heap.get?_push_of_some _ (Heap.get?_push_of_some _ e)
  have hget : ((hp.push (PySem.W.kdv_tup us)).push (PySem.HandSPX.excO C hp.objs.size)).get? (hp.objs.size + 1) = some (PySem.HandSPX.excO C hp.objs.size) := by heap_get
  have I2 : Inv X pins σ (upd H1 (hp.objs.size + 1) (exo (hp.objs.size + 1) C none)) ⟨(hp.push (PySem.W.kdv_tup us)).push (PySem.HandSPX.excO C hp.objs.size), g, dr, tk, os⟩ :=
    I1.laid (t' := tk) (a := hp.objs.size + 1) (o := exo (hp.objs.size + 1) C none) (h' := (hp.push (PySem.W.kdv_tup us)).push (PySem.HandSPX.excO C hp.objs.size)) kk hsz (exo_ok hget)
  have r2 : Vals (V.ref (hp.objs.size + 1) :: vs) (Value.ref (hp.objs.size + 1) :: us') := .cons rfl r
  have hl : us.length ≤ sizeLine := by rw [sizeLine_eq]; omega
  refine wpAny_call (PySem.HandSPX.call_ownK F.excBase_ValueError (fun Y => PySem.HandSPX.refsVE_contains Y bm hbm) (I1.kIn _ _ hC) (PySem.W.looks_findIn I1.kIn iC) (fun self => PySem.W.bind_fn I1.kIn self tI) hl
    (codeAny_mono (F1.run _ X.stack _ _ ⟨Value.ref (hp.objs.size + 1) :: us, kw⟩ (Value.ref (hp.objs.size + 1) :: us') _ _ (fun _ _ _ => False) (hr.make C us kw) (I2.env0.make C us kw) (hbt _ _ I2.kIn) r2 hq) fun r s' hq' => ?_))
  cases r with
  | error er => exact hx pins σ _ _ er s' I2 hq'
  | ok fl =>
    cases fl with
    | ret u =>
      obtain ⟨v, H2, I3, rv, ev, d, fs, ea, ed, ne, q2⟩ := I2.after hq'
      subst ev
      exact ⟨rv, .ref _, _, retrack I3 ea ed ne, rfl, q2⟩
    | next => exact False.elim hq'
    | brk => exact False.elim hq'
    | cont => exact False.elim hq'
end
def spInit0 (K : PySem.W.Frag) (C : Addr) (f : Str) : Sp := fun vs H Q E => ∃ (a : Addr), vs = [.ref a] ∧ OexC K C ∧ PySem.W.findIn K (.ref C) f = some none ∧ H a = some (exo a C none) ∧
  ∀ t dx, H t = none → H dx = none → dx ≠ t → dx ≠ a → t ≠ a → Q .non (upd (upd (upd H t (.tup [])) dx (exd dx [(f, .ref t)])) a (exo a C (some dx)))
theorem init0_ok {P : Program} {w : World} {K : PySem.W.Frag} {mg : Str → Option Value} {base : Heap} {qual f sf : Str} {st : Stmt} {fI C : Addr} {fd : FuncData} (F : Fun K "__init__" qual st fI fd) (Sc : FnScope [sf] [sf] (defScope st))
    (hb : ∀ (cdv : Value) (A : Around) (outer : List Env) (s : Shared) (H : Hp) (E : XK), PSs (cxOf (L2.CX P w) P w K mg base [sf] qual (defScope st) fI cdv A outer s H E) (defBody st) (tOst K f (tVar 0) (tTup tNil))) :
    FnOk P w K mg base (L2.CX P w) 1 fI fd [sf] (spInit0 K C f) := by
  refine F.okX Sc (fun vs H Q E h => ?_) (fun cdv A outer s H vs Q E hr h => ⟨_, hb cdv A outer s H E, ?_⟩)
  · obtain ⟨a, rfl, _⟩ := h
    rfl
  · obtain ⟨a, rfl, T, no, ha, q⟩ := h
    refine ⟨(by show 0 ≤ sizeLine; exact Nat.zero_le _), fun t ht => ?_⟩
    have ta : t ≠ a := fun z => by rw [z, ha] at ht; cases ht
    refine ⟨_, rfl, a, C, rfl, T, no, .inl ⟨by rw [upd_ne (Ne.symm ta)]; exact ha, fun dx hd ne => ?_⟩⟩
    have dt : dx ≠ t := fun z => by rw [z, upd_same] at hd; cases hd
    rw [upd_ne dt] at hd
    exact q t dx ht hd dt ne ta
theorem run_exc0 {T : Nat → Option FD} {n j c : Nat} {b : FD} {ds : List D} {G : List Cell} (ht : T j = some b) (hk : b.kind = .exc0 c) (h : run T n j ds G ≠ .no) : 2 ≤ n ∧ ds = [] ∧ run T n j ds G = .ok (.exc c (.tup [])) G := by
  match n, h with
  | 0, h => exact absurd rfl h
  | 1, h => exact absurd (by simp only [run, ht, hk]; rfl) h
  | n + 2, h =>
    simp only [run, ht, hk] at h ⊢
    match ds, h with
    | _ :: _, h => exact absurd rfl h
    | [], h => exact ⟨by omega, rfl, rfl⟩
structure ExcT0 (K : PySem.W.Frag) (mg : Str → Option Value) (k : Kx) (c : Nat) (x f sf qual : Str) (st : Stmt) (fI : Addr) (fd : FuncData) : Prop where
  gC : mg x = some (.ref (k.cm c))
  nf : k.xf c = f
  oe : OexC K (k.cm c)
  iC : PySem.W.findIn K (.ref (k.cm c)) "__init__" = some (some (.ref fI))
  tI : PySem.W.typeIn K (.ref fI) = some (.type "function")
  no : PySem.W.findIn K (.ref (k.cm c)) f = some none
  xf : XfC K (k.cm c)
  is : IsC K (k.cm c)
  fn : Fun K "__init__" qual st fI fd
  bd : Binds K fd [sf] []
/-- the making of ExcT0 from what the head tells -/
theorem ExcT0.mk' {K : PySem.W.Frag} {h : Heap} {mg : Str → Option Value} {k : Kx} {c : Nat} {x f sf qual : Str} {st : Stmt} {C fI : Addr} (X : K.In h) (G : h.Ns mainGlobals mg) (hC : k.cm c = C) (nf : k.xf c = f)
    {nm q : Str} {N : Addr} {bs bm : List Value} {sn : List Str} {sub : List Value} {ab : Bool} {col : Option Bool} {dd : Option Addr} {m0 m1 m2 m3 m5 : Option Value}
    {od1 an1 : Option Addr} {sl1 : Array (Option Value)} {oc1 kV1 dc1 pm1 cd1 ct1 : Value}
    (aC : PySem.W.nsIn K mainGlobals x = some (some (.ref C)))
    (xL : K.lookup C = some (excClassObj nm q C N bs bm true sn sub ab col dd m0 m1 m2 m3 m5 "ValueError.__new__")) (hbm : PySem.HandSPX.refsVE bm = true)
    (sa : PySem.W.findIn K (.ref C) "__setattr__" = some (some (.builtin "object.__setattr__"))) (ga : PySem.W.findIn K (.ref C) "__getattribute__" = some (some (.builtin "BaseException.__getattribute__"))) (gg : PySem.W.findIn K (.ref C) "__getattr__" = some none) (nb : PySem.W.findIn K (.ref C) f = some none)
    (ha : PySem.W.findIn K (.ref C) "__class__" = some (some (.builtin "object.__class__"))) (hn : PySem.W.specialIn K (.builtin "object.__class__") "__get__" = some (some (.builtin "getset_descriptor.__get__"))) (ht : PySem.W.takesIn K (.builtin "object.__class__") = some true) (hm : PySem.W.mroIn K C (.type "object") = some true)
    (a1 : PySem.W.findIn K (.ref C) "__init__" = some (some (.ref fI))) (t1 : PySem.W.typeIn K (.ref fI) = some (.type "function"))
    (l1 : K.lookup fI = some ⟨oc1, od1, .func (PySem.W.fnOf "__init__" qual (defArgs st) (defBody st) (defScope st) .none kV1 dc1 pm1 an1 cd1 ct1), sl1⟩) (c1 : PySem.W.codeIn K cd1 qual = true) (k1 : PySem.W.keepIn K (.ref fI) = true)
    (kC : PySem.W.keepIn K (.ref C) = true) (eC : PySem.W.subIn K (.ref C) (.type "BaseException") = some true) (tC : PySem.W.typeIn K (.ref C) = some (.type "type")) (dC : PySem.W.hasDictIn K C = true) (iC : (PySem.W.clsIn K C).isSome = true)
    (hb : ∀ (kV doc pm : Value) (an : Option Addr) (cdv ct : Value) (us : List Value), us.length = ([sf] : List Str).length → bindArgs (PySem.W.fnOf "__init__" qual (defArgs st) (defBody st) (defScope st) .none kV doc pm an cdv ct) ⟨us, []⟩ = pure ([sf].zip us)) :
    ExcT0 K mg k c x f sf qual st fI (PySem.W.fnOf "__init__" qual (defArgs st) (defBody st) (defScope st) .none kV1 dc1 pm1 an1 cd1 ct1) := by
  subst hC
  have F := fun_mk (st := st) l1 c1 k1
  exact ⟨PySem.W.mg_of X G aC, nf, ⟨⟨nm, q, N, bs, bm, sn, sub, ab, col, dd, m0, m1, m2, m3, m5, xL, hbm⟩, sa, eC, tC, kC⟩, a1, t1, nb, ⟨ga, gg, eC, dC⟩, ⟨iC, ga, gg, eC, ha, hn, ht, hm⟩, F, F.binds (ps := [sf]) hb⟩

section
variable {X : Cx} {k : Kx} {C : CallH} {W : WX}
theorem bind_id {α : Type} (r : R α) : (r.bind fun d s => R.ok d s) = r := by cases r <;> rfl
theorem upd_mk {H1 : Hp} {a dx : Addr} {u1 u2 u3 u4 : HO} (na : H1 a = none) (ne : dx ≠ a) : upd (upd (upd (upd (upd H1 a u1) dx u2) a u3) dx u4) a u1 = upd (upd H1 dx u4) a u1 := by
  funext b
  by_cases hb : b = a
  · rw [hb, upd_same, upd_same]
  · rw [upd_ne hb, upd_ne hb]
    by_cases hd : b = dx
    · rw [hd, upd_same, upd_same]
    · rw [upd_ne hd, upd_ne hb, upd_ne hd, upd_ne hb, upd_ne hd]
theorem upd_mk' {H1 : Hp} {a dx : Addr} {u0 u1 u2 u3 u4 : HO} (na : H1 a = none) (ne : dx ≠ a) : upd (upd (upd (upd (upd H1 a u0) dx u2) a u3) dx u4) a u1 = upd (upd H1 dx u4) a u1 := by
  funext b
  by_cases hb : b = a
  · rw [hb, upd_same, upd_same]
  · rw [upd_ne hb, upd_ne hb]
    by_cases hd : b = dx
    · rw [hd, upd_same, upd_same]
    · rw [upd_ne hd, upd_ne hb, upd_ne hd, upd_ne hb, upd_ne hd]
/-- what C(v) leaves -/
theorem made_post {c : Nat} {w1 : Wd} {H1 : Hp} {s1 : S} {σ : St} {x : D} {v : V} {Q : VK} (rw1 : RW k w1 s1 H1) (r : RD k w1 H1 x v) (q : Post k (Wσ W σ) w1 H1 (RD k) (.ok (.exc c x) s1) Q) (T : OexC X.K (k.cm c)) (no : PySem.W.findIn X.K (.ref (k.cm c)) (k.xf c) = some none) :
    ∀ a, H1 a = none → spInit1 X.K (k.cm c) (k.xf c) [.ref a, v] (upd H1 a (exo a (k.cm c) none)) (fun v H2 => v = .non ∧ ∃ (d : Addr) (fs : List (Str × V)), H2 a = some (exo a (k.cm c) (some d)) ∧ H2 d = some (exd d fs) ∧ d ≠ a ∧ Q (.ref a) (upd (upd H2 d (.xd fs)) a (ExT (.ref (k.cm c)) d a))) (fun _ _ _ => False) := fun a na => by
  refine ⟨a, v, rfl, T, no, upd_same, fun dx nd ne => ⟨rfl, dx, [(k.xf c, v)], upd_same, by rw [upd_ne ne, upd_same], ne, ?_⟩⟩
  rw [upd_ne ne] at nd
  rw [upd_mk' na ne]
  have e1 := Ext.new (o := .xd [(k.xf c, v)]) rw1 nd
  have rw2 := rw1.new (o := .xd [(k.xf c, v)]) nd
  have na2 : upd H1 dx (.xd [(k.xf c, v)]) a = none := by rw [upd_ne (Ne.symm ne)]; exact na
  obtain ⟨e2, rw3, rd⟩ := rd_caught (cc := c) (f := x) (d := dx) (vf := v) rw2 (rw1.fresh nd) upd_same (r.mono e1) na2
  exact q w1 (.ref a) _ (e1.trans e2) rw3 rd
theorem se_mkx {n j c : Nat} {x f sf qual : Str} {st : Stmt} {T : Nat → Option FD} {b : FD} {e : Expr} {i : IE} {p pos : Pos} {fI : Addr} {fd : FuncData} (t : ExcT X.K X.mg k c x f sf qual st fI fd) (ht : T j = some b) (hkd : b.kind = .exc c) (Sc : FnScope [sf, f] [sf, f] (defScope st))
    (hbody : ∀ (cdv : Value) (A : Around) (outer : List Env) (s : Shared) (H : Hp) (E : XK), PSs (cxOf (L2.CX X.prog X.w) X.prog X.w X.K X.mg X.base [sf, f] qual (defScope st) fI cdv A outer s H E) (defBody st) (tOst X.K f (tVar 0) (tVar 1)))
    (hr : Room n X.A) (tk : Takes X W) (ha : SA X k (run T n) W [e] i) (hg : Gl X x := by rfl) (hdb : (x == ("__debug__" : Str)) = false := by decide)
    (he : starEach [e] X.env = (false, eval e X.env) :: starEach [] X.env := by rfl) (hpl : (backTo pos (starEach [] X.env)).any (·.1) = false := by rfl) :
    SE X k (run T n) W (.Call (.Name x p) [e] [] pos) (.mk j i) := by
  have F := init_ok (C := k.cm c) t.fn Sc hbody
  have nf := t.nf
  subst nf
  refine ⟨fun pins s σ H Q I ⟨w, τ, s0, rs, rw, h⟩ => ?_⟩
  simp only [ev] at h
  have calm : ∀ {r : R D} {f : D → S → R D}, Post k (Wσ W σ) w H (RD k) (r.calm.bind f) Q → Post k (Wσ W σ) w H (RD k) (r.bind f) Q := fun {r f} h => by
    cases r with
    | ok a s => exact h
    | ex _ _ => exact h.elim
    | no => exact h
  refine wpAny_Call_Name_kw (ld_glob I hg t.gC ?_ hdb)
  refine PySem.W.callWith_K (h₀ := X.base) I.ok.mod.kin t.oe.kC (thn (ha.run pos pins s σ H _ I ⟨w, τ, s0, rs, rw, (calm h).bind⟩) fun us s1 ⟨vs, H1, I1, r1, w1, d1, s2, e1, rw1, ⟨ds, ed, rds⟩, h1⟩ => ⟨I1.kIn, ?_⟩) he hpl
  subst ed
  simp only at h1
  have h1' : Post k (Wσ W σ) w1 H1 (RD k) ((if D.noCs ds then (match run T n j ds s2.G with | .ok d _ => .ok d s2 | _ => .no) else .no : R D).bind fun d s => .ok d s) Q := by
    rw [bind_id]
    exact h1
  obtain ⟨h2, x0, v, rfl, rx, q⟩ := made_x (fun ds G z => run_exc ht hkd z) rds h1'
  have hl := r1.length
  refine run_oex (vs := [v]) (us' := us) (kw := []) (sp := spInit1 X.K (k.cm c) (k.xf c)) t.oe t.iC t.tI F (hr.mono h2) (fun pins σ H s e s' I q => (passes_call (E := fun _ _ _ => False) tk (fun _ _ _ _ z => z.elim)) pins σ H s e s' I q) I1 (by show us.length ≤ 1000; rw [← hl]; exact Nat.le_of_ble_eq_true rfl) r1 (fun s self kIn => ?_) (made_post (X := X) rw1 rx q t.oe t.no)
  have := t.bd s (self :: us) kIn (by simp [← hl])
  simpa using this
theorem se_mkx0 {n j c : Nat} {x f sf qual : Str} {st : Stmt} {T : Nat → Option FD} {b : FD} {p pos : Pos} {fI : Addr} {fd : FuncData} (t : ExcT0 X.K X.mg k c x f sf qual st fI fd) (ht : T j = some b) (hkd : b.kind = .exc0 c) (Sc : FnScope [sf] [sf] (defScope st))
    (hbody : ∀ (cdv : Value) (A : Around) (outer : List Env) (s : Shared) (H : Hp) (E : XK), PSs (cxOf (L2.CX X.prog X.w) X.prog X.w X.K X.mg X.base [sf] qual (defScope st) fI cdv A outer s H E) (defBody st) (tOst X.K f (tVar 0) (tTup tNil)))
    (hr : Room n X.A) (tk : Takes X W) (hg : Gl X x := by rfl) (hdb : (x == ("__debug__" : Str)) = false := by decide) :
    SE X k (run T n) W (.Call (.Name x p) [] [] pos) (.mk j .nil) := by
  have F := init0_ok (C := k.cm c) t.fn Sc hbody
  have nf := t.nf
  subst nf
  refine ⟨fun pins s σ H Q I ⟨w, τ, s0, rs, rw, h⟩ => ?_⟩
  simp only [ev, R.calm, R.bind] at h
  refine wpAny_Call_Name_kw (ld_glob I hg t.gC ?_ hdb)
  refine PySem.W.callWith_K0 I.kIn t.oe.kC ?_
  have h : Post k (Wσ W σ) w H (RD k) (match run T n j [] s0.G with | .ok d _ => R.ok d s0 | _ => .no) Q := h
  by_cases z : run T n j [] s0.G = .no
  · rw [z] at h; exact h.elim
  obtain ⟨h2, _, e⟩ := run_exc0 ht hkd z
  rw [e] at h
  refine run_oex (vs := []) (us := []) (us' := []) (kw := []) (sp := spInit0 X.K (k.cm c) (k.xf c)) t.oe t.iC t.tI F (hr.mono h2) (fun pins σ H s e s' I q => (passes_call (E := fun _ _ _ => False) tk (fun _ _ _ _ z => z.elim)) pins σ H s e s' I q) I (by decide) .nil (fun s self kIn => ?_) (fun a na => ?_)
  · have := t.bd s [self] kIn rfl
    simpa using this
  · refine ⟨a, rfl, t.oe, t.no, upd_same, fun tt dx nt nd dt ne ta => ⟨rfl, dx, [(k.xf c, .ref tt)], upd_same, by rw [upd_ne ne, upd_same], ne, ?_⟩⟩
    rw [upd_ne ne] at nd
    rw [upd_ne ta] at nt
    have eH : upd (upd (upd (upd (upd (upd H a (exo a (k.cm c) none)) tt (.tup [])) dx (exd dx [(k.xf c, .ref tt)])) a (exo a (k.cm c) (some dx))) dx (.xd [(k.xf c, .ref tt)])) a (ExT (.ref (k.cm c)) dx a) = upd (upd (upd H tt (.tup [])) dx (.xd [(k.xf c, .ref tt)])) a (ExT (.ref (k.cm c)) dx a) := by
      funext b
      by_cases hb : b = a
      · rw [hb, upd_same, upd_same]
      · rw [upd_ne hb, upd_ne hb]
        by_cases hd : b = dx
        · rw [hd, upd_same, upd_same]
        · rw [upd_ne hd, upd_ne hb, upd_ne hd, upd_ne hd]
          by_cases ht : b = tt
          · rw [ht, upd_same, upd_same]
          · rw [upd_ne ht, upd_ne hb, upd_ne ht]
    rw [eH]
    have e0 := Ext.new (o := .tup []) rw nt
    have rw0 := rw.new (o := .tup []) nt
    have nd0 : upd H tt (.tup []) dx = none := by rw [upd_ne dt]; exact nd
    have e1 := Ext.new (o := .xd [(k.xf c, .ref tt)]) rw0 nd0
    have rw2 := rw0.new (o := .xd [(k.xf c, .ref tt)]) nd0
    have na2 : upd (upd H tt (.tup [])) dx (.xd [(k.xf c, .ref tt)]) a = none := by rw [upd_ne (Ne.symm ne), upd_ne (Ne.symm ta)]; exact na
    have rt : RD k w (upd H tt (.tup [])) (.tup []) (.ref tt) := ⟨tt, [], rfl, .inl ⟨rw.fresh nt, .inl upd_same⟩, rfl⟩
    obtain ⟨e2, rw3, rd⟩ := rd_caught (cc := c) (f := .tup []) (d := dx) (vf := .ref tt) rw2 (rw0.fresh nd0) upd_same (rt.mono e1) na2
    exact h w (.ref a) _ ((e0.trans e1).trans e2) rw3 rd
/-- C(f = v) -/
theorem se_mkxk {n j c : Nat} {x f sf qual : Str} {st : Stmt} {T : Nat → Option FD} {b : FD} {kws : List Keyword} {i : IE} {p pos : Pos} {fI : Addr} {fd : FuncData} (t : ExcT X.K X.mg k c x f sf qual st fI fd) (ht : T j = some b) (hkd : b.kind = .exc c) (Sc : FnScope [sf, f] [sf, f] (defScope st))
    (hbody : ∀ (cdv : Value) (A : Around) (outer : List Env) (s : Shared) (H : Hp) (E : XK), PSs (cxOf (L2.CX X.prog X.w) X.prog X.w X.K X.mg X.base [sf, f] qual (defScope st) fI cdv A outer s H E) (defBody st) (tOst X.K f (tVar 0) (tVar 1)))
    (hkb : ∀ (s : Shared) (self u : Value), BindsTo s fd ⟨[self], [(f, u)]⟩ ([sf, f].zip [self, u]))
    (hr : Room n X.A) (tk : Takes X W) (ha : SK X k (run T n) W kws i) (hg : Gl X x := by rfl) (hdb : (x == ("__debug__" : Str)) = false := by decide)
    (hall : (backToKw pos (keywordEach kws X.env)).all (·.1.isSome) = true := by rfl) (hks : (backToKw pos (keywordEach kws X.env)).filterMap (·.1) = [f] := by rfl)
    (hpl : ((backTo pos (starEach [] X.env)).any (·.1) || (backToKw pos (keywordEach kws X.env)).any (·.1.isNone)) = false := by rfl) :
    SE X k (run T n) W (.Call (.Name x p) [] kws pos) (.mk j i) := by
  have F := init_ok (C := k.cm c) t.fn Sc hbody
  have nf := t.nf
  subst nf
  refine ⟨fun pins s σ H Q I ⟨w, τ, s0, rs, rw, h⟩ => ?_⟩
  simp only [ev] at h
  have calm : ∀ {r : R D} {f : D → S → R D}, Post k (Wσ W σ) w H (RD k) (r.calm.bind f) Q → Post k (Wσ W σ) w H (RD k) (r.bind f) Q := fun {r f} h => by
    cases r with
    | ok a s => exact h
    | ex _ _ => exact h.elim
    | no => exact h
  refine wpAny_Call_Name_kw (ld_glob I hg t.gC ?_ hdb)
  refine PySem.W.callWith_KW0 (h₀ := X.base) I.ok.mod.kin t.oe.kC hall (thn (ha.run pos pins s σ H _ I ⟨w, τ, s0, rs, rw, (calm h).bind⟩) fun us s1 ⟨vs, H1, I1, r1, w1, d1, s2, e1, rw1, ⟨ds, ed, rds⟩, h1⟩ => ⟨I1.kIn, ?_⟩) hpl
  subst ed
  simp only at h1
  have h1' : Post k (Wσ W σ) w1 H1 (RD k) ((if D.noCs ds then (match run T n j ds s2.G with | .ok d _ => .ok d s2 | _ => .no) else .no : R D).bind fun d s => .ok d s) Q := by
    rw [bind_id]
    exact h1
  obtain ⟨h2, x0, v, rfl, rx, q⟩ := made_x (fun ds G z => run_exc ht hkd z) rds h1'
  obtain ⟨u, rfl, ru⟩ := Vals.one r1
  rw [hks]
  refine run_oex (vs := [v]) (us := []) (us' := [u]) (kw := [(k.xf c, u)]) (sp := spInit1 X.K (k.cm c) (k.xf c)) t.oe t.iC t.tI F (hr.mono h2) (fun pins σ H s e s' I q => (passes_call (E := fun _ _ _ => False) tk (fun _ _ _ _ z => z.elim)) pins σ H s e s' I q) I1 (by decide) (.cons ru .nil) (fun s self kIn => hkb s self u) (made_post (X := X) rw1 rx q t.oe t.no)
end
end DI

set_option autoImplicit true
namespace K00
open PySem L2 DI

def top (i : Nat) : Stmt := PySem.Challenge.pw_fanplans_k00_errors.main.body.getD i (.Pass ⟨0, 0, 0, 0⟩)
abbrev s_0 : Stmt := top 18
abbrev ns_0 : List Str := ["_law_script", "_law_k", "_law_cell"]
abbrev ps_0 : List Str := ["_law_script", "_law_k"]
abbrev s_1 : Stmt := top 19
abbrev ns_1 : List Str := ["_law_box_here", "_law_size_so", "_law_once", "_law_far", "_law_again", "_law_some"]
abbrev ps_1 : List Str := ["_law_box_here", "_law_size_so"]
abbrev s_2 : Stmt := top 20
abbrev ns_2 : List Str := ["_law_script", "_law_top_so", "_law_cells_so", "_law_k", "_law_cell", "_law_at_so"]
abbrev ps_2 : List Str := ["_law_script", "_law_top_so"]
abbrev s_3 : Stmt := top 21
abbrev ns_3 : List Str := ["_law_box_here", "_law_goods_so"]
abbrev ps_3 : List Str := ["_law_box_here", "_law_goods_so"]
abbrev s_4 : Stmt := top 22
abbrev ns_4 : List Str := ["_law_got", "_law_due", "_law_mine", "_law_its"]
abbrev ps_4 : List Str := ["_law_got", "_law_due"]
abbrev s_5 : Stmt := top 23
abbrev ns_5 : List Str := ["_law_caught", "_law_kinds_so"]
abbrev ps_5 : List Str := ["_law_caught"]
abbrev s_6 : Stmt := top 24
abbrev ns_6 : List Str := ["_law_box_here", "_law_every_so", "_law_got", "_law_due", "_law_far", "_law_tag", "_law_k", "_law_own", "_law_j"]
abbrev ps_6 : List Str := ["_law_box_here"]
abbrev s_7 : Stmt := top 25
abbrev ns_7 : List Str := ["_law_script", "_law_cells_here", "_law_k"]
abbrev ps_7 : List Str := ["_law_script"]
/-- _law_box -/
def b_0 : IS := .seq (.asg (.v 2) (.ife (.cmp .lt (.var 1) (.blt (.len) (.cons (.var 0) (.nil)))) (.idx (.var 0) (.var 1)) (.lit (.int 0)))) (.ret (.lst .glob (.cons (.bin .mul (.blt (.abs) (.cons (.var 2) (.nil))) (.blt (.int) (.cons (.cmp .ge (.blt (.abs) (.cons (.var 2) (.nil))) (.bin .pow (.lit (.int 10)) (.lit (.int 18)))) (.nil)))) (.cons (.bin .add (.bin .add (.bin .mod (.blt (.int) (.cons (.var 2) (.nil))) (.lit (.int 2305843009213693951))) (.bin .mul (.lit (.int 39373)) (.var 1))) (.lit (.int 91500))) (.cons (.lit (.int 0)) (.nil))))))
/-- _law_take -/
def b_1 : IS := .seq (.ife (.cmp .gt (.idx (.var 0) (.lit (.int 0))) (.lit (.int 0))) (.seq (.asg (.v 5) (.bin .mod (.blt (.int) (.cons (.idx (.var 0) (.lit (.int 0))) (.nil))) (.var 1))) (.seq (.sub (.var 0) (.lit (.int 0)) (.bin .div (.idx (.var 0) (.lit (.int 0))) (.var 1))) (.ret (.var 5)))) (.skip)) (.seq (.sub (.var 0) (.lit (.int 2)) (.bin .add (.idx (.var 0) (.lit (.int 2))) (.lit (.int 1)))) (.seq (.asg (.v 2) (.bin .mod (.blt (.int) (.cons (.bin .mul (.bin .add (.idx (.var 0) (.lit (.int 1))) (.bin .mul (.lit (.int 48271)) (.idx (.var 0) (.lit (.int 2))))) (.bin .add (.lit (.int 39373)) (.idx (.var 0) (.lit (.int 2))))) (.nil))) (.lit (.int 2147483647)))) (.seq (.asg (.v 3) (.bin .add (.bin .mod (.blt (.int) (.cons (.var 2) (.nil))) (.lit (.int 40009))) (.lit (.int 7)))) (.seq (.asg (.v 4) (.bin .mod (.blt (.int) (.cons (.bin .mul (.bin .add (.bin .add (.var 2) (.idx (.var 0) (.lit (.int 2)))) (.bin .div (.idx (.var 0) (.lit (.int 1))) (.lit (.int 1000003)))) (.var 3)) (.nil))) (.lit (.int 2147483629)))) (.ret (.bin .mod (.blt (.int) (.cons (.bin .div (.bin .mod (.blt (.int) (.cons (.bin .add (.bin .mul (.var 4) (.lit (.int 48271))) (.var 2)) (.nil))) (.lit (.int 2147483587))) (.lit (.int 64))) (.nil))) (.var 1)))))))
/-- _law_cells -/
def b_2 : IS := .seq (.asg (.v 2) (.or (.blt (.list .loc) (.cons (.sl false true (.var 0) (.lit .non) (.var 1)) (.nil))) (.lst .loc (.cons (.lit (.int 0)) (.nil))))) (.seq (.for .enum (.sl true true (.var 0) (.var 1) (.lit (.int 63))) (.nil) (.t [3, 4]) (.seq (.asg (.v 5) (.bin .mod (.blt (.int) (.cons (.var 3) (.nil))) (.var 1))) (.sub (.var 2) (.var 5) (.bin .add (.idx (.var 2) (.var 5)) (.bin .mul (.var 4) (.bin .add (.var 3) (.lit (.int 2)))))))) (.ret (.var 2)))
/-- _law_of -/
def b_3 : IS := .ret (.idx (.var 1) (.call 1 (.cons (.var 0) (.cons (.blt (.len) (.cons (.var 1) (.nil))) (.nil)))))
/-- _law_same -/
def b_4 : IS := .seq (.ife (.blt (.isi [.list, .tuple]) (.cons (.var 1) .nil)) (.seq (.ife (.cmp .ne (.blt (.isi [.list]) (.cons (.var 0) .nil)) (.blt (.isi [.list]) (.cons (.var 1) .nil))) (.ret (.lit (.bl false))) (.skip)) (.seq (.ife (.cmp .ne (.blt (.isi [.tuple]) (.cons (.var 0) .nil)) (.blt (.isi [.tuple]) (.cons (.var 1) .nil))) (.ret (.lit (.bl false))) (.skip)) (.ret (.and (.cmp .eq (.blt (.len) (.cons (.var 0) (.nil))) (.blt (.len) (.cons (.var 1) (.nil)))) (.blt (.all) (.cons (.lc .fz [2, 3] .zip (.var 0) (.var 1) (.t [2, 3]) (.lit (.bl true)) (.call 4 (.cons (.var 2) (.cons (.var 3) (.nil))))) (.nil))))))) (.skip)) (.seq (.ife (.or (.cmp .is (.var 1) (.lit .non)) (.blt (.isi [.bool, .str]) (.cons (.var 1) .nil))) (.ret (.and (.cmp .eq (.var 0) (.var 1)) (.and (.cmp .eq (.blt (.isi [.bool]) (.cons (.var 0) .nil)) (.blt (.isi [.bool]) (.cons (.var 1) .nil))) (.cmp .eq (.cmp .is (.var 0) (.lit .non)) (.cmp .is (.var 1) (.lit .non)))))) (.skip)) (.ret (.and (.blt (.isi [.int]) (.cons (.var 0) .nil)) (.and (.not (.blt (.isi [.bool]) (.cons (.var 0) .nil))) (.cmp .eq (.var 0) (.var 1))))))
/-- _law_sorts -/
def b_5 : IS := .seq (.asg (.v 1) (.lst .fz (.cons (.blt (.isx [1] [2, 3, 4, 5, 6, 7, 8, 9, 10, 11, 12, 13, 14, 15]) (.cons (.var 0) .nil)) (.cons (.blt (.isx [2] [1, 3, 4, 5, 6, 7, 8, 9, 10, 11, 12, 13, 14, 15]) (.cons (.var 0) .nil)) (.cons (.blt (.isx [3] [1, 2, 4, 5, 6, 7, 8, 9, 10, 11, 12, 13, 14, 15]) (.cons (.var 0) .nil)) (.nil)))))) (.seq (.asg (.v 1) (.bin .add (.var 1) (.lst .fz (.cons (.blt (.isx [4] [1, 2, 3, 5, 6, 7, 8, 9, 10, 11, 12, 13, 14, 15]) (.cons (.var 0) .nil)) (.cons (.blt (.isx [5] [1, 2, 3, 4, 6, 7, 8, 9, 10, 11, 12, 13, 14, 15]) (.cons (.var 0) .nil)) (.nil)))))) (.seq (.asg (.v 1) (.bin .add (.var 1) (.lst .fz (.cons (.blt (.isx [6] [1, 2, 3, 4, 5, 7, 8, 9, 10, 11, 12, 13, 14, 15]) (.cons (.var 0) .nil)) (.nil))))) (.seq (.asg (.v 1) (.bin .add (.var 1) (.lst .fz (.cons (.blt (.isx [7] [1, 2, 3, 4, 5, 6, 8, 9, 10, 11, 12, 13, 14, 15]) (.cons (.var 0) .nil)) (.cons (.blt (.isx [8] [1, 2, 3, 4, 5, 6, 7, 9, 10, 11, 12, 13, 14, 15]) (.cons (.var 0) .nil)) (.nil)))))) (.seq (.asg (.v 1) (.bin .add (.var 1) (.lst .fz (.cons (.blt (.isx [9] [1, 2, 3, 4, 5, 6, 7, 8, 10, 11, 12, 13, 14, 15]) (.cons (.var 0) .nil)) (.nil))))) (.seq (.asg (.v 1) (.bin .add (.var 1) (.lst .fz (.cons (.blt (.isx [10] [1, 2, 3, 4, 5, 6, 7, 8, 9, 11, 12, 13, 14, 15]) (.cons (.var 0) .nil)) (.cons (.blt (.isx [11] [1, 2, 3, 4, 5, 6, 7, 8, 9, 10, 12, 13, 14, 15]) (.cons (.var 0) .nil)) (.nil)))))) (.seq (.asg (.v 1) (.bin .add (.var 1) (.lst .fz (.cons (.blt (.isx [12] [1, 2, 3, 4, 5, 6, 7, 8, 9, 10, 11, 13, 14, 15]) (.cons (.var 0) .nil)) (.nil))))) (.ret (.bin .add (.var 1) (.lst .fz (.cons (.blt (.isx [13] [1, 2, 3, 4, 5, 6, 7, 8, 9, 10, 11, 12, 14, 15]) (.cons (.var 0) .nil)) (.cons (.blt (.isx [14] [1, 2, 3, 4, 5, 6, 7, 8, 9, 10, 11, 12, 13, 15]) (.cons (.var 0) .nil)) (.cons (.blt (.isx [15] [1, 2, 3, 4, 5, 6, 7, 8, 9, 10, 11, 12, 13, 14]) (.cons (.var 0) .nil)) (.nil)))))))))))))
/-- _law_right -/
def b_6 : IS := .seq (.par 4 5 (.cons (.bin .sub (.call 1 (.cons (.var 0) (.cons (.bin .pow (.lit (.int 10)) (.lit (.int 9))) (.nil)))) (.bin .mul (.lit (.int 5)) (.bin .pow (.lit (.int 10)) (.lit (.int 8))))) (.cons (.call 3 (.cons (.var 0) (.cons (.lst .fz (.cons (.lit (.str [97])) (.cons (.lit (.str [97, 110, 116, 115])) (.cons (.lit (.str [97, 98, 99, 100, 101, 102, 103, 104])) (.cons (.lit (.str [122, 122])) (.nil)))))) (.nil)))) .nil))) (.seq (.asg (.v 1) (.lst .fz (.cons (.mk 9 (.cons (.var 4) (.nil))) (.cons (.mk 10 (.cons (.var 4) (.nil))) (.cons (.mk 11 (.cons (.var 4) (.nil))) (.cons (.mk 12 (.cons (.var 5) (.nil))) (.nil))))))) (.seq (.asg (.v 1) (.bin .add (.var 1) (.lst .fz (.cons (.mk 13 (.cons (.var 4) (.nil))) (.cons (.mk 14 (.cons (.var 5) (.nil))) (.cons (.mk 15 (.cons (.var 5) (.nil))) (.nil))))))) (.seq (.asg (.v 1) (.bin .add (.var 1) (.lst .fz (.cons (.mk 16 .nil) (.cons (.mk 17 .nil) (.cons (.mk 18 .nil) (.cons (.mk 19 (.cons (.var 5) (.nil))) (.cons (.mk 20 (.cons (.var 5) (.nil))) (.cons (.mk 21 (.cons (.var 4) (.nil))) (.nil)))))))))) (.seq (.asg (.v 1) (.bin .add (.var 1) (.lst .fz (.cons (.mk 22 (.cons (.var 4) (.nil))) (.cons (.mk 23 .nil) (.nil)))))) (.seq (.for .enum (.var 1) (.nil) (.t [6, 7]) (.seq (.ife (.not (.call 4 (.cons (.call 5 (.cons (.var 7) (.nil))) (.cons (.lc .fz [8] .rng1 (.lit (.int 15)) (.nil) (.v 8) (.lit (.bl true)) (.cmp .eq (.var 8) (.var 6))) (.nil))))) (.ret (.lit (.bl false))) (.skip)) (.ife (.or (.not (.blt (.isx [1, 2, 3, 4, 5, 6, 7, 8, 9, 10, 11, 12, 13, 14, 15] []) (.cons (.var 7) .nil))) (.not (.blt (.isx [1, 2, 3, 4, 5, 6, 7, 8, 9, 10, 11, 12, 13, 14, 15] []) (.cons (.var 7) .nil)))) (.ret (.lit (.bl false))) (.skip)))) (.seq (.asg (.v 2) (.lst .fz (.cons (.fld (.idx (.var 1) (.lit (.int 0))) [1, 5]) (.cons (.fld (.idx (.var 1) (.lit (.int 1))) [2]) (.cons (.fld (.idx (.var 1) (.lit (.int 2))) [3, 13]) (.cons (.fld (.idx (.var 1) (.lit (.int 3))) [4, 6, 7, 11, 12]) (.cons (.fld (.idx (.var 1) (.lit (.int 4))) [1, 5]) (.nil)))))))) (.seq (.asg (.v 2) (.bin .add (.var 2) (.lst .fz (.cons (.fld (.idx (.var 1) (.lit (.int 5))) [4, 6, 7, 11, 12]) (.cons (.fld (.idx (.var 1) (.lit (.int 6))) [4, 6, 7, 11, 12]) (.cons (.fld (.idx (.var 1) (.lit (.int 10))) [4, 6, 7, 11, 12]) (.nil))))))) (.seq (.asg (.v 2) (.bin .add (.var 2) (.lst .fz (.cons (.fld (.idx (.var 1) (.lit (.int 11))) [4, 6, 7, 11, 12]) (.cons (.fld (.idx (.var 1) (.lit (.int 12))) [3, 13]) (.nil)))))) (.seq (.asg (.v 2) (.bin .add (.var 2) (.lst .fz (.cons (.fld (.idx (.var 1) (.lit (.int 13))) [14]) (.cons (.fld (.mk 9 (.cons (.var 4) .nil)) [1, 5]) (.nil)))))) (.seq (.asg (.v 2) (.bin .add (.var 2) (.lst .fz (.cons (.fld (.mk 10 (.cons (.lit (.int 7)) .nil)) [2]) (.cons (.fld (.mk 11 (.cons (.neg (.lit (.int 1))) .nil)) [3, 13]) (.nil)))))) (.seq (.asg (.v 3) (.lst .fz (.cons (.var 4) (.cons (.var 4) (.cons (.var 4) (.cons (.var 5) (.cons (.var 4) (.cons (.var 5) (.cons (.var 5) (.cons (.var 5) (.cons (.var 5) (.cons (.var 4) (.cons (.var 4) (.cons (.var 4) (.cons (.lit (.int 7)) (.cons (.neg (.lit (.int 1))) (.nil))))))))))))))))) (.seq (.asg (.v 2) (.bin .add (.var 2) (.lst .fz (.cons (.fld (.mk 12 (.cons (.lit (.str [98])) .nil)) [4, 6, 7, 11, 12]) (.cons (.fld (.mk 13 (.cons (.lit (.int 3)) .nil)) [1, 5]) (.nil)))))) (.seq (.asg (.v 2) (.bin .add (.var 2) (.lst .fz (.cons (.fld (.mk 14 (.cons (.var 5) .nil)) [4, 6, 7, 11, 12]) (.cons (.fld (.mk 15 (.cons (.var 5) .nil)) [4, 6, 7, 11, 12]) (.nil)))))) (.seq (.asg (.v 2) (.bin .add (.var 2) (.lst .fz (.cons (.fld (.mk 19 (.cons (.var 5) .nil)) [4, 6, 7, 11, 12]) (.cons (.fld (.mk 20 (.cons (.var 5) .nil)) [4, 6, 7, 11, 12]) (.cons (.fld (.mk 21 (.cons (.bin .pow (.lit (.int 10)) (.lit (.int 30))) .nil)) [3, 13]) (.nil))))))) (.seq (.asg (.v 3) (.bin .add (.var 3) (.lst .fz (.cons (.lit (.str [98])) (.cons (.lit (.int 3)) (.cons (.var 5) (.cons (.var 5) (.cons (.var 5) (.cons (.var 5) (.cons (.bin .pow (.lit (.int 10)) (.lit (.int 30))) (.nil))))))))))) (.ret (.call 4 (.cons (.bin .add (.var 2) (.lst .fz (.cons (.fld (.mk 22 (.cons (.var 5) .nil)) [14]) (.nil)))) (.cons (.bin .add (.var 3) (.lst .fz (.cons (.var 5) (.nil)))) (.nil))))))))))))))))))))
/-- law -/
def b_7 : IS := .seq (.asg (.v 1) (.call 2 (.cons (.var 0) (.cons (.lit (.int 3)) (.nil))))) (.ret (.blt (.all) (.cons (.lc .fz [2] .rng1 (.blt (.len) (.cons (.var 1) (.nil))) (.nil) (.v 2) (.lit (.bl true)) (.call 6 (.cons (.call 0 (.cons (.var 1) (.cons (.var 2) (.nil)))) (.nil)))) (.nil))))
def tb : Nat → Option FD
  | 0 => some ⟨2, 3, b_0, .fn⟩
  | 1 => some ⟨2, 6, b_1, .fn⟩
  | 2 => some ⟨2, 6, b_2, .fn⟩
  | 3 => some ⟨2, 2, b_3, .fn⟩
  | 4 => some ⟨2, 4, b_4, .fn⟩
  | 5 => some ⟨1, 2, b_5, .fn⟩
  | 6 => some ⟨1, 9, b_6, .fn⟩
  | 7 => some ⟨1, 3, b_7, .fn⟩
  | 9 => some ⟨1, 0, .skip, .exc 1⟩
  | 10 => some ⟨1, 0, .skip, .exc 2⟩
  | 11 => some ⟨1, 0, .skip, .exc 3⟩
  | 12 => some ⟨1, 0, .skip, .exc 4⟩
  | 13 => some ⟨1, 0, .skip, .exc 5⟩
  | 14 => some ⟨1, 0, .skip, .exc 6⟩
  | 15 => some ⟨1, 0, .skip, .exc 7⟩
  | 16 => some ⟨1, 0, .skip, .exc0 8⟩
  | 17 => some ⟨1, 0, .skip, .exc0 9⟩
  | 18 => some ⟨1, 0, .skip, .exc0 10⟩
  | 19 => some ⟨1, 0, .skip, .exc 11⟩
  | 20 => some ⟨1, 0, .skip, .exc 12⟩
  | 21 => some ⟨1, 0, .skip, .exc 13⟩
  | 22 => some ⟨1, 0, .skip, .exc 14⟩
  | 23 => some ⟨1, 0, .skip, .exc0 15⟩
  | _ => none
abbrev sx_1 : Stmt := inClass (top 2) 0
theorem scx_1 : FnScope ["self", "place"] ["self", "place"] (defScope sx_1) := ⟨rfl, rfl, rfl, by decide +kernel, rfl, by decide +kernel, by decide +kernel⟩
abbrev sx_2 : Stmt := inClass (top 3) 0
theorem scx_2 : FnScope ["self", "piece"] ["self", "piece"] (defScope sx_2) := ⟨rfl, rfl, rfl, by decide +kernel, rfl, by decide +kernel, by decide +kernel⟩
abbrev sx_3 : Stmt := inClass (top 4) 0
theorem scx_3 : FnScope ["self", "number"] ["self", "number"] (defScope sx_3) := ⟨rfl, rfl, rfl, by decide +kernel, rfl, by decide +kernel, by decide +kernel⟩
abbrev sx_4 : Stmt := inClass (top 5) 0
theorem scx_4 : FnScope ["self", "name"] ["self", "name"] (defScope sx_4) := ⟨rfl, rfl, rfl, by decide +kernel, rfl, by decide +kernel, by decide +kernel⟩
abbrev sx_5 : Stmt := inClass (top 6) 0
theorem scx_5 : FnScope ["self", "place"] ["self", "place"] (defScope sx_5) := ⟨rfl, rfl, rfl, by decide +kernel, rfl, by decide +kernel, by decide +kernel⟩
abbrev sx_6 : Stmt := inClass (top 7) 0
theorem scx_6 : FnScope ["self", "name"] ["self", "name"] (defScope sx_6) := ⟨rfl, rfl, rfl, by decide +kernel, rfl, by decide +kernel, by decide +kernel⟩
abbrev sx_7 : Stmt := inClass (top 8) 0
theorem scx_7 : FnScope ["self", "name"] ["self", "name"] (defScope sx_7) := ⟨rfl, rfl, rfl, by decide +kernel, rfl, by decide +kernel, by decide +kernel⟩
abbrev sx_8 : Stmt := inClass (top 9) 0
theorem scx_8 : FnScope ["self"] ["self"] (defScope sx_8) := ⟨rfl, rfl, rfl, by decide +kernel, rfl, by decide +kernel, by decide +kernel⟩
abbrev sx_9 : Stmt := inClass (top 10) 0
theorem scx_9 : FnScope ["self"] ["self"] (defScope sx_9) := ⟨rfl, rfl, rfl, by decide +kernel, rfl, by decide +kernel, by decide +kernel⟩
abbrev sx_10 : Stmt := inClass (top 11) 0
theorem scx_10 : FnScope ["self"] ["self"] (defScope sx_10) := ⟨rfl, rfl, rfl, by decide +kernel, rfl, by decide +kernel, by decide +kernel⟩
abbrev sx_11 : Stmt := inClass (top 12) 0
theorem scx_11 : FnScope ["self", "name"] ["self", "name"] (defScope sx_11) := ⟨rfl, rfl, rfl, by decide +kernel, rfl, by decide +kernel, by decide +kernel⟩
abbrev sx_12 : Stmt := inClass (top 13) 0
theorem scx_12 : FnScope ["self", "name"] ["self", "name"] (defScope sx_12) := ⟨rfl, rfl, rfl, by decide +kernel, rfl, by decide +kernel, by decide +kernel⟩
abbrev sx_13 : Stmt := inClass (top 14) 0
theorem scx_13 : FnScope ["self", "number"] ["self", "number"] (defScope sx_13) := ⟨rfl, rfl, rfl, by decide +kernel, rfl, by decide +kernel, by decide +kernel⟩
abbrev sx_14 : Stmt := inClass (top 15) 0
theorem scx_14 : FnScope ["self", "answer"] ["self", "answer"] (defScope sx_14) := ⟨rfl, rfl, rfl, by decide +kernel, rfl, by decide +kernel, by decide +kernel⟩
abbrev sx_15 : Stmt := inClass (top 16) 0
theorem scx_15 : FnScope ["self"] ["self"] (defScope sx_15) := ⟨rfl, rfl, rfl, by decide +kernel, rfl, by decide +kernel, by decide +kernel⟩
theorem ib_1 {P : Program} {w : World} {K : PySem.W.Frag} {mg : Str → Option Value} {base : Heap} {fI : Addr} : ∀ (cdv : Value) (A : Around) (outer : List Env) (s : Shared) (H : Hp) (E : XK), PSs (cxOf (L2.CX P w) P w K mg base ["self", "place"] "BadLink.__init__" (defScope sx_1) fI cdv A outer s H E) (defBody sx_1) (tOst K "place" (tVar 0) (tVar 1)) := fun _ _ _ _ _ _ => pss_one (ps_ost (pv 0) (pv 1))
theorem ib_2 {P : Program} {w : World} {K : PySem.W.Frag} {mg : Str → Option Value} {base : Heap} {fI : Addr} : ∀ (cdv : Value) (A : Around) (outer : List Env) (s : Shared) (H : Hp) (E : XK), PSs (cxOf (L2.CX P w) P w K mg base ["self", "piece"] "BadText.__init__" (defScope sx_2) fI cdv A outer s H E) (defBody sx_2) (tOst K "piece" (tVar 0) (tVar 1)) := fun _ _ _ _ _ _ => pss_one (ps_ost (pv 0) (pv 1))
theorem ib_3 {P : Program} {w : World} {K : PySem.W.Frag} {mg : Str → Option Value} {base : Heap} {fI : Addr} : ∀ (cdv : Value) (A : Around) (outer : List Env) (s : Shared) (H : Hp) (E : XK), PSs (cxOf (L2.CX P w) P w K mg base ["self", "number"] "BadLine.__init__" (defScope sx_3) fI cdv A outer s H E) (defBody sx_3) (tOst K "number" (tVar 0) (tVar 1)) := fun _ _ _ _ _ _ => pss_one (ps_ost (pv 0) (pv 1))
theorem ib_4 {P : Program} {w : World} {K : PySem.W.Frag} {mg : Str → Option Value} {base : Heap} {fI : Addr} : ∀ (cdv : Value) (A : Around) (outer : List Env) (s : Shared) (H : Hp) (E : XK), PSs (cxOf (L2.CX P w) P w K mg base ["self", "name"] "BadRows.__init__" (defScope sx_4) fI cdv A outer s H E) (defBody sx_4) (tOst K "name" (tVar 0) (tVar 1)) := fun _ _ _ _ _ _ => pss_one (ps_ost (pv 0) (pv 1))
theorem ib_5 {P : Program} {w : World} {K : PySem.W.Frag} {mg : Str → Option Value} {base : Heap} {fI : Addr} : ∀ (cdv : Value) (A : Around) (outer : List Env) (s : Shared) (H : Hp) (E : XK), PSs (cxOf (L2.CX P w) P w K mg base ["self", "place"] "BadPairs.__init__" (defScope sx_5) fI cdv A outer s H E) (defBody sx_5) (tOst K "place" (tVar 0) (tVar 1)) := fun _ _ _ _ _ _ => pss_one (ps_ost (pv 0) (pv 1))
theorem ib_6 {P : Program} {w : World} {K : PySem.W.Frag} {mg : Str → Option Value} {base : Heap} {fI : Addr} : ∀ (cdv : Value) (A : Around) (outer : List Env) (s : Shared) (H : Hp) (E : XK), PSs (cxOf (L2.CX P w) P w K mg base ["self", "name"] "NoTable.__init__" (defScope sx_6) fI cdv A outer s H E) (defBody sx_6) (tOst K "name" (tVar 0) (tVar 1)) := fun _ _ _ _ _ _ => pss_one (ps_ost (pv 0) (pv 1))
theorem ib_7 {P : Program} {w : World} {K : PySem.W.Frag} {mg : Str → Option Value} {base : Heap} {fI : Addr} : ∀ (cdv : Value) (A : Around) (outer : List Env) (s : Shared) (H : Hp) (E : XK), PSs (cxOf (L2.CX P w) P w K mg base ["self", "name"] "NoLink.__init__" (defScope sx_7) fI cdv A outer s H E) (defBody sx_7) (tOst K "name" (tVar 0) (tVar 1)) := fun _ _ _ _ _ _ => pss_one (ps_ost (pv 0) (pv 1))
theorem ib_8 {P : Program} {w : World} {K : PySem.W.Frag} {mg : Str → Option Value} {base : Heap} {fI : Addr} : ∀ (cdv : Value) (A : Around) (outer : List Env) (s : Shared) (H : Hp) (E : XK), PSs (cxOf (L2.CX P w) P w K mg base ["self"] "NotOne.__init__" (defScope sx_8) fI cdv A outer s H E) (defBody sx_8) (tOst K "given" (tVar 0) (tTup tNil)) := fun _ _ _ _ _ _ => pss_one (ps_ost (pv 0) (pe_tup pa_nil))
theorem ib_9 {P : Program} {w : World} {K : PySem.W.Frag} {mg : Str → Option Value} {base : Heap} {fI : Addr} : ∀ (cdv : Value) (A : Around) (outer : List Env) (s : Shared) (H : Hp) (E : XK), PSs (cxOf (L2.CX P w) P w K mg base ["self"] "OtherTables.__init__" (defScope sx_9) fI cdv A outer s H E) (defBody sx_9) (tOst K "given" (tVar 0) (tTup tNil)) := fun _ _ _ _ _ _ => pss_one (ps_ost (pv 0) (pe_tup pa_nil))
theorem ib_10 {P : Program} {w : World} {K : PySem.W.Frag} {mg : Str → Option Value} {base : Heap} {fI : Addr} : ∀ (cdv : Value) (A : Around) (outer : List Env) (s : Shared) (H : Hp) (E : XK), PSs (cxOf (L2.CX P w) P w K mg base ["self"] "NothingDone.__init__" (defScope sx_10) fI cdv A outer s H E) (defBody sx_10) (tOst K "given" (tVar 0) (tTup tNil)) := fun _ _ _ _ _ _ => pss_one (ps_ost (pv 0) (pe_tup pa_nil))
theorem ib_11 {P : Program} {w : World} {K : PySem.W.Frag} {mg : Str → Option Value} {base : Heap} {fI : Addr} : ∀ (cdv : Value) (A : Around) (outer : List Env) (s : Shared) (H : Hp) (E : XK), PSs (cxOf (L2.CX P w) P w K mg base ["self", "name"] "Known.__init__" (defScope sx_11) fI cdv A outer s H E) (defBody sx_11) (tOst K "name" (tVar 0) (tVar 1)) := fun _ _ _ _ _ _ => pss_one (ps_ost (pv 0) (pv 1))
theorem ib_12 {P : Program} {w : World} {K : PySem.W.Frag} {mg : Str → Option Value} {base : Heap} {fI : Addr} : ∀ (cdv : Value) (A : Around) (outer : List Env) (s : Shared) (H : Hp) (E : XK), PSs (cxOf (L2.CX P w) P w K mg base ["self", "name"] "NoSchema.__init__" (defScope sx_12) fI cdv A outer s H E) (defBody sx_12) (tOst K "name" (tVar 0) (tVar 1)) := fun _ _ _ _ _ _ => pss_one (ps_ost (pv 0) (pv 1))
theorem ib_13 {P : Program} {w : World} {K : PySem.W.Frag} {mg : Str → Option Value} {base : Heap} {fI : Addr} : ∀ (cdv : Value) (A : Around) (outer : List Env) (s : Shared) (H : Hp) (E : XK), PSs (cxOf (L2.CX P w) P w K mg base ["self", "number"] "NoNumber.__init__" (defScope sx_13) fI cdv A outer s H E) (defBody sx_13) (tOst K "number" (tVar 0) (tVar 1)) := fun _ _ _ _ _ _ => pss_one (ps_ost (pv 0) (pv 1))
theorem ib_14 {P : Program} {w : World} {K : PySem.W.Frag} {mg : Str → Option Value} {base : Heap} {fI : Addr} : ∀ (cdv : Value) (A : Around) (outer : List Env) (s : Shared) (H : Hp) (E : XK), PSs (cxOf (L2.CX P w) P w K mg base ["self", "answer"] "BadAnswer.__init__" (defScope sx_14) fI cdv A outer s H E) (defBody sx_14) (tOst K "answer" (tVar 0) (tVar 1)) := fun _ _ _ _ _ _ => pss_one (ps_ost (pv 0) (pv 1))
theorem ib_15 {P : Program} {w : World} {K : PySem.W.Frag} {mg : Str → Option Value} {base : Heap} {fI : Addr} : ∀ (cdv : Value) (A : Around) (outer : List Env) (s : Shared) (H : Hp) (E : XK), PSs (cxOf (L2.CX P w) P w K mg base ["self"] "AllKnown.__init__" (defScope sx_15) fI cdv A outer s H E) (defBody sx_15) (tOst K "given" (tVar 0) (tTup tNil)) := fun _ _ _ _ _ _ => pss_one (ps_ost (pv 0) (pe_tup pa_nil))
theorem sc_0 : FnScope ns_0 ps_0 (defScope s_0) := ⟨rfl, rfl, rfl, by decide +kernel, rfl, by decide +kernel, by decide +kernel⟩
theorem sc_1 : FnScope ns_1 ps_1 (defScope s_1) := ⟨rfl, rfl, rfl, by decide +kernel, rfl, by decide +kernel, by decide +kernel⟩
theorem sc_2 : FnScope ns_2 ps_2 (defScope s_2) := ⟨rfl, rfl, rfl, by decide +kernel, rfl, by decide +kernel, by decide +kernel⟩
theorem sc_3 : FnScope ns_3 ps_3 (defScope s_3) := ⟨rfl, rfl, rfl, by decide +kernel, rfl, by decide +kernel, by decide +kernel⟩
theorem sc_4 : FnScope ns_4 ps_4 (defScope s_4) := ⟨rfl, rfl, rfl, by decide +kernel, rfl, by decide +kernel, by decide +kernel⟩
theorem sc_5 : FnScope ns_5 ps_5 (defScope s_5) := ⟨rfl, rfl, rfl, by decide +kernel, rfl, by decide +kernel, by decide +kernel⟩
theorem sc_6 : FnScope ns_6 ps_6 (defScope s_6) := ⟨rfl, rfl, rfl, by decide +kernel, rfl, by decide +kernel, by decide +kernel⟩
theorem sc_7 : FnScope ns_7 ps_7 (defScope s_7) := ⟨rfl, rfl, rfl, by decide +kernel, rfl, by decide +kernel, by decide +kernel⟩
structure Ad where
  a0 : Addr
  d0 : FuncData
  a1 : Addr
  d1 : FuncData
  a2 : Addr
  d2 : FuncData
  a3 : Addr
  d3 : FuncData
  a4 : Addr
  d4 : FuncData
  a5 : Addr
  d5 : FuncData
  a6 : Addr
  d6 : FuncData
  a7 : Addr
  d7 : FuncData
  i1 : Addr
  j1 : FuncData
  i2 : Addr
  j2 : FuncData
  i3 : Addr
  j3 : FuncData
  i4 : Addr
  j4 : FuncData
  i5 : Addr
  j5 : FuncData
  i6 : Addr
  j6 : FuncData
  i7 : Addr
  j7 : FuncData
  i8 : Addr
  j8 : FuncData
  i9 : Addr
  j9 : FuncData
  i10 : Addr
  j10 : FuncData
  i11 : Addr
  j11 : FuncData
  i12 : Addr
  j12 : FuncData
  i13 : Addr
  j13 : FuncData
  i14 : Addr
  j14 : FuncData
  i15 : Addr
  j15 : FuncData
/-- what the top has written -/
structure Tx (K : PySem.W.Frag) (mg : Str → Option Value) (a : Ad) (k : Kx) : Prop where
  f0 : Fun K "_law_box" "_law_box" s_0 a.a0 a.d0
  b0 : Binds K a.d0 ps_0 []
  m0 : mg "_law_box" = some (.ref a.a0)
  f1 : Fun K "_law_take" "_law_take" s_1 a.a1 a.d1
  b1 : Binds K a.d1 ps_1 []
  m1 : mg "_law_take" = some (.ref a.a1)
  f2 : Fun K "_law_cells" "_law_cells" s_2 a.a2 a.d2
  b2 : Binds K a.d2 ps_2 []
  m2 : mg "_law_cells" = some (.ref a.a2)
  f3 : Fun K "_law_of" "_law_of" s_3 a.a3 a.d3
  b3 : Binds K a.d3 ps_3 []
  m3 : mg "_law_of" = some (.ref a.a3)
  f4 : Fun K "_law_same" "_law_same" s_4 a.a4 a.d4
  b4 : Binds K a.d4 ps_4 []
  m4 : mg "_law_same" = some (.ref a.a4)
  f5 : Fun K "_law_sorts" "_law_sorts" s_5 a.a5 a.d5
  b5 : Binds K a.d5 ps_5 []
  m5 : mg "_law_sorts" = some (.ref a.a5)
  f6 : Fun K "_law_right" "_law_right" s_6 a.a6 a.d6
  b6 : Binds K a.d6 ps_6 []
  m6 : mg "_law_right" = some (.ref a.a6)
  f7 : Fun K "law" "law" s_7 a.a7 a.d7
  b7 : Binds K a.d7 ps_7 []
  m7 : mg "law" = some (.ref a.a7)
  z_ValueError : mg "ValueError" = none
  z_abs : mg "abs" = none
  z_all : mg "all" = none
  z_bool : mg "bool" = none
  z_enumerate : mg "enumerate" = none
  z_int : mg "int" = none
  z_isinstance : mg "isinstance" = none
  z_len : mg "len" = none
  z_list : mg "list" = none
  z_range : mg "range" = none
  z_str : mg "str" = none
  z_tuple : mg "tuple" = none
  z_zip : mg "zip" = none
  x1 : ExcT K mg k 1 "BadLink" "place" "self" "BadLink.__init__" sx_1 a.i1 a.j1
  x2 : ExcT K mg k 2 "BadText" "piece" "self" "BadText.__init__" sx_2 a.i2 a.j2
  x3 : ExcT K mg k 3 "BadLine" "number" "self" "BadLine.__init__" sx_3 a.i3 a.j3
  x4 : ExcT K mg k 4 "BadRows" "name" "self" "BadRows.__init__" sx_4 a.i4 a.j4
  x5 : ExcT K mg k 5 "BadPairs" "place" "self" "BadPairs.__init__" sx_5 a.i5 a.j5
  x6 : ExcT K mg k 6 "NoTable" "name" "self" "NoTable.__init__" sx_6 a.i6 a.j6
  x7 : ExcT K mg k 7 "NoLink" "name" "self" "NoLink.__init__" sx_7 a.i7 a.j7
  x8 : ExcT0 K mg k 8 "NotOne" "given" "self" "NotOne.__init__" sx_8 a.i8 a.j8
  x9 : ExcT0 K mg k 9 "OtherTables" "given" "self" "OtherTables.__init__" sx_9 a.i9 a.j9
  x10 : ExcT0 K mg k 10 "NothingDone" "given" "self" "NothingDone.__init__" sx_10 a.i10 a.j10
  x11 : ExcT K mg k 11 "Known" "name" "self" "Known.__init__" sx_11 a.i11 a.j11
  x12 : ExcT K mg k 12 "NoSchema" "name" "self" "NoSchema.__init__" sx_12 a.i12 a.j12
  x13 : ExcT K mg k 13 "NoNumber" "number" "self" "NoNumber.__init__" sx_13 a.i13 a.j13
  x14 : ExcT K mg k 14 "BadAnswer" "answer" "self" "BadAnswer.__init__" sx_14 a.i14 a.j14
  x15 : ExcT0 K mg k 15 "AllKnown" "given" "self" "AllKnown.__init__" sx_15 a.i15 a.j15
  y1 : ∀ (s : Shared) (self u : Value), BindsTo s a.j1 ⟨[self], [("place", u)]⟩ ((["self", "place"] : List Str).zip [self, u])
  y2 : ∀ (s : Shared) (self u : Value), BindsTo s a.j2 ⟨[self], [("piece", u)]⟩ ((["self", "piece"] : List Str).zip [self, u])
  y3 : ∀ (s : Shared) (self u : Value), BindsTo s a.j3 ⟨[self], [("number", u)]⟩ ((["self", "number"] : List Str).zip [self, u])
  y4 : ∀ (s : Shared) (self u : Value), BindsTo s a.j4 ⟨[self], [("name", u)]⟩ ((["self", "name"] : List Str).zip [self, u])
  y5 : ∀ (s : Shared) (self u : Value), BindsTo s a.j5 ⟨[self], [("place", u)]⟩ ((["self", "place"] : List Str).zip [self, u])
  y6 : ∀ (s : Shared) (self u : Value), BindsTo s a.j6 ⟨[self], [("name", u)]⟩ ((["self", "name"] : List Str).zip [self, u])
  y7 : ∀ (s : Shared) (self u : Value), BindsTo s a.j7 ⟨[self], [("name", u)]⟩ ((["self", "name"] : List Str).zip [self, u])
  y11 : ∀ (s : Shared) (self u : Value), BindsTo s a.j11 ⟨[self], [("name", u)]⟩ ((["self", "name"] : List Str).zip [self, u])
  y12 : ∀ (s : Shared) (self u : Value), BindsTo s a.j12 ⟨[self], [("name", u)]⟩ ((["self", "name"] : List Str).zip [self, u])
  y13 : ∀ (s : Shared) (self u : Value), BindsTo s a.j13 ⟨[self], [("number", u)]⟩ ((["self", "number"] : List Str).zip [self, u])
  y14 : ∀ (s : Shared) (self u : Value), BindsTo s a.j14 ⟨[self], [("answer", u)]⟩ ((["self", "answer"] : List Str).zip [self, u])
  n_AllKnown : mg "AllKnown" = some (.ref (k.cm 15))
  n_BadAnswer : mg "BadAnswer" = some (.ref (k.cm 14))
  n_BadLine : mg "BadLine" = some (.ref (k.cm 3))
  n_BadLink : mg "BadLink" = some (.ref (k.cm 1))
  n_BadPairs : mg "BadPairs" = some (.ref (k.cm 5))
  n_BadRows : mg "BadRows" = some (.ref (k.cm 4))
  n_BadText : mg "BadText" = some (.ref (k.cm 2))
  n_FanError : mg "FanError" = some (.ref (k.cm 0))
  n_Known : mg "Known" = some (.ref (k.cm 11))
  n_NoLink : mg "NoLink" = some (.ref (k.cm 7))
  n_NoNumber : mg "NoNumber" = some (.ref (k.cm 13))
  n_NoSchema : mg "NoSchema" = some (.ref (k.cm 12))
  n_NoTable : mg "NoTable" = some (.ref (k.cm 6))
  n_NotOne : mg "NotOne" = some (.ref (k.cm 8))
  n_NothingDone : mg "NothingDone" = some (.ref (k.cm 10))
  n_OtherTables : mg "OtherTables" = some (.ref (k.cm 9))
  k_BadLink_AllKnown : PySem.W.kitOne K (.ref (k.cm 1)) (.ref (k.cm 15)) = some false
  k_BadText_AllKnown : PySem.W.kitOne K (.ref (k.cm 2)) (.ref (k.cm 15)) = some false
  k_BadLine_AllKnown : PySem.W.kitOne K (.ref (k.cm 3)) (.ref (k.cm 15)) = some false
  k_BadRows_AllKnown : PySem.W.kitOne K (.ref (k.cm 4)) (.ref (k.cm 15)) = some false
  k_BadPairs_AllKnown : PySem.W.kitOne K (.ref (k.cm 5)) (.ref (k.cm 15)) = some false
  k_NoTable_AllKnown : PySem.W.kitOne K (.ref (k.cm 6)) (.ref (k.cm 15)) = some false
  k_NoLink_AllKnown : PySem.W.kitOne K (.ref (k.cm 7)) (.ref (k.cm 15)) = some false
  k_NotOne_AllKnown : PySem.W.kitOne K (.ref (k.cm 8)) (.ref (k.cm 15)) = some false
  k_OtherTables_AllKnown : PySem.W.kitOne K (.ref (k.cm 9)) (.ref (k.cm 15)) = some false
  k_NothingDone_AllKnown : PySem.W.kitOne K (.ref (k.cm 10)) (.ref (k.cm 15)) = some false
  k_Known_AllKnown : PySem.W.kitOne K (.ref (k.cm 11)) (.ref (k.cm 15)) = some false
  k_NoSchema_AllKnown : PySem.W.kitOne K (.ref (k.cm 12)) (.ref (k.cm 15)) = some false
  k_NoNumber_AllKnown : PySem.W.kitOne K (.ref (k.cm 13)) (.ref (k.cm 15)) = some false
  k_BadAnswer_AllKnown : PySem.W.kitOne K (.ref (k.cm 14)) (.ref (k.cm 15)) = some false
  k_AllKnown_AllKnown : PySem.W.kitOne K (.ref (k.cm 15)) (.ref (k.cm 15)) = some true
  kb_AllKnown : ∀ T ∈ tyNames, PySem.W.kitOne K (.type T) (.ref (k.cm 15)) = some false
  k_BadLink_BadAnswer : PySem.W.kitOne K (.ref (k.cm 1)) (.ref (k.cm 14)) = some false
  k_BadText_BadAnswer : PySem.W.kitOne K (.ref (k.cm 2)) (.ref (k.cm 14)) = some false
  k_BadLine_BadAnswer : PySem.W.kitOne K (.ref (k.cm 3)) (.ref (k.cm 14)) = some false
  k_BadRows_BadAnswer : PySem.W.kitOne K (.ref (k.cm 4)) (.ref (k.cm 14)) = some false
  k_BadPairs_BadAnswer : PySem.W.kitOne K (.ref (k.cm 5)) (.ref (k.cm 14)) = some false
  k_NoTable_BadAnswer : PySem.W.kitOne K (.ref (k.cm 6)) (.ref (k.cm 14)) = some false
  k_NoLink_BadAnswer : PySem.W.kitOne K (.ref (k.cm 7)) (.ref (k.cm 14)) = some false
  k_NotOne_BadAnswer : PySem.W.kitOne K (.ref (k.cm 8)) (.ref (k.cm 14)) = some false
  k_OtherTables_BadAnswer : PySem.W.kitOne K (.ref (k.cm 9)) (.ref (k.cm 14)) = some false
  k_NothingDone_BadAnswer : PySem.W.kitOne K (.ref (k.cm 10)) (.ref (k.cm 14)) = some false
  k_Known_BadAnswer : PySem.W.kitOne K (.ref (k.cm 11)) (.ref (k.cm 14)) = some false
  k_NoSchema_BadAnswer : PySem.W.kitOne K (.ref (k.cm 12)) (.ref (k.cm 14)) = some false
  k_NoNumber_BadAnswer : PySem.W.kitOne K (.ref (k.cm 13)) (.ref (k.cm 14)) = some false
  k_BadAnswer_BadAnswer : PySem.W.kitOne K (.ref (k.cm 14)) (.ref (k.cm 14)) = some true
  k_AllKnown_BadAnswer : PySem.W.kitOne K (.ref (k.cm 15)) (.ref (k.cm 14)) = some false
  kb_BadAnswer : ∀ T ∈ tyNames, PySem.W.kitOne K (.type T) (.ref (k.cm 14)) = some false
  k_BadLink_BadLine : PySem.W.kitOne K (.ref (k.cm 1)) (.ref (k.cm 3)) = some false
  k_BadText_BadLine : PySem.W.kitOne K (.ref (k.cm 2)) (.ref (k.cm 3)) = some false
  k_BadLine_BadLine : PySem.W.kitOne K (.ref (k.cm 3)) (.ref (k.cm 3)) = some true
  k_BadRows_BadLine : PySem.W.kitOne K (.ref (k.cm 4)) (.ref (k.cm 3)) = some false
  k_BadPairs_BadLine : PySem.W.kitOne K (.ref (k.cm 5)) (.ref (k.cm 3)) = some false
  k_NoTable_BadLine : PySem.W.kitOne K (.ref (k.cm 6)) (.ref (k.cm 3)) = some false
  k_NoLink_BadLine : PySem.W.kitOne K (.ref (k.cm 7)) (.ref (k.cm 3)) = some false
  k_NotOne_BadLine : PySem.W.kitOne K (.ref (k.cm 8)) (.ref (k.cm 3)) = some false
  k_OtherTables_BadLine : PySem.W.kitOne K (.ref (k.cm 9)) (.ref (k.cm 3)) = some false
  k_NothingDone_BadLine : PySem.W.kitOne K (.ref (k.cm 10)) (.ref (k.cm 3)) = some false
  k_Known_BadLine : PySem.W.kitOne K (.ref (k.cm 11)) (.ref (k.cm 3)) = some false
  k_NoSchema_BadLine : PySem.W.kitOne K (.ref (k.cm 12)) (.ref (k.cm 3)) = some false
  k_NoNumber_BadLine : PySem.W.kitOne K (.ref (k.cm 13)) (.ref (k.cm 3)) = some false
  k_BadAnswer_BadLine : PySem.W.kitOne K (.ref (k.cm 14)) (.ref (k.cm 3)) = some false
  k_AllKnown_BadLine : PySem.W.kitOne K (.ref (k.cm 15)) (.ref (k.cm 3)) = some false
  kb_BadLine : ∀ T ∈ tyNames, PySem.W.kitOne K (.type T) (.ref (k.cm 3)) = some false
  k_BadLink_BadLink : PySem.W.kitOne K (.ref (k.cm 1)) (.ref (k.cm 1)) = some true
  k_BadText_BadLink : PySem.W.kitOne K (.ref (k.cm 2)) (.ref (k.cm 1)) = some false
  k_BadLine_BadLink : PySem.W.kitOne K (.ref (k.cm 3)) (.ref (k.cm 1)) = some false
  k_BadRows_BadLink : PySem.W.kitOne K (.ref (k.cm 4)) (.ref (k.cm 1)) = some false
  k_BadPairs_BadLink : PySem.W.kitOne K (.ref (k.cm 5)) (.ref (k.cm 1)) = some false
  k_NoTable_BadLink : PySem.W.kitOne K (.ref (k.cm 6)) (.ref (k.cm 1)) = some false
  k_NoLink_BadLink : PySem.W.kitOne K (.ref (k.cm 7)) (.ref (k.cm 1)) = some false
  k_NotOne_BadLink : PySem.W.kitOne K (.ref (k.cm 8)) (.ref (k.cm 1)) = some false
  k_OtherTables_BadLink : PySem.W.kitOne K (.ref (k.cm 9)) (.ref (k.cm 1)) = some false
  k_NothingDone_BadLink : PySem.W.kitOne K (.ref (k.cm 10)) (.ref (k.cm 1)) = some false
  k_Known_BadLink : PySem.W.kitOne K (.ref (k.cm 11)) (.ref (k.cm 1)) = some false
  k_NoSchema_BadLink : PySem.W.kitOne K (.ref (k.cm 12)) (.ref (k.cm 1)) = some false
  k_NoNumber_BadLink : PySem.W.kitOne K (.ref (k.cm 13)) (.ref (k.cm 1)) = some false
  k_BadAnswer_BadLink : PySem.W.kitOne K (.ref (k.cm 14)) (.ref (k.cm 1)) = some false
  k_AllKnown_BadLink : PySem.W.kitOne K (.ref (k.cm 15)) (.ref (k.cm 1)) = some false
  kb_BadLink : ∀ T ∈ tyNames, PySem.W.kitOne K (.type T) (.ref (k.cm 1)) = some false
  k_BadLink_BadPairs : PySem.W.kitOne K (.ref (k.cm 1)) (.ref (k.cm 5)) = some false
  k_BadText_BadPairs : PySem.W.kitOne K (.ref (k.cm 2)) (.ref (k.cm 5)) = some false
  k_BadLine_BadPairs : PySem.W.kitOne K (.ref (k.cm 3)) (.ref (k.cm 5)) = some false
  k_BadRows_BadPairs : PySem.W.kitOne K (.ref (k.cm 4)) (.ref (k.cm 5)) = some false
  k_BadPairs_BadPairs : PySem.W.kitOne K (.ref (k.cm 5)) (.ref (k.cm 5)) = some true
  k_NoTable_BadPairs : PySem.W.kitOne K (.ref (k.cm 6)) (.ref (k.cm 5)) = some false
  k_NoLink_BadPairs : PySem.W.kitOne K (.ref (k.cm 7)) (.ref (k.cm 5)) = some false
  k_NotOne_BadPairs : PySem.W.kitOne K (.ref (k.cm 8)) (.ref (k.cm 5)) = some false
  k_OtherTables_BadPairs : PySem.W.kitOne K (.ref (k.cm 9)) (.ref (k.cm 5)) = some false
  k_NothingDone_BadPairs : PySem.W.kitOne K (.ref (k.cm 10)) (.ref (k.cm 5)) = some false
  k_Known_BadPairs : PySem.W.kitOne K (.ref (k.cm 11)) (.ref (k.cm 5)) = some false
  k_NoSchema_BadPairs : PySem.W.kitOne K (.ref (k.cm 12)) (.ref (k.cm 5)) = some false
  k_NoNumber_BadPairs : PySem.W.kitOne K (.ref (k.cm 13)) (.ref (k.cm 5)) = some false
  k_BadAnswer_BadPairs : PySem.W.kitOne K (.ref (k.cm 14)) (.ref (k.cm 5)) = some false
  k_AllKnown_BadPairs : PySem.W.kitOne K (.ref (k.cm 15)) (.ref (k.cm 5)) = some false
  kb_BadPairs : ∀ T ∈ tyNames, PySem.W.kitOne K (.type T) (.ref (k.cm 5)) = some false
  k_BadLink_BadRows : PySem.W.kitOne K (.ref (k.cm 1)) (.ref (k.cm 4)) = some false
  k_BadText_BadRows : PySem.W.kitOne K (.ref (k.cm 2)) (.ref (k.cm 4)) = some false
  k_BadLine_BadRows : PySem.W.kitOne K (.ref (k.cm 3)) (.ref (k.cm 4)) = some false
  k_BadRows_BadRows : PySem.W.kitOne K (.ref (k.cm 4)) (.ref (k.cm 4)) = some true
  k_BadPairs_BadRows : PySem.W.kitOne K (.ref (k.cm 5)) (.ref (k.cm 4)) = some false
  k_NoTable_BadRows : PySem.W.kitOne K (.ref (k.cm 6)) (.ref (k.cm 4)) = some false
  k_NoLink_BadRows : PySem.W.kitOne K (.ref (k.cm 7)) (.ref (k.cm 4)) = some false
  k_NotOne_BadRows : PySem.W.kitOne K (.ref (k.cm 8)) (.ref (k.cm 4)) = some false
  k_OtherTables_BadRows : PySem.W.kitOne K (.ref (k.cm 9)) (.ref (k.cm 4)) = some false
  k_NothingDone_BadRows : PySem.W.kitOne K (.ref (k.cm 10)) (.ref (k.cm 4)) = some false
  k_Known_BadRows : PySem.W.kitOne K (.ref (k.cm 11)) (.ref (k.cm 4)) = some false
  k_NoSchema_BadRows : PySem.W.kitOne K (.ref (k.cm 12)) (.ref (k.cm 4)) = some false
  k_NoNumber_BadRows : PySem.W.kitOne K (.ref (k.cm 13)) (.ref (k.cm 4)) = some false
  k_BadAnswer_BadRows : PySem.W.kitOne K (.ref (k.cm 14)) (.ref (k.cm 4)) = some false
  k_AllKnown_BadRows : PySem.W.kitOne K (.ref (k.cm 15)) (.ref (k.cm 4)) = some false
  kb_BadRows : ∀ T ∈ tyNames, PySem.W.kitOne K (.type T) (.ref (k.cm 4)) = some false
  k_BadLink_BadText : PySem.W.kitOne K (.ref (k.cm 1)) (.ref (k.cm 2)) = some false
  k_BadText_BadText : PySem.W.kitOne K (.ref (k.cm 2)) (.ref (k.cm 2)) = some true
  k_BadLine_BadText : PySem.W.kitOne K (.ref (k.cm 3)) (.ref (k.cm 2)) = some false
  k_BadRows_BadText : PySem.W.kitOne K (.ref (k.cm 4)) (.ref (k.cm 2)) = some false
  k_BadPairs_BadText : PySem.W.kitOne K (.ref (k.cm 5)) (.ref (k.cm 2)) = some false
  k_NoTable_BadText : PySem.W.kitOne K (.ref (k.cm 6)) (.ref (k.cm 2)) = some false
  k_NoLink_BadText : PySem.W.kitOne K (.ref (k.cm 7)) (.ref (k.cm 2)) = some false
  k_NotOne_BadText : PySem.W.kitOne K (.ref (k.cm 8)) (.ref (k.cm 2)) = some false
  k_OtherTables_BadText : PySem.W.kitOne K (.ref (k.cm 9)) (.ref (k.cm 2)) = some false
  k_NothingDone_BadText : PySem.W.kitOne K (.ref (k.cm 10)) (.ref (k.cm 2)) = some false
  k_Known_BadText : PySem.W.kitOne K (.ref (k.cm 11)) (.ref (k.cm 2)) = some false
  k_NoSchema_BadText : PySem.W.kitOne K (.ref (k.cm 12)) (.ref (k.cm 2)) = some false
  k_NoNumber_BadText : PySem.W.kitOne K (.ref (k.cm 13)) (.ref (k.cm 2)) = some false
  k_BadAnswer_BadText : PySem.W.kitOne K (.ref (k.cm 14)) (.ref (k.cm 2)) = some false
  k_AllKnown_BadText : PySem.W.kitOne K (.ref (k.cm 15)) (.ref (k.cm 2)) = some false
  kb_BadText : ∀ T ∈ tyNames, PySem.W.kitOne K (.type T) (.ref (k.cm 2)) = some false
  k_BadLink_FanError : PySem.W.kitOne K (.ref (k.cm 1)) (.ref (k.cm 0)) = some true
  k_BadText_FanError : PySem.W.kitOne K (.ref (k.cm 2)) (.ref (k.cm 0)) = some true
  k_BadLine_FanError : PySem.W.kitOne K (.ref (k.cm 3)) (.ref (k.cm 0)) = some true
  k_BadRows_FanError : PySem.W.kitOne K (.ref (k.cm 4)) (.ref (k.cm 0)) = some true
  k_BadPairs_FanError : PySem.W.kitOne K (.ref (k.cm 5)) (.ref (k.cm 0)) = some true
  k_NoTable_FanError : PySem.W.kitOne K (.ref (k.cm 6)) (.ref (k.cm 0)) = some true
  k_NoLink_FanError : PySem.W.kitOne K (.ref (k.cm 7)) (.ref (k.cm 0)) = some true
  k_NotOne_FanError : PySem.W.kitOne K (.ref (k.cm 8)) (.ref (k.cm 0)) = some true
  k_OtherTables_FanError : PySem.W.kitOne K (.ref (k.cm 9)) (.ref (k.cm 0)) = some true
  k_NothingDone_FanError : PySem.W.kitOne K (.ref (k.cm 10)) (.ref (k.cm 0)) = some true
  k_Known_FanError : PySem.W.kitOne K (.ref (k.cm 11)) (.ref (k.cm 0)) = some true
  k_NoSchema_FanError : PySem.W.kitOne K (.ref (k.cm 12)) (.ref (k.cm 0)) = some true
  k_NoNumber_FanError : PySem.W.kitOne K (.ref (k.cm 13)) (.ref (k.cm 0)) = some true
  k_BadAnswer_FanError : PySem.W.kitOne K (.ref (k.cm 14)) (.ref (k.cm 0)) = some true
  k_AllKnown_FanError : PySem.W.kitOne K (.ref (k.cm 15)) (.ref (k.cm 0)) = some true
  kb_FanError : ∀ T ∈ tyNames, PySem.W.kitOne K (.type T) (.ref (k.cm 0)) = some false
  k_BadLink_Known : PySem.W.kitOne K (.ref (k.cm 1)) (.ref (k.cm 11)) = some false
  k_BadText_Known : PySem.W.kitOne K (.ref (k.cm 2)) (.ref (k.cm 11)) = some false
  k_BadLine_Known : PySem.W.kitOne K (.ref (k.cm 3)) (.ref (k.cm 11)) = some false
  k_BadRows_Known : PySem.W.kitOne K (.ref (k.cm 4)) (.ref (k.cm 11)) = some false
  k_BadPairs_Known : PySem.W.kitOne K (.ref (k.cm 5)) (.ref (k.cm 11)) = some false
  k_NoTable_Known : PySem.W.kitOne K (.ref (k.cm 6)) (.ref (k.cm 11)) = some false
  k_NoLink_Known : PySem.W.kitOne K (.ref (k.cm 7)) (.ref (k.cm 11)) = some false
  k_NotOne_Known : PySem.W.kitOne K (.ref (k.cm 8)) (.ref (k.cm 11)) = some false
  k_OtherTables_Known : PySem.W.kitOne K (.ref (k.cm 9)) (.ref (k.cm 11)) = some false
  k_NothingDone_Known : PySem.W.kitOne K (.ref (k.cm 10)) (.ref (k.cm 11)) = some false
  k_Known_Known : PySem.W.kitOne K (.ref (k.cm 11)) (.ref (k.cm 11)) = some true
  k_NoSchema_Known : PySem.W.kitOne K (.ref (k.cm 12)) (.ref (k.cm 11)) = some false
  k_NoNumber_Known : PySem.W.kitOne K (.ref (k.cm 13)) (.ref (k.cm 11)) = some false
  k_BadAnswer_Known : PySem.W.kitOne K (.ref (k.cm 14)) (.ref (k.cm 11)) = some false
  k_AllKnown_Known : PySem.W.kitOne K (.ref (k.cm 15)) (.ref (k.cm 11)) = some false
  kb_Known : ∀ T ∈ tyNames, PySem.W.kitOne K (.type T) (.ref (k.cm 11)) = some false
  k_BadLink_NoLink : PySem.W.kitOne K (.ref (k.cm 1)) (.ref (k.cm 7)) = some false
  k_BadText_NoLink : PySem.W.kitOne K (.ref (k.cm 2)) (.ref (k.cm 7)) = some false
  k_BadLine_NoLink : PySem.W.kitOne K (.ref (k.cm 3)) (.ref (k.cm 7)) = some false
  k_BadRows_NoLink : PySem.W.kitOne K (.ref (k.cm 4)) (.ref (k.cm 7)) = some false
  k_BadPairs_NoLink : PySem.W.kitOne K (.ref (k.cm 5)) (.ref (k.cm 7)) = some false
  k_NoTable_NoLink : PySem.W.kitOne K (.ref (k.cm 6)) (.ref (k.cm 7)) = some false
  k_NoLink_NoLink : PySem.W.kitOne K (.ref (k.cm 7)) (.ref (k.cm 7)) = some true
  k_NotOne_NoLink : PySem.W.kitOne K (.ref (k.cm 8)) (.ref (k.cm 7)) = some false
  k_OtherTables_NoLink : PySem.W.kitOne K (.ref (k.cm 9)) (.ref (k.cm 7)) = some false
  k_NothingDone_NoLink : PySem.W.kitOne K (.ref (k.cm 10)) (.ref (k.cm 7)) = some false
  k_Known_NoLink : PySem.W.kitOne K (.ref (k.cm 11)) (.ref (k.cm 7)) = some false
  k_NoSchema_NoLink : PySem.W.kitOne K (.ref (k.cm 12)) (.ref (k.cm 7)) = some false
  k_NoNumber_NoLink : PySem.W.kitOne K (.ref (k.cm 13)) (.ref (k.cm 7)) = some false
  k_BadAnswer_NoLink : PySem.W.kitOne K (.ref (k.cm 14)) (.ref (k.cm 7)) = some false
  k_AllKnown_NoLink : PySem.W.kitOne K (.ref (k.cm 15)) (.ref (k.cm 7)) = some false
  kb_NoLink : ∀ T ∈ tyNames, PySem.W.kitOne K (.type T) (.ref (k.cm 7)) = some false
  k_BadLink_NoNumber : PySem.W.kitOne K (.ref (k.cm 1)) (.ref (k.cm 13)) = some false
  k_BadText_NoNumber : PySem.W.kitOne K (.ref (k.cm 2)) (.ref (k.cm 13)) = some false
  k_BadLine_NoNumber : PySem.W.kitOne K (.ref (k.cm 3)) (.ref (k.cm 13)) = some false
  k_BadRows_NoNumber : PySem.W.kitOne K (.ref (k.cm 4)) (.ref (k.cm 13)) = some false
  k_BadPairs_NoNumber : PySem.W.kitOne K (.ref (k.cm 5)) (.ref (k.cm 13)) = some false
  k_NoTable_NoNumber : PySem.W.kitOne K (.ref (k.cm 6)) (.ref (k.cm 13)) = some false
  k_NoLink_NoNumber : PySem.W.kitOne K (.ref (k.cm 7)) (.ref (k.cm 13)) = some false
  k_NotOne_NoNumber : PySem.W.kitOne K (.ref (k.cm 8)) (.ref (k.cm 13)) = some false
  k_OtherTables_NoNumber : PySem.W.kitOne K (.ref (k.cm 9)) (.ref (k.cm 13)) = some false
  k_NothingDone_NoNumber : PySem.W.kitOne K (.ref (k.cm 10)) (.ref (k.cm 13)) = some false
  k_Known_NoNumber : PySem.W.kitOne K (.ref (k.cm 11)) (.ref (k.cm 13)) = some false
  k_NoSchema_NoNumber : PySem.W.kitOne K (.ref (k.cm 12)) (.ref (k.cm 13)) = some false
  k_NoNumber_NoNumber : PySem.W.kitOne K (.ref (k.cm 13)) (.ref (k.cm 13)) = some true
  k_BadAnswer_NoNumber : PySem.W.kitOne K (.ref (k.cm 14)) (.ref (k.cm 13)) = some false
  k_AllKnown_NoNumber : PySem.W.kitOne K (.ref (k.cm 15)) (.ref (k.cm 13)) = some false
  kb_NoNumber : ∀ T ∈ tyNames, PySem.W.kitOne K (.type T) (.ref (k.cm 13)) = some false
  k_BadLink_NoSchema : PySem.W.kitOne K (.ref (k.cm 1)) (.ref (k.cm 12)) = some false
  k_BadText_NoSchema : PySem.W.kitOne K (.ref (k.cm 2)) (.ref (k.cm 12)) = some false
  k_BadLine_NoSchema : PySem.W.kitOne K (.ref (k.cm 3)) (.ref (k.cm 12)) = some false
  k_BadRows_NoSchema : PySem.W.kitOne K (.ref (k.cm 4)) (.ref (k.cm 12)) = some false
  k_BadPairs_NoSchema : PySem.W.kitOne K (.ref (k.cm 5)) (.ref (k.cm 12)) = some false
  k_NoTable_NoSchema : PySem.W.kitOne K (.ref (k.cm 6)) (.ref (k.cm 12)) = some false
  k_NoLink_NoSchema : PySem.W.kitOne K (.ref (k.cm 7)) (.ref (k.cm 12)) = some false
  k_NotOne_NoSchema : PySem.W.kitOne K (.ref (k.cm 8)) (.ref (k.cm 12)) = some false
  k_OtherTables_NoSchema : PySem.W.kitOne K (.ref (k.cm 9)) (.ref (k.cm 12)) = some false
  k_NothingDone_NoSchema : PySem.W.kitOne K (.ref (k.cm 10)) (.ref (k.cm 12)) = some false
  k_Known_NoSchema : PySem.W.kitOne K (.ref (k.cm 11)) (.ref (k.cm 12)) = some false
  k_NoSchema_NoSchema : PySem.W.kitOne K (.ref (k.cm 12)) (.ref (k.cm 12)) = some true
  k_NoNumber_NoSchema : PySem.W.kitOne K (.ref (k.cm 13)) (.ref (k.cm 12)) = some false
  k_BadAnswer_NoSchema : PySem.W.kitOne K (.ref (k.cm 14)) (.ref (k.cm 12)) = some false
  k_AllKnown_NoSchema : PySem.W.kitOne K (.ref (k.cm 15)) (.ref (k.cm 12)) = some false
  kb_NoSchema : ∀ T ∈ tyNames, PySem.W.kitOne K (.type T) (.ref (k.cm 12)) = some false
  k_BadLink_NoTable : PySem.W.kitOne K (.ref (k.cm 1)) (.ref (k.cm 6)) = some false
  k_BadText_NoTable : PySem.W.kitOne K (.ref (k.cm 2)) (.ref (k.cm 6)) = some false
  k_BadLine_NoTable : PySem.W.kitOne K (.ref (k.cm 3)) (.ref (k.cm 6)) = some false
  k_BadRows_NoTable : PySem.W.kitOne K (.ref (k.cm 4)) (.ref (k.cm 6)) = some false
  k_BadPairs_NoTable : PySem.W.kitOne K (.ref (k.cm 5)) (.ref (k.cm 6)) = some false
  k_NoTable_NoTable : PySem.W.kitOne K (.ref (k.cm 6)) (.ref (k.cm 6)) = some true
  k_NoLink_NoTable : PySem.W.kitOne K (.ref (k.cm 7)) (.ref (k.cm 6)) = some false
  k_NotOne_NoTable : PySem.W.kitOne K (.ref (k.cm 8)) (.ref (k.cm 6)) = some false
  k_OtherTables_NoTable : PySem.W.kitOne K (.ref (k.cm 9)) (.ref (k.cm 6)) = some false
  k_NothingDone_NoTable : PySem.W.kitOne K (.ref (k.cm 10)) (.ref (k.cm 6)) = some false
  k_Known_NoTable : PySem.W.kitOne K (.ref (k.cm 11)) (.ref (k.cm 6)) = some false
  k_NoSchema_NoTable : PySem.W.kitOne K (.ref (k.cm 12)) (.ref (k.cm 6)) = some false
  k_NoNumber_NoTable : PySem.W.kitOne K (.ref (k.cm 13)) (.ref (k.cm 6)) = some false
  k_BadAnswer_NoTable : PySem.W.kitOne K (.ref (k.cm 14)) (.ref (k.cm 6)) = some false
  k_AllKnown_NoTable : PySem.W.kitOne K (.ref (k.cm 15)) (.ref (k.cm 6)) = some false
  kb_NoTable : ∀ T ∈ tyNames, PySem.W.kitOne K (.type T) (.ref (k.cm 6)) = some false
  k_BadLink_NotOne : PySem.W.kitOne K (.ref (k.cm 1)) (.ref (k.cm 8)) = some false
  k_BadText_NotOne : PySem.W.kitOne K (.ref (k.cm 2)) (.ref (k.cm 8)) = some false
  k_BadLine_NotOne : PySem.W.kitOne K (.ref (k.cm 3)) (.ref (k.cm 8)) = some false
  k_BadRows_NotOne : PySem.W.kitOne K (.ref (k.cm 4)) (.ref (k.cm 8)) = some false
  k_BadPairs_NotOne : PySem.W.kitOne K (.ref (k.cm 5)) (.ref (k.cm 8)) = some false
  k_NoTable_NotOne : PySem.W.kitOne K (.ref (k.cm 6)) (.ref (k.cm 8)) = some false
  k_NoLink_NotOne : PySem.W.kitOne K (.ref (k.cm 7)) (.ref (k.cm 8)) = some false
  k_NotOne_NotOne : PySem.W.kitOne K (.ref (k.cm 8)) (.ref (k.cm 8)) = some true
  k_OtherTables_NotOne : PySem.W.kitOne K (.ref (k.cm 9)) (.ref (k.cm 8)) = some false
  k_NothingDone_NotOne : PySem.W.kitOne K (.ref (k.cm 10)) (.ref (k.cm 8)) = some false
  k_Known_NotOne : PySem.W.kitOne K (.ref (k.cm 11)) (.ref (k.cm 8)) = some false
  k_NoSchema_NotOne : PySem.W.kitOne K (.ref (k.cm 12)) (.ref (k.cm 8)) = some false
  k_NoNumber_NotOne : PySem.W.kitOne K (.ref (k.cm 13)) (.ref (k.cm 8)) = some false
  k_BadAnswer_NotOne : PySem.W.kitOne K (.ref (k.cm 14)) (.ref (k.cm 8)) = some false
  k_AllKnown_NotOne : PySem.W.kitOne K (.ref (k.cm 15)) (.ref (k.cm 8)) = some false
  kb_NotOne : ∀ T ∈ tyNames, PySem.W.kitOne K (.type T) (.ref (k.cm 8)) = some false
  k_BadLink_NothingDone : PySem.W.kitOne K (.ref (k.cm 1)) (.ref (k.cm 10)) = some false
  k_BadText_NothingDone : PySem.W.kitOne K (.ref (k.cm 2)) (.ref (k.cm 10)) = some false
  k_BadLine_NothingDone : PySem.W.kitOne K (.ref (k.cm 3)) (.ref (k.cm 10)) = some false
  k_BadRows_NothingDone : PySem.W.kitOne K (.ref (k.cm 4)) (.ref (k.cm 10)) = some false
  k_BadPairs_NothingDone : PySem.W.kitOne K (.ref (k.cm 5)) (.ref (k.cm 10)) = some false
  k_NoTable_NothingDone : PySem.W.kitOne K (.ref (k.cm 6)) (.ref (k.cm 10)) = some false
  k_NoLink_NothingDone : PySem.W.kitOne K (.ref (k.cm 7)) (.ref (k.cm 10)) = some false
  k_NotOne_NothingDone : PySem.W.kitOne K (.ref (k.cm 8)) (.ref (k.cm 10)) = some false
  k_OtherTables_NothingDone : PySem.W.kitOne K (.ref (k.cm 9)) (.ref (k.cm 10)) = some false
  k_NothingDone_NothingDone : PySem.W.kitOne K (.ref (k.cm 10)) (.ref (k.cm 10)) = some true
  k_Known_NothingDone : PySem.W.kitOne K (.ref (k.cm 11)) (.ref (k.cm 10)) = some false
  k_NoSchema_NothingDone : PySem.W.kitOne K (.ref (k.cm 12)) (.ref (k.cm 10)) = some false
  k_NoNumber_NothingDone : PySem.W.kitOne K (.ref (k.cm 13)) (.ref (k.cm 10)) = some false
  k_BadAnswer_NothingDone : PySem.W.kitOne K (.ref (k.cm 14)) (.ref (k.cm 10)) = some false
  k_AllKnown_NothingDone : PySem.W.kitOne K (.ref (k.cm 15)) (.ref (k.cm 10)) = some false
  kb_NothingDone : ∀ T ∈ tyNames, PySem.W.kitOne K (.type T) (.ref (k.cm 10)) = some false
  k_BadLink_OtherTables : PySem.W.kitOne K (.ref (k.cm 1)) (.ref (k.cm 9)) = some false
  k_BadText_OtherTables : PySem.W.kitOne K (.ref (k.cm 2)) (.ref (k.cm 9)) = some false
  k_BadLine_OtherTables : PySem.W.kitOne K (.ref (k.cm 3)) (.ref (k.cm 9)) = some false
  k_BadRows_OtherTables : PySem.W.kitOne K (.ref (k.cm 4)) (.ref (k.cm 9)) = some false
  k_BadPairs_OtherTables : PySem.W.kitOne K (.ref (k.cm 5)) (.ref (k.cm 9)) = some false
  k_NoTable_OtherTables : PySem.W.kitOne K (.ref (k.cm 6)) (.ref (k.cm 9)) = some false
  k_NoLink_OtherTables : PySem.W.kitOne K (.ref (k.cm 7)) (.ref (k.cm 9)) = some false
  k_NotOne_OtherTables : PySem.W.kitOne K (.ref (k.cm 8)) (.ref (k.cm 9)) = some false
  k_OtherTables_OtherTables : PySem.W.kitOne K (.ref (k.cm 9)) (.ref (k.cm 9)) = some true
  k_NothingDone_OtherTables : PySem.W.kitOne K (.ref (k.cm 10)) (.ref (k.cm 9)) = some false
  k_Known_OtherTables : PySem.W.kitOne K (.ref (k.cm 11)) (.ref (k.cm 9)) = some false
  k_NoSchema_OtherTables : PySem.W.kitOne K (.ref (k.cm 12)) (.ref (k.cm 9)) = some false
  k_NoNumber_OtherTables : PySem.W.kitOne K (.ref (k.cm 13)) (.ref (k.cm 9)) = some false
  k_BadAnswer_OtherTables : PySem.W.kitOne K (.ref (k.cm 14)) (.ref (k.cm 9)) = some false
  k_AllKnown_OtherTables : PySem.W.kitOne K (.ref (k.cm 15)) (.ref (k.cm 9)) = some false
  kb_OtherTables : ∀ T ∈ tyNames, PySem.W.kitOne K (.type T) (.ref (k.cm 9)) = some false
  k_BadLink_ValueError : PySem.W.kitOne K (.ref (k.cm 1)) (.type "ValueError") = some true
  k_BadText_ValueError : PySem.W.kitOne K (.ref (k.cm 2)) (.type "ValueError") = some true
  k_BadLine_ValueError : PySem.W.kitOne K (.ref (k.cm 3)) (.type "ValueError") = some true
  k_BadRows_ValueError : PySem.W.kitOne K (.ref (k.cm 4)) (.type "ValueError") = some true
  k_BadPairs_ValueError : PySem.W.kitOne K (.ref (k.cm 5)) (.type "ValueError") = some true
  k_NoTable_ValueError : PySem.W.kitOne K (.ref (k.cm 6)) (.type "ValueError") = some true
  k_NoLink_ValueError : PySem.W.kitOne K (.ref (k.cm 7)) (.type "ValueError") = some true
  k_NotOne_ValueError : PySem.W.kitOne K (.ref (k.cm 8)) (.type "ValueError") = some true
  k_OtherTables_ValueError : PySem.W.kitOne K (.ref (k.cm 9)) (.type "ValueError") = some true
  k_NothingDone_ValueError : PySem.W.kitOne K (.ref (k.cm 10)) (.type "ValueError") = some true
  k_Known_ValueError : PySem.W.kitOne K (.ref (k.cm 11)) (.type "ValueError") = some true
  k_NoSchema_ValueError : PySem.W.kitOne K (.ref (k.cm 12)) (.type "ValueError") = some true
  k_NoNumber_ValueError : PySem.W.kitOne K (.ref (k.cm 13)) (.type "ValueError") = some true
  k_BadAnswer_ValueError : PySem.W.kitOne K (.ref (k.cm 14)) (.type "ValueError") = some true
  k_AllKnown_ValueError : PySem.W.kitOne K (.ref (k.cm 15)) (.type "ValueError") = some true
  kb_ValueError : ∀ T ∈ tyNames, PySem.W.kitOne K (.type T) (.type "ValueError") = some false
structure All (P : Program) (w : World) (K : PySem.W.Frag) (mg : Str → Option Value) (base : Heap) (a : Ad) (k : Kx) (n : Nat) : Prop where
  g0 : FnOk P w K mg base (L2.CX P w) n a.a0 a.d0 ps_0 (spI k (run tb n) 2 0)
  g1 : FnOk P w K mg base (L2.CX P w) n a.a1 a.d1 ps_1 (spI k (run tb n) 2 1)
  g2 : FnOk P w K mg base (L2.CX P w) n a.a2 a.d2 ps_2 (spI k (run tb n) 2 2)
  g3 : FnOk P w K mg base (L2.CX P w) n a.a3 a.d3 ps_3 (spI k (run tb n) 2 3)
  g4 : FnOk P w K mg base (L2.CX P w) n a.a4 a.d4 ps_4 (spI k (run tb n) 2 4)
  g5 : FnOk P w K mg base (L2.CX P w) n a.a5 a.d5 ps_5 (spI k (run tb n) 1 5)
  g6 : FnOk P w K mg base (L2.CX P w) n a.a6 a.d6 ps_6 (spI k (run tb n) 1 6)
  g7 : FnOk P w K mg base (L2.CX P w) n a.a7 a.d7 ps_7 (spI k (run tb n) 1 7)
section
variable {P : Program} {w : World} {K : PySem.W.Frag} {mg : Str → Option Value} {base : Heap} {a : Ad} {k : Kx} {n : Nat}
theorem ok_0 (hk : k.K = K) (T : Tx K mg a k) (G : All P w K mg base a k n) : FnOk P w K mg base (L2.CX P w) (n + 1) a.a0 a.d0 ps_0 (spI k (run tb (n + 1)) 2 0) :=
  fn_ok T.f0 sc_0 rfl rfl rfl rfl fun cdv A outer s H E hr =>
  ss_cons (s_set (i := 2) sc_0.nd (se_ife (st_cmp (oc_lt hk (hu64 hr)) (se_var) (se_len hk T.z_len (sa_cons (se_var) (sa_nil)))) (se_idx hk (se_var) (se_var)) (se_int)))
  (ss_one (s_ret (se_lst .glob (sa_cons (se_mul (se_abs T.z_abs (sa_cons (se_var) (sa_nil))) (se_cint T.z_int (sa_cons (se_cmp (oc_ge) (se_abs T.z_abs (sa_cons (se_var) (sa_nil))) (se_pow (se_int) (se_int))) (sa_nil)))) (sa_cons (se_add hk (se_add hk (se_mod (se_cint T.z_int (sa_cons (se_var) (sa_nil))) (se_int)) (se_mul (se_int) (se_var))) (se_int)) (sa_cons (se_int) (sa_nil)))))))
theorem ok_1 (hk : k.K = K) (T : Tx K mg a k) (G : All P w K mg base a k n) : FnOk P w K mg base (L2.CX P w) (n + 1) a.a1 a.d1 ps_1 (spI k (run tb (n + 1)) 2 1) :=
  fn_ok T.f1 sc_1 rfl rfl rfl rfl fun cdv A outer s H E hr =>
  ss_cons (s_if (st_cmp (oc_gt) (se_idx hk (se_var) (se_int)) (se_int)) (ss_cons (s_set (i := 5) sc_1.nd (se_mod (se_cint T.z_int (sa_cons (se_idx hk (se_var) (se_int)) (sa_nil))) (se_var)))
  (ss_cons (s_sub (se_var) (se_int) (se_div (se_idx hk (se_var) (se_int)) (se_var)))
  (ss_one (s_ret (se_var))))) (ss_nil))
  (ss_cons (s_sub (se_var) (se_int) (se_add hk (se_idx hk (se_var) (se_int)) (se_int)))
  (ss_cons (s_set (i := 2) sc_1.nd (se_mod (se_cint T.z_int (sa_cons (se_mul (se_add hk (se_idx hk (se_var) (se_int)) (se_mul (se_int) (se_idx hk (se_var) (se_int)))) (se_add hk (se_int) (se_idx hk (se_var) (se_int)))) (sa_nil))) (se_int)))
  (ss_cons (s_set (i := 3) sc_1.nd (se_add hk (se_mod (se_cint T.z_int (sa_cons (se_var) (sa_nil))) (se_int)) (se_int)))
  (ss_cons (s_set (i := 4) sc_1.nd (se_mod (se_cint T.z_int (sa_cons (se_mul (se_add hk (se_add hk (se_var) (se_idx hk (se_var) (se_int))) (se_div (se_idx hk (se_var) (se_int)) (se_int))) (se_var)) (sa_nil))) (se_int)))
  (ss_one (s_ret (se_mod (se_cint T.z_int (sa_cons (se_div (se_mod (se_cint T.z_int (sa_cons (se_add hk (se_mul (se_var) (se_int)) (se_var)) (sa_nil))) (se_int)) (se_int)) (sa_nil))) (se_var))))))))
theorem ok_2 (hk : k.K = K) (T : Tx K mg a k) (G : All P w K mg base a k n) : FnOk P w K mg base (L2.CX P w) (n + 1) a.a2 a.d2 ps_2 (spI k (run tb (n + 1)) 2 2) :=
  fn_ok T.f2 sc_2 rfl rfl rfl rfl fun cdv A outer s H E hr =>
  ss_cons (s_set (i := 2) sc_2.nd (se_or hk (se_clist hk T.z_list (sa_cons (se_sl hk (se_var) (so_none) (so_some (se_var))) (sa_nil))) (se_one (se_lst .loc (sa_cons (se_int) (sa_nil))))))
  (ss_cons (s_for (passes_of rfl) rfl (si_enum hk T.z_enumerate (se_sl hk (se_var) (so_some (se_var)) (so_some (se_int)))) (sg_tup hk rfl (sgs_cons rfl (pg_name (i := 3) sc_2.nd rfl (by first | exact .inl rfl | exact .inr rfl)) (sgs_cons rfl (pg_name (i := 4) sc_2.nd rfl (by first | exact .inl rfl | exact .inr rfl)) (sgs_nil)))) (ss_cons (s_set (i := 5) sc_2.nd (se_mod (se_cint T.z_int (sa_cons (se_var) (sa_nil))) (se_var)))
  (ss_one (s_sub (se_var) (se_var) (se_add hk (se_idx hk (se_var) (se_var)) (se_mul (se_var) (se_add hk (se_var) (se_int))))))))
  (ss_one (s_ret (se_var))))
theorem ok_3 (hk : k.K = K) (T : Tx K mg a k) (G : All P w K mg base a k n) : FnOk P w K mg base (L2.CX P w) (n + 1) a.a3 a.d3 ps_3 (spI k (run tb (n + 1)) 2 3) :=
  fn_ok T.f3 sc_3 rfl rfl rfl rfl fun cdv A outer s H E hr =>
  ss_one (s_ret (se_idx hk (se_var) (se_call G.g1 hr T.m1 T.f1.kp T.b1 (takes_of rfl rfl rfl rfl) (sa_cons (se_var) (sa_cons (se_len hk T.z_len (sa_cons (se_var) (sa_nil))) (sa_nil))))))
theorem ok_4 (hk : k.K = K) (T : Tx K mg a k) (G : All P w K mg base a k n) : FnOk P w K mg base (L2.CX P w) (n + 1) a.a4 a.d4 ps_4 (spI k (run tb (n + 1)) 2 4) :=
  fn_ok T.f4 sc_4 rfl rfl rfl rfl fun cdv A outer s H E hr =>
  ss_cons (s_if (st_val (se_isiT hk (se_var) (Tys.cons rfl T.z_list PyProof.Rows.boot_list rfl (by decide) (by decide) rfl (Tys.cons rfl T.z_tuple PyProof.Rows.boot_tuple rfl (by decide) (by decide) rfl (Tys.nil))) T.z_isinstance) hk) (ss_cons (s_if (st_cmp (oc_ne hk (hu64 hr)) (se_isi hk (se_var) (Tys.cons rfl T.z_list PyProof.Rows.boot_list rfl (by decide) (by decide) rfl (Tys.nil)) T.z_isinstance) (se_isi hk (se_var) (Tys.cons rfl T.z_list PyProof.Rows.boot_list rfl (by decide) (by decide) rfl (Tys.nil)) T.z_isinstance)) (ss_one (s_ret (se_bool))) (ss_nil))
  (ss_cons (s_if (st_cmp (oc_ne hk (hu64 hr)) (se_isi hk (se_var) (Tys.cons rfl T.z_tuple PyProof.Rows.boot_tuple rfl (by decide) (by decide) rfl (Tys.nil)) T.z_isinstance) (se_isi hk (se_var) (Tys.cons rfl T.z_tuple PyProof.Rows.boot_tuple rfl (by decide) (by decide) rfl (Tys.nil)) T.z_isinstance)) (ss_one (s_ret (se_bool))) (ss_nil))
  (ss_one (s_ret (se_and hk (se_cmp (oc_eq hk (hu64 hr)) (se_len hk T.z_len (sa_cons (se_var) (sa_nil))) (se_len hk T.z_len (sa_cons (se_var) (sa_nil)))) (se_one (se_all hk rfl T.z_all (sa_cons (se_lc (own := [("_law_mine", 2), ("_law_its", 3)]) rfl sc_4.nd (si_zip hk T.z_zip (se_var) (se_var)) (blkOk_by (N := ns_4) (sc := defScope s_4) (by decide +kernel)) (fun _ _ _ _ _ => sg_tup hk rfl (sgs_cons rfl (pg_name (i := 2) sc_4.nd rfl (by first | exact .inl rfl | exact .inr rfl)) (sgs_cons rfl (pg_name (i := 3) sc_4.nd rfl (by first | exact .inl rfl | exact .inr rfl)) (sgs_nil)))) (fun _ _ _ _ _ => se_call G.g4 hr T.m4 T.f4.kp T.b4 takes0 (sa_cons (se_var) (sa_cons (se_var) (sa_nil))))) (sa_nil))))))))) (ss_nil))
  (ss_cons (s_if (PW.pt (sw_or (st_cmp (oc_is) (se_var) (se_non)) (sw_or1 (st_val (se_isiT hk (se_var) (Tys.cons rfl T.z_bool PyProof.Rows.boot_bool rfl (by decide) (by decide) rfl (Tys.cons rfl T.z_str PyProof.Rows.boot_str rfl (by decide) (by decide) rfl (Tys.nil))) T.z_isinstance) hk)))) (ss_one (s_ret (se_and hk (se_cmp (oc_eq hk (hu64 hr)) (se_var) (se_var)) (se_and hk (se_cmp (oc_eq hk (hu64 hr)) (se_isi hk (se_var) (Tys.cons rfl T.z_bool PyProof.Rows.boot_bool rfl (by decide) (by decide) rfl (Tys.nil)) T.z_isinstance) (se_isi hk (se_var) (Tys.cons rfl T.z_bool PyProof.Rows.boot_bool rfl (by decide) (by decide) rfl (Tys.nil)) T.z_isinstance)) (se_one (se_cmp (oc_eq hk (hu64 hr)) (se_cmp (oc_is) (se_var) (se_non)) (se_cmp (oc_is) (se_var) (se_non)))))))) (ss_nil))
  (ss_one (s_ret (se_and hk (se_isi hk (se_var) (Tys.cons rfl T.z_int PyProof.Rows.boot_int rfl (by decide) (by decide) rfl (Tys.nil)) T.z_isinstance) (se_and hk (se_not hk (se_isi hk (se_var) (Tys.cons rfl T.z_bool PyProof.Rows.boot_bool rfl (by decide) (by decide) rfl (Tys.nil)) T.z_isinstance)) (se_one (se_cmp (oc_eq hk (hu64 hr)) (se_var) (se_var))))))))
theorem ok_5 (hk : k.K = K) (T : Tx K mg a k) (G : All P w K mg base a k n) : FnOk P w K mg base (L2.CX P w) (n + 1) a.a5 a.d5 ps_5 (spI k (run tb (n + 1)) 1 5) :=
  fn_ok T.f5 sc_5 rfl rfl rfl rfl fun cdv A outer s H E hr =>
  ss_cons (s_set (i := 1) sc_5.nd (se_lst .fz (sa_cons (se_isx hk (se_var) (pe_clsG T.n_BadLink) (.own _) (fun _ h => h) T.z_isinstance (List.forall_mem_cons.mpr ⟨⟨T.x1.is, T.k_BadLink_BadLink⟩, List.forall_mem_nil _⟩) (List.forall_mem_cons.mpr ⟨⟨T.x2.is, T.k_BadText_BadLink⟩, List.forall_mem_cons.mpr ⟨⟨T.x3.is, T.k_BadLine_BadLink⟩, List.forall_mem_cons.mpr ⟨⟨T.x4.is, T.k_BadRows_BadLink⟩, List.forall_mem_cons.mpr ⟨⟨T.x5.is, T.k_BadPairs_BadLink⟩, List.forall_mem_cons.mpr ⟨⟨T.x6.is, T.k_NoTable_BadLink⟩, List.forall_mem_cons.mpr ⟨⟨T.x7.is, T.k_NoLink_BadLink⟩, List.forall_mem_cons.mpr ⟨⟨T.x8.is, T.k_NotOne_BadLink⟩, List.forall_mem_cons.mpr ⟨⟨T.x9.is, T.k_OtherTables_BadLink⟩, List.forall_mem_cons.mpr ⟨⟨T.x10.is, T.k_NothingDone_BadLink⟩, List.forall_mem_cons.mpr ⟨⟨T.x11.is, T.k_Known_BadLink⟩, List.forall_mem_cons.mpr ⟨⟨T.x12.is, T.k_NoSchema_BadLink⟩, List.forall_mem_cons.mpr ⟨⟨T.x13.is, T.k_NoNumber_BadLink⟩, List.forall_mem_cons.mpr ⟨⟨T.x14.is, T.k_BadAnswer_BadLink⟩, List.forall_mem_cons.mpr ⟨⟨T.x15.is, T.k_AllKnown_BadLink⟩, List.forall_mem_nil _⟩⟩⟩⟩⟩⟩⟩⟩⟩⟩⟩⟩⟩⟩) T.kb_BadLink) (sa_cons (se_isx hk (se_var) (pe_clsG T.n_BadText) (.own _) (fun _ h => h) T.z_isinstance (List.forall_mem_cons.mpr ⟨⟨T.x2.is, T.k_BadText_BadText⟩, List.forall_mem_nil _⟩) (List.forall_mem_cons.mpr ⟨⟨T.x1.is, T.k_BadLink_BadText⟩, List.forall_mem_cons.mpr ⟨⟨T.x3.is, T.k_BadLine_BadText⟩, List.forall_mem_cons.mpr ⟨⟨T.x4.is, T.k_BadRows_BadText⟩, List.forall_mem_cons.mpr ⟨⟨T.x5.is, T.k_BadPairs_BadText⟩, List.forall_mem_cons.mpr ⟨⟨T.x6.is, T.k_NoTable_BadText⟩, List.forall_mem_cons.mpr ⟨⟨T.x7.is, T.k_NoLink_BadText⟩, List.forall_mem_cons.mpr ⟨⟨T.x8.is, T.k_NotOne_BadText⟩, List.forall_mem_cons.mpr ⟨⟨T.x9.is, T.k_OtherTables_BadText⟩, List.forall_mem_cons.mpr ⟨⟨T.x10.is, T.k_NothingDone_BadText⟩, List.forall_mem_cons.mpr ⟨⟨T.x11.is, T.k_Known_BadText⟩, List.forall_mem_cons.mpr ⟨⟨T.x12.is, T.k_NoSchema_BadText⟩, List.forall_mem_cons.mpr ⟨⟨T.x13.is, T.k_NoNumber_BadText⟩, List.forall_mem_cons.mpr ⟨⟨T.x14.is, T.k_BadAnswer_BadText⟩, List.forall_mem_cons.mpr ⟨⟨T.x15.is, T.k_AllKnown_BadText⟩, List.forall_mem_nil _⟩⟩⟩⟩⟩⟩⟩⟩⟩⟩⟩⟩⟩⟩) T.kb_BadText) (sa_cons (se_isx hk (se_var) (pe_clsG T.n_BadLine) (.own _) (fun _ h => h) T.z_isinstance (List.forall_mem_cons.mpr ⟨⟨T.x3.is, T.k_BadLine_BadLine⟩, List.forall_mem_nil _⟩) (List.forall_mem_cons.mpr ⟨⟨T.x1.is, T.k_BadLink_BadLine⟩, List.forall_mem_cons.mpr ⟨⟨T.x2.is, T.k_BadText_BadLine⟩, List.forall_mem_cons.mpr ⟨⟨T.x4.is, T.k_BadRows_BadLine⟩, List.forall_mem_cons.mpr ⟨⟨T.x5.is, T.k_BadPairs_BadLine⟩, List.forall_mem_cons.mpr ⟨⟨T.x6.is, T.k_NoTable_BadLine⟩, List.forall_mem_cons.mpr ⟨⟨T.x7.is, T.k_NoLink_BadLine⟩, List.forall_mem_cons.mpr ⟨⟨T.x8.is, T.k_NotOne_BadLine⟩, List.forall_mem_cons.mpr ⟨⟨T.x9.is, T.k_OtherTables_BadLine⟩, List.forall_mem_cons.mpr ⟨⟨T.x10.is, T.k_NothingDone_BadLine⟩, List.forall_mem_cons.mpr ⟨⟨T.x11.is, T.k_Known_BadLine⟩, List.forall_mem_cons.mpr ⟨⟨T.x12.is, T.k_NoSchema_BadLine⟩, List.forall_mem_cons.mpr ⟨⟨T.x13.is, T.k_NoNumber_BadLine⟩, List.forall_mem_cons.mpr ⟨⟨T.x14.is, T.k_BadAnswer_BadLine⟩, List.forall_mem_cons.mpr ⟨⟨T.x15.is, T.k_AllKnown_BadLine⟩, List.forall_mem_nil _⟩⟩⟩⟩⟩⟩⟩⟩⟩⟩⟩⟩⟩⟩) T.kb_BadLine) (sa_nil))))))
  (ss_cons (s_set (i := 1) sc_5.nd (se_add hk (se_var) (se_lst .fz (sa_cons (se_isx hk (se_var) (pe_clsG T.n_BadRows) (.own _) (fun _ h => h) T.z_isinstance (List.forall_mem_cons.mpr ⟨⟨T.x4.is, T.k_BadRows_BadRows⟩, List.forall_mem_nil _⟩) (List.forall_mem_cons.mpr ⟨⟨T.x1.is, T.k_BadLink_BadRows⟩, List.forall_mem_cons.mpr ⟨⟨T.x2.is, T.k_BadText_BadRows⟩, List.forall_mem_cons.mpr ⟨⟨T.x3.is, T.k_BadLine_BadRows⟩, List.forall_mem_cons.mpr ⟨⟨T.x5.is, T.k_BadPairs_BadRows⟩, List.forall_mem_cons.mpr ⟨⟨T.x6.is, T.k_NoTable_BadRows⟩, List.forall_mem_cons.mpr ⟨⟨T.x7.is, T.k_NoLink_BadRows⟩, List.forall_mem_cons.mpr ⟨⟨T.x8.is, T.k_NotOne_BadRows⟩, List.forall_mem_cons.mpr ⟨⟨T.x9.is, T.k_OtherTables_BadRows⟩, List.forall_mem_cons.mpr ⟨⟨T.x10.is, T.k_NothingDone_BadRows⟩, List.forall_mem_cons.mpr ⟨⟨T.x11.is, T.k_Known_BadRows⟩, List.forall_mem_cons.mpr ⟨⟨T.x12.is, T.k_NoSchema_BadRows⟩, List.forall_mem_cons.mpr ⟨⟨T.x13.is, T.k_NoNumber_BadRows⟩, List.forall_mem_cons.mpr ⟨⟨T.x14.is, T.k_BadAnswer_BadRows⟩, List.forall_mem_cons.mpr ⟨⟨T.x15.is, T.k_AllKnown_BadRows⟩, List.forall_mem_nil _⟩⟩⟩⟩⟩⟩⟩⟩⟩⟩⟩⟩⟩⟩) T.kb_BadRows) (sa_cons (se_isx hk (se_var) (pe_clsG T.n_BadPairs) (.own _) (fun _ h => h) T.z_isinstance (List.forall_mem_cons.mpr ⟨⟨T.x5.is, T.k_BadPairs_BadPairs⟩, List.forall_mem_nil _⟩) (List.forall_mem_cons.mpr ⟨⟨T.x1.is, T.k_BadLink_BadPairs⟩, List.forall_mem_cons.mpr ⟨⟨T.x2.is, T.k_BadText_BadPairs⟩, List.forall_mem_cons.mpr ⟨⟨T.x3.is, T.k_BadLine_BadPairs⟩, List.forall_mem_cons.mpr ⟨⟨T.x4.is, T.k_BadRows_BadPairs⟩, List.forall_mem_cons.mpr ⟨⟨T.x6.is, T.k_NoTable_BadPairs⟩, List.forall_mem_cons.mpr ⟨⟨T.x7.is, T.k_NoLink_BadPairs⟩, List.forall_mem_cons.mpr ⟨⟨T.x8.is, T.k_NotOne_BadPairs⟩, List.forall_mem_cons.mpr ⟨⟨T.x9.is, T.k_OtherTables_BadPairs⟩, List.forall_mem_cons.mpr ⟨⟨T.x10.is, T.k_NothingDone_BadPairs⟩, List.forall_mem_cons.mpr ⟨⟨T.x11.is, T.k_Known_BadPairs⟩, List.forall_mem_cons.mpr ⟨⟨T.x12.is, T.k_NoSchema_BadPairs⟩, List.forall_mem_cons.mpr ⟨⟨T.x13.is, T.k_NoNumber_BadPairs⟩, List.forall_mem_cons.mpr ⟨⟨T.x14.is, T.k_BadAnswer_BadPairs⟩, List.forall_mem_cons.mpr ⟨⟨T.x15.is, T.k_AllKnown_BadPairs⟩, List.forall_mem_nil _⟩⟩⟩⟩⟩⟩⟩⟩⟩⟩⟩⟩⟩⟩) T.kb_BadPairs) (sa_nil))))))
  (ss_cons (s_set (i := 1) sc_5.nd (se_add hk (se_var) (se_lst .fz (sa_cons (se_isx hk (se_var) (pe_clsG T.n_NoTable) (.own _) (fun _ h => h) T.z_isinstance (List.forall_mem_cons.mpr ⟨⟨T.x6.is, T.k_NoTable_NoTable⟩, List.forall_mem_nil _⟩) (List.forall_mem_cons.mpr ⟨⟨T.x1.is, T.k_BadLink_NoTable⟩, List.forall_mem_cons.mpr ⟨⟨T.x2.is, T.k_BadText_NoTable⟩, List.forall_mem_cons.mpr ⟨⟨T.x3.is, T.k_BadLine_NoTable⟩, List.forall_mem_cons.mpr ⟨⟨T.x4.is, T.k_BadRows_NoTable⟩, List.forall_mem_cons.mpr ⟨⟨T.x5.is, T.k_BadPairs_NoTable⟩, List.forall_mem_cons.mpr ⟨⟨T.x7.is, T.k_NoLink_NoTable⟩, List.forall_mem_cons.mpr ⟨⟨T.x8.is, T.k_NotOne_NoTable⟩, List.forall_mem_cons.mpr ⟨⟨T.x9.is, T.k_OtherTables_NoTable⟩, List.forall_mem_cons.mpr ⟨⟨T.x10.is, T.k_NothingDone_NoTable⟩, List.forall_mem_cons.mpr ⟨⟨T.x11.is, T.k_Known_NoTable⟩, List.forall_mem_cons.mpr ⟨⟨T.x12.is, T.k_NoSchema_NoTable⟩, List.forall_mem_cons.mpr ⟨⟨T.x13.is, T.k_NoNumber_NoTable⟩, List.forall_mem_cons.mpr ⟨⟨T.x14.is, T.k_BadAnswer_NoTable⟩, List.forall_mem_cons.mpr ⟨⟨T.x15.is, T.k_AllKnown_NoTable⟩, List.forall_mem_nil _⟩⟩⟩⟩⟩⟩⟩⟩⟩⟩⟩⟩⟩⟩) T.kb_NoTable) (sa_nil)))))
  (ss_cons (s_set (i := 1) sc_5.nd (se_add hk (se_var) (se_lst .fz (sa_cons (se_isx hk (se_var) (pe_clsG T.n_NoLink) (.own _) (fun _ h => h) T.z_isinstance (List.forall_mem_cons.mpr ⟨⟨T.x7.is, T.k_NoLink_NoLink⟩, List.forall_mem_nil _⟩) (List.forall_mem_cons.mpr ⟨⟨T.x1.is, T.k_BadLink_NoLink⟩, List.forall_mem_cons.mpr ⟨⟨T.x2.is, T.k_BadText_NoLink⟩, List.forall_mem_cons.mpr ⟨⟨T.x3.is, T.k_BadLine_NoLink⟩, List.forall_mem_cons.mpr ⟨⟨T.x4.is, T.k_BadRows_NoLink⟩, List.forall_mem_cons.mpr ⟨⟨T.x5.is, T.k_BadPairs_NoLink⟩, List.forall_mem_cons.mpr ⟨⟨T.x6.is, T.k_NoTable_NoLink⟩, List.forall_mem_cons.mpr ⟨⟨T.x8.is, T.k_NotOne_NoLink⟩, List.forall_mem_cons.mpr ⟨⟨T.x9.is, T.k_OtherTables_NoLink⟩, List.forall_mem_cons.mpr ⟨⟨T.x10.is, T.k_NothingDone_NoLink⟩, List.forall_mem_cons.mpr ⟨⟨T.x11.is, T.k_Known_NoLink⟩, List.forall_mem_cons.mpr ⟨⟨T.x12.is, T.k_NoSchema_NoLink⟩, List.forall_mem_cons.mpr ⟨⟨T.x13.is, T.k_NoNumber_NoLink⟩, List.forall_mem_cons.mpr ⟨⟨T.x14.is, T.k_BadAnswer_NoLink⟩, List.forall_mem_cons.mpr ⟨⟨T.x15.is, T.k_AllKnown_NoLink⟩, List.forall_mem_nil _⟩⟩⟩⟩⟩⟩⟩⟩⟩⟩⟩⟩⟩⟩) T.kb_NoLink) (sa_cons (se_isx hk (se_var) (pe_clsG T.n_NotOne) (.own _) (fun _ h => h) T.z_isinstance (List.forall_mem_cons.mpr ⟨⟨T.x8.is, T.k_NotOne_NotOne⟩, List.forall_mem_nil _⟩) (List.forall_mem_cons.mpr ⟨⟨T.x1.is, T.k_BadLink_NotOne⟩, List.forall_mem_cons.mpr ⟨⟨T.x2.is, T.k_BadText_NotOne⟩, List.forall_mem_cons.mpr ⟨⟨T.x3.is, T.k_BadLine_NotOne⟩, List.forall_mem_cons.mpr ⟨⟨T.x4.is, T.k_BadRows_NotOne⟩, List.forall_mem_cons.mpr ⟨⟨T.x5.is, T.k_BadPairs_NotOne⟩, List.forall_mem_cons.mpr ⟨⟨T.x6.is, T.k_NoTable_NotOne⟩, List.forall_mem_cons.mpr ⟨⟨T.x7.is, T.k_NoLink_NotOne⟩, List.forall_mem_cons.mpr ⟨⟨T.x9.is, T.k_OtherTables_NotOne⟩, List.forall_mem_cons.mpr ⟨⟨T.x10.is, T.k_NothingDone_NotOne⟩, List.forall_mem_cons.mpr ⟨⟨T.x11.is, T.k_Known_NotOne⟩, List.forall_mem_cons.mpr ⟨⟨T.x12.is, T.k_NoSchema_NotOne⟩, List.forall_mem_cons.mpr ⟨⟨T.x13.is, T.k_NoNumber_NotOne⟩, List.forall_mem_cons.mpr ⟨⟨T.x14.is, T.k_BadAnswer_NotOne⟩, List.forall_mem_cons.mpr ⟨⟨T.x15.is, T.k_AllKnown_NotOne⟩, List.forall_mem_nil _⟩⟩⟩⟩⟩⟩⟩⟩⟩⟩⟩⟩⟩⟩) T.kb_NotOne) (sa_nil))))))
  (ss_cons (s_set (i := 1) sc_5.nd (se_add hk (se_var) (se_lst .fz (sa_cons (se_isx hk (se_var) (pe_clsG T.n_OtherTables) (.own _) (fun _ h => h) T.z_isinstance (List.forall_mem_cons.mpr ⟨⟨T.x9.is, T.k_OtherTables_OtherTables⟩, List.forall_mem_nil _⟩) (List.forall_mem_cons.mpr ⟨⟨T.x1.is, T.k_BadLink_OtherTables⟩, List.forall_mem_cons.mpr ⟨⟨T.x2.is, T.k_BadText_OtherTables⟩, List.forall_mem_cons.mpr ⟨⟨T.x3.is, T.k_BadLine_OtherTables⟩, List.forall_mem_cons.mpr ⟨⟨T.x4.is, T.k_BadRows_OtherTables⟩, List.forall_mem_cons.mpr ⟨⟨T.x5.is, T.k_BadPairs_OtherTables⟩, List.forall_mem_cons.mpr ⟨⟨T.x6.is, T.k_NoTable_OtherTables⟩, List.forall_mem_cons.mpr ⟨⟨T.x7.is, T.k_NoLink_OtherTables⟩, List.forall_mem_cons.mpr ⟨⟨T.x8.is, T.k_NotOne_OtherTables⟩, List.forall_mem_cons.mpr ⟨⟨T.x10.is, T.k_NothingDone_OtherTables⟩, List.forall_mem_cons.mpr ⟨⟨T.x11.is, T.k_Known_OtherTables⟩, List.forall_mem_cons.mpr ⟨⟨T.x12.is, T.k_NoSchema_OtherTables⟩, List.forall_mem_cons.mpr ⟨⟨T.x13.is, T.k_NoNumber_OtherTables⟩, List.forall_mem_cons.mpr ⟨⟨T.x14.is, T.k_BadAnswer_OtherTables⟩, List.forall_mem_cons.mpr ⟨⟨T.x15.is, T.k_AllKnown_OtherTables⟩, List.forall_mem_nil _⟩⟩⟩⟩⟩⟩⟩⟩⟩⟩⟩⟩⟩⟩) T.kb_OtherTables) (sa_nil)))))
  (ss_cons (s_set (i := 1) sc_5.nd (se_add hk (se_var) (se_lst .fz (sa_cons (se_isx hk (se_var) (pe_clsG T.n_NothingDone) (.own _) (fun _ h => h) T.z_isinstance (List.forall_mem_cons.mpr ⟨⟨T.x10.is, T.k_NothingDone_NothingDone⟩, List.forall_mem_nil _⟩) (List.forall_mem_cons.mpr ⟨⟨T.x1.is, T.k_BadLink_NothingDone⟩, List.forall_mem_cons.mpr ⟨⟨T.x2.is, T.k_BadText_NothingDone⟩, List.forall_mem_cons.mpr ⟨⟨T.x3.is, T.k_BadLine_NothingDone⟩, List.forall_mem_cons.mpr ⟨⟨T.x4.is, T.k_BadRows_NothingDone⟩, List.forall_mem_cons.mpr ⟨⟨T.x5.is, T.k_BadPairs_NothingDone⟩, List.forall_mem_cons.mpr ⟨⟨T.x6.is, T.k_NoTable_NothingDone⟩, List.forall_mem_cons.mpr ⟨⟨T.x7.is, T.k_NoLink_NothingDone⟩, List.forall_mem_cons.mpr ⟨⟨T.x8.is, T.k_NotOne_NothingDone⟩, List.forall_mem_cons.mpr ⟨⟨T.x9.is, T.k_OtherTables_NothingDone⟩, List.forall_mem_cons.mpr ⟨⟨T.x11.is, T.k_Known_NothingDone⟩, List.forall_mem_cons.mpr ⟨⟨T.x12.is, T.k_NoSchema_NothingDone⟩, List.forall_mem_cons.mpr ⟨⟨T.x13.is, T.k_NoNumber_NothingDone⟩, List.forall_mem_cons.mpr ⟨⟨T.x14.is, T.k_BadAnswer_NothingDone⟩, List.forall_mem_cons.mpr ⟨⟨T.x15.is, T.k_AllKnown_NothingDone⟩, List.forall_mem_nil _⟩⟩⟩⟩⟩⟩⟩⟩⟩⟩⟩⟩⟩⟩) T.kb_NothingDone) (sa_cons (se_isx hk (se_var) (pe_clsG T.n_Known) (.own _) (fun _ h => h) T.z_isinstance (List.forall_mem_cons.mpr ⟨⟨T.x11.is, T.k_Known_Known⟩, List.forall_mem_nil _⟩) (List.forall_mem_cons.mpr ⟨⟨T.x1.is, T.k_BadLink_Known⟩, List.forall_mem_cons.mpr ⟨⟨T.x2.is, T.k_BadText_Known⟩, List.forall_mem_cons.mpr ⟨⟨T.x3.is, T.k_BadLine_Known⟩, List.forall_mem_cons.mpr ⟨⟨T.x4.is, T.k_BadRows_Known⟩, List.forall_mem_cons.mpr ⟨⟨T.x5.is, T.k_BadPairs_Known⟩, List.forall_mem_cons.mpr ⟨⟨T.x6.is, T.k_NoTable_Known⟩, List.forall_mem_cons.mpr ⟨⟨T.x7.is, T.k_NoLink_Known⟩, List.forall_mem_cons.mpr ⟨⟨T.x8.is, T.k_NotOne_Known⟩, List.forall_mem_cons.mpr ⟨⟨T.x9.is, T.k_OtherTables_Known⟩, List.forall_mem_cons.mpr ⟨⟨T.x10.is, T.k_NothingDone_Known⟩, List.forall_mem_cons.mpr ⟨⟨T.x12.is, T.k_NoSchema_Known⟩, List.forall_mem_cons.mpr ⟨⟨T.x13.is, T.k_NoNumber_Known⟩, List.forall_mem_cons.mpr ⟨⟨T.x14.is, T.k_BadAnswer_Known⟩, List.forall_mem_cons.mpr ⟨⟨T.x15.is, T.k_AllKnown_Known⟩, List.forall_mem_nil _⟩⟩⟩⟩⟩⟩⟩⟩⟩⟩⟩⟩⟩⟩) T.kb_Known) (sa_nil))))))
  (ss_cons (s_set (i := 1) sc_5.nd (se_add hk (se_var) (se_lst .fz (sa_cons (se_isx hk (se_var) (pe_clsG T.n_NoSchema) (.own _) (fun _ h => h) T.z_isinstance (List.forall_mem_cons.mpr ⟨⟨T.x12.is, T.k_NoSchema_NoSchema⟩, List.forall_mem_nil _⟩) (List.forall_mem_cons.mpr ⟨⟨T.x1.is, T.k_BadLink_NoSchema⟩, List.forall_mem_cons.mpr ⟨⟨T.x2.is, T.k_BadText_NoSchema⟩, List.forall_mem_cons.mpr ⟨⟨T.x3.is, T.k_BadLine_NoSchema⟩, List.forall_mem_cons.mpr ⟨⟨T.x4.is, T.k_BadRows_NoSchema⟩, List.forall_mem_cons.mpr ⟨⟨T.x5.is, T.k_BadPairs_NoSchema⟩, List.forall_mem_cons.mpr ⟨⟨T.x6.is, T.k_NoTable_NoSchema⟩, List.forall_mem_cons.mpr ⟨⟨T.x7.is, T.k_NoLink_NoSchema⟩, List.forall_mem_cons.mpr ⟨⟨T.x8.is, T.k_NotOne_NoSchema⟩, List.forall_mem_cons.mpr ⟨⟨T.x9.is, T.k_OtherTables_NoSchema⟩, List.forall_mem_cons.mpr ⟨⟨T.x10.is, T.k_NothingDone_NoSchema⟩, List.forall_mem_cons.mpr ⟨⟨T.x11.is, T.k_Known_NoSchema⟩, List.forall_mem_cons.mpr ⟨⟨T.x13.is, T.k_NoNumber_NoSchema⟩, List.forall_mem_cons.mpr ⟨⟨T.x14.is, T.k_BadAnswer_NoSchema⟩, List.forall_mem_cons.mpr ⟨⟨T.x15.is, T.k_AllKnown_NoSchema⟩, List.forall_mem_nil _⟩⟩⟩⟩⟩⟩⟩⟩⟩⟩⟩⟩⟩⟩) T.kb_NoSchema) (sa_nil)))))
  (ss_one (s_ret (se_add hk (se_var) (se_lst .fz (sa_cons (se_isx hk (se_var) (pe_clsG T.n_NoNumber) (.own _) (fun _ h => h) T.z_isinstance (List.forall_mem_cons.mpr ⟨⟨T.x13.is, T.k_NoNumber_NoNumber⟩, List.forall_mem_nil _⟩) (List.forall_mem_cons.mpr ⟨⟨T.x1.is, T.k_BadLink_NoNumber⟩, List.forall_mem_cons.mpr ⟨⟨T.x2.is, T.k_BadText_NoNumber⟩, List.forall_mem_cons.mpr ⟨⟨T.x3.is, T.k_BadLine_NoNumber⟩, List.forall_mem_cons.mpr ⟨⟨T.x4.is, T.k_BadRows_NoNumber⟩, List.forall_mem_cons.mpr ⟨⟨T.x5.is, T.k_BadPairs_NoNumber⟩, List.forall_mem_cons.mpr ⟨⟨T.x6.is, T.k_NoTable_NoNumber⟩, List.forall_mem_cons.mpr ⟨⟨T.x7.is, T.k_NoLink_NoNumber⟩, List.forall_mem_cons.mpr ⟨⟨T.x8.is, T.k_NotOne_NoNumber⟩, List.forall_mem_cons.mpr ⟨⟨T.x9.is, T.k_OtherTables_NoNumber⟩, List.forall_mem_cons.mpr ⟨⟨T.x10.is, T.k_NothingDone_NoNumber⟩, List.forall_mem_cons.mpr ⟨⟨T.x11.is, T.k_Known_NoNumber⟩, List.forall_mem_cons.mpr ⟨⟨T.x12.is, T.k_NoSchema_NoNumber⟩, List.forall_mem_cons.mpr ⟨⟨T.x14.is, T.k_BadAnswer_NoNumber⟩, List.forall_mem_cons.mpr ⟨⟨T.x15.is, T.k_AllKnown_NoNumber⟩, List.forall_mem_nil _⟩⟩⟩⟩⟩⟩⟩⟩⟩⟩⟩⟩⟩⟩) T.kb_NoNumber) (sa_cons (se_isx hk (se_var) (pe_clsG T.n_BadAnswer) (.own _) (fun _ h => h) T.z_isinstance (List.forall_mem_cons.mpr ⟨⟨T.x14.is, T.k_BadAnswer_BadAnswer⟩, List.forall_mem_nil _⟩) (List.forall_mem_cons.mpr ⟨⟨T.x1.is, T.k_BadLink_BadAnswer⟩, List.forall_mem_cons.mpr ⟨⟨T.x2.is, T.k_BadText_BadAnswer⟩, List.forall_mem_cons.mpr ⟨⟨T.x3.is, T.k_BadLine_BadAnswer⟩, List.forall_mem_cons.mpr ⟨⟨T.x4.is, T.k_BadRows_BadAnswer⟩, List.forall_mem_cons.mpr ⟨⟨T.x5.is, T.k_BadPairs_BadAnswer⟩, List.forall_mem_cons.mpr ⟨⟨T.x6.is, T.k_NoTable_BadAnswer⟩, List.forall_mem_cons.mpr ⟨⟨T.x7.is, T.k_NoLink_BadAnswer⟩, List.forall_mem_cons.mpr ⟨⟨T.x8.is, T.k_NotOne_BadAnswer⟩, List.forall_mem_cons.mpr ⟨⟨T.x9.is, T.k_OtherTables_BadAnswer⟩, List.forall_mem_cons.mpr ⟨⟨T.x10.is, T.k_NothingDone_BadAnswer⟩, List.forall_mem_cons.mpr ⟨⟨T.x11.is, T.k_Known_BadAnswer⟩, List.forall_mem_cons.mpr ⟨⟨T.x12.is, T.k_NoSchema_BadAnswer⟩, List.forall_mem_cons.mpr ⟨⟨T.x13.is, T.k_NoNumber_BadAnswer⟩, List.forall_mem_cons.mpr ⟨⟨T.x15.is, T.k_AllKnown_BadAnswer⟩, List.forall_mem_nil _⟩⟩⟩⟩⟩⟩⟩⟩⟩⟩⟩⟩⟩⟩) T.kb_BadAnswer) (sa_cons (se_isx hk (se_var) (pe_clsG T.n_AllKnown) (.own _) (fun _ h => h) T.z_isinstance (List.forall_mem_cons.mpr ⟨⟨T.x15.is, T.k_AllKnown_AllKnown⟩, List.forall_mem_nil _⟩) (List.forall_mem_cons.mpr ⟨⟨T.x1.is, T.k_BadLink_AllKnown⟩, List.forall_mem_cons.mpr ⟨⟨T.x2.is, T.k_BadText_AllKnown⟩, List.forall_mem_cons.mpr ⟨⟨T.x3.is, T.k_BadLine_AllKnown⟩, List.forall_mem_cons.mpr ⟨⟨T.x4.is, T.k_BadRows_AllKnown⟩, List.forall_mem_cons.mpr ⟨⟨T.x5.is, T.k_BadPairs_AllKnown⟩, List.forall_mem_cons.mpr ⟨⟨T.x6.is, T.k_NoTable_AllKnown⟩, List.forall_mem_cons.mpr ⟨⟨T.x7.is, T.k_NoLink_AllKnown⟩, List.forall_mem_cons.mpr ⟨⟨T.x8.is, T.k_NotOne_AllKnown⟩, List.forall_mem_cons.mpr ⟨⟨T.x9.is, T.k_OtherTables_AllKnown⟩, List.forall_mem_cons.mpr ⟨⟨T.x10.is, T.k_NothingDone_AllKnown⟩, List.forall_mem_cons.mpr ⟨⟨T.x11.is, T.k_Known_AllKnown⟩, List.forall_mem_cons.mpr ⟨⟨T.x12.is, T.k_NoSchema_AllKnown⟩, List.forall_mem_cons.mpr ⟨⟨T.x13.is, T.k_NoNumber_AllKnown⟩, List.forall_mem_cons.mpr ⟨⟨T.x14.is, T.k_BadAnswer_AllKnown⟩, List.forall_mem_nil _⟩⟩⟩⟩⟩⟩⟩⟩⟩⟩⟩⟩⟩⟩) T.kb_AllKnown) (sa_nil))))))))))))))
theorem ok_6 (hk : k.K = K) (T : Tx K mg a k) (G : All P w K mg base a k n) : FnOk P w K mg base (L2.CX P w) (n + 1) a.a6 a.d6 ps_6 (spI k (run tb (n + 1)) 1 6) :=
  fn_ok T.f6 sc_6 rfl rfl rfl rfl fun cdv A outer s H E hr =>
  ss_cons (s_par (i := 4) (j := 5) rfl sc_6.nd (sa_cons (se_sub (se_call G.g1 hr T.m1 T.f1.kp T.b1 (takes_of rfl rfl rfl rfl) (sa_cons (se_var) (sa_cons (se_pow (se_int) (se_int)) (sa_nil)))) (se_mul (se_int) (se_pow (se_int) (se_int)))) (sa_cons (se_call G.g3 hr T.m3 T.f3.kp T.b3 (takes_of rfl rfl rfl rfl) (sa_cons (se_var) (sa_cons (se_lst .fz (sa_cons (se_text) (sa_cons (se_text) (sa_cons (se_text) (sa_cons (se_text) (sa_nil)))))) (sa_nil)))) sa_nil)))
  (ss_cons (s_set (i := 1) sc_6.nd (se_lst .fz (sa_cons (se_mkx T.x1 (show tb 9 = some _ from rfl) rfl scx_1 ib_1 hr (takes_of rfl rfl rfl rfl) (sa_cons (se_var) (sa_nil))) (sa_cons (se_mkx T.x2 (show tb 10 = some _ from rfl) rfl scx_2 ib_2 hr (takes_of rfl rfl rfl rfl) (sa_cons (se_var) (sa_nil))) (sa_cons (se_mkx T.x3 (show tb 11 = some _ from rfl) rfl scx_3 ib_3 hr (takes_of rfl rfl rfl rfl) (sa_cons (se_var) (sa_nil))) (sa_cons (se_mkx T.x4 (show tb 12 = some _ from rfl) rfl scx_4 ib_4 hr (takes_of rfl rfl rfl rfl) (sa_cons (se_var) (sa_nil))) (sa_nil)))))))
  (ss_cons (s_set (i := 1) sc_6.nd (se_add hk (se_var) (se_lst .fz (sa_cons (se_mkx T.x5 (show tb 13 = some _ from rfl) rfl scx_5 ib_5 hr (takes_of rfl rfl rfl rfl) (sa_cons (se_var) (sa_nil))) (sa_cons (se_mkx T.x6 (show tb 14 = some _ from rfl) rfl scx_6 ib_6 hr (takes_of rfl rfl rfl rfl) (sa_cons (se_var) (sa_nil))) (sa_cons (se_mkx T.x7 (show tb 15 = some _ from rfl) rfl scx_7 ib_7 hr (takes_of rfl rfl rfl rfl) (sa_cons (se_var) (sa_nil))) (sa_nil)))))))
  (ss_cons (s_set (i := 1) sc_6.nd (se_add hk (se_var) (se_lst .fz (sa_cons (se_mkx0 T.x8 (show tb 16 = some _ from rfl) rfl scx_8 ib_8 hr (takes_of rfl rfl rfl rfl)) (sa_cons (se_mkx0 T.x9 (show tb 17 = some _ from rfl) rfl scx_9 ib_9 hr (takes_of rfl rfl rfl rfl)) (sa_cons (se_mkx0 T.x10 (show tb 18 = some _ from rfl) rfl scx_10 ib_10 hr (takes_of rfl rfl rfl rfl)) (sa_cons (se_mkx T.x11 (show tb 19 = some _ from rfl) rfl scx_11 ib_11 hr (takes_of rfl rfl rfl rfl) (sa_cons (se_var) (sa_nil))) (sa_cons (se_mkx T.x12 (show tb 20 = some _ from rfl) rfl scx_12 ib_12 hr (takes_of rfl rfl rfl rfl) (sa_cons (se_var) (sa_nil))) (sa_cons (se_mkx T.x13 (show tb 21 = some _ from rfl) rfl scx_13 ib_13 hr (takes_of rfl rfl rfl rfl) (sa_cons (se_var) (sa_nil))) (sa_nil))))))))))
  (ss_cons (s_set (i := 1) sc_6.nd (se_add hk (se_var) (se_lst .fz (sa_cons (se_mkx T.x14 (show tb 22 = some _ from rfl) rfl scx_14 ib_14 hr (takes_of rfl rfl rfl rfl) (sa_cons (se_var) (sa_nil))) (sa_cons (se_mkx0 T.x15 (show tb 23 = some _ from rfl) rfl scx_15 ib_15 hr (takes_of rfl rfl rfl rfl)) (sa_nil))))))
  (ss_cons (s_for (passes_of rfl) rfl (si_enum hk T.z_enumerate (se_var)) (sg_tup hk rfl (sgs_cons rfl (pg_name (i := 6) sc_6.nd rfl (by first | exact .inl rfl | exact .inr rfl)) (sgs_cons rfl (pg_name (i := 7) sc_6.nd rfl (by first | exact .inl rfl | exact .inr rfl)) (sgs_nil)))) (ss_cons (s_if (st_not (st_val (se_call G.g4 hr T.m4 T.f4.kp T.b4 (takes_of rfl rfl rfl rfl) (sa_cons (se_call G.g5 hr T.m5 T.f5.kp T.b5 (takes_of rfl rfl rfl rfl) (sa_cons (se_var) (sa_nil))) (sa_cons (se_lc (own := [("_law_j", 8)]) rfl sc_6.nd (si_rng1 T.z_range (se_int)) (blkOk_by (N := ns_6) (sc := defScope s_6) (by decide +kernel)) (fun _ _ _ _ _ => sg_name (i := 8) sc_6.nd rfl (by first | exact .inl rfl | exact .inr rfl)) (fun _ _ _ _ _ => se_cmp (oc_eq hk (hu64 hr)) (se_var) (se_var))) (sa_nil)))) hk)) (ss_one (s_ret (se_bool))) (ss_nil))
  (ss_one (s_if (PW.pt (sw_or (st_not (st_val (se_isx hk (se_var) (pe_clsG T.n_FanError) (.own _) (fun _ h => h) T.z_isinstance (List.forall_mem_cons.mpr ⟨⟨T.x1.is, T.k_BadLink_FanError⟩, List.forall_mem_cons.mpr ⟨⟨T.x2.is, T.k_BadText_FanError⟩, List.forall_mem_cons.mpr ⟨⟨T.x3.is, T.k_BadLine_FanError⟩, List.forall_mem_cons.mpr ⟨⟨T.x4.is, T.k_BadRows_FanError⟩, List.forall_mem_cons.mpr ⟨⟨T.x5.is, T.k_BadPairs_FanError⟩, List.forall_mem_cons.mpr ⟨⟨T.x6.is, T.k_NoTable_FanError⟩, List.forall_mem_cons.mpr ⟨⟨T.x7.is, T.k_NoLink_FanError⟩, List.forall_mem_cons.mpr ⟨⟨T.x8.is, T.k_NotOne_FanError⟩, List.forall_mem_cons.mpr ⟨⟨T.x9.is, T.k_OtherTables_FanError⟩, List.forall_mem_cons.mpr ⟨⟨T.x10.is, T.k_NothingDone_FanError⟩, List.forall_mem_cons.mpr ⟨⟨T.x11.is, T.k_Known_FanError⟩, List.forall_mem_cons.mpr ⟨⟨T.x12.is, T.k_NoSchema_FanError⟩, List.forall_mem_cons.mpr ⟨⟨T.x13.is, T.k_NoNumber_FanError⟩, List.forall_mem_cons.mpr ⟨⟨T.x14.is, T.k_BadAnswer_FanError⟩, List.forall_mem_cons.mpr ⟨⟨T.x15.is, T.k_AllKnown_FanError⟩, List.forall_mem_nil _⟩⟩⟩⟩⟩⟩⟩⟩⟩⟩⟩⟩⟩⟩⟩) (List.forall_mem_nil _) T.kb_FanError) hk)) (sw_or1 (st_not (st_val (se_isx hk (se_var) (pe_clsB T.z_ValueError PyProof.Rows.Boot.«ValueError») (.ty _) (fun _ h => h) T.z_isinstance (List.forall_mem_cons.mpr ⟨⟨T.x1.is, T.k_BadLink_ValueError⟩, List.forall_mem_cons.mpr ⟨⟨T.x2.is, T.k_BadText_ValueError⟩, List.forall_mem_cons.mpr ⟨⟨T.x3.is, T.k_BadLine_ValueError⟩, List.forall_mem_cons.mpr ⟨⟨T.x4.is, T.k_BadRows_ValueError⟩, List.forall_mem_cons.mpr ⟨⟨T.x5.is, T.k_BadPairs_ValueError⟩, List.forall_mem_cons.mpr ⟨⟨T.x6.is, T.k_NoTable_ValueError⟩, List.forall_mem_cons.mpr ⟨⟨T.x7.is, T.k_NoLink_ValueError⟩, List.forall_mem_cons.mpr ⟨⟨T.x8.is, T.k_NotOne_ValueError⟩, List.forall_mem_cons.mpr ⟨⟨T.x9.is, T.k_OtherTables_ValueError⟩, List.forall_mem_cons.mpr ⟨⟨T.x10.is, T.k_NothingDone_ValueError⟩, List.forall_mem_cons.mpr ⟨⟨T.x11.is, T.k_Known_ValueError⟩, List.forall_mem_cons.mpr ⟨⟨T.x12.is, T.k_NoSchema_ValueError⟩, List.forall_mem_cons.mpr ⟨⟨T.x13.is, T.k_NoNumber_ValueError⟩, List.forall_mem_cons.mpr ⟨⟨T.x14.is, T.k_BadAnswer_ValueError⟩, List.forall_mem_cons.mpr ⟨⟨T.x15.is, T.k_AllKnown_ValueError⟩, List.forall_mem_nil _⟩⟩⟩⟩⟩⟩⟩⟩⟩⟩⟩⟩⟩⟩⟩) (List.forall_mem_nil _) T.kb_ValueError) hk))))) (ss_one (s_ret (se_bool))) (ss_nil)))))
  (ss_cons (s_set (i := 2) sc_6.nd (se_lst .fz (sa_cons (se_fld (List.forall_mem_cons.mpr ⟨⟨T.x1.xf, T.x1.no, T.x1.nf⟩, List.forall_mem_cons.mpr ⟨⟨T.x5.xf, T.x5.no, T.x5.nf⟩, List.forall_mem_nil _⟩⟩) (se_idx hk (se_var) (se_int))) (sa_cons (se_fld (List.forall_mem_cons.mpr ⟨⟨T.x2.xf, T.x2.no, T.x2.nf⟩, List.forall_mem_nil _⟩) (se_idx hk (se_var) (se_int))) (sa_cons (se_fld (List.forall_mem_cons.mpr ⟨⟨T.x3.xf, T.x3.no, T.x3.nf⟩, List.forall_mem_cons.mpr ⟨⟨T.x13.xf, T.x13.no, T.x13.nf⟩, List.forall_mem_nil _⟩⟩) (se_idx hk (se_var) (se_int))) (sa_cons (se_fld (List.forall_mem_cons.mpr ⟨⟨T.x4.xf, T.x4.no, T.x4.nf⟩, List.forall_mem_cons.mpr ⟨⟨T.x6.xf, T.x6.no, T.x6.nf⟩, List.forall_mem_cons.mpr ⟨⟨T.x7.xf, T.x7.no, T.x7.nf⟩, List.forall_mem_cons.mpr ⟨⟨T.x11.xf, T.x11.no, T.x11.nf⟩, List.forall_mem_cons.mpr ⟨⟨T.x12.xf, T.x12.no, T.x12.nf⟩, List.forall_mem_nil _⟩⟩⟩⟩⟩) (se_idx hk (se_var) (se_int))) (sa_cons (se_fld (List.forall_mem_cons.mpr ⟨⟨T.x1.xf, T.x1.no, T.x1.nf⟩, List.forall_mem_cons.mpr ⟨⟨T.x5.xf, T.x5.no, T.x5.nf⟩, List.forall_mem_nil _⟩⟩) (se_idx hk (se_var) (se_int))) (sa_nil))))))))
  (ss_cons (s_set (i := 2) sc_6.nd (se_add hk (se_var) (se_lst .fz (sa_cons (se_fld (List.forall_mem_cons.mpr ⟨⟨T.x4.xf, T.x4.no, T.x4.nf⟩, List.forall_mem_cons.mpr ⟨⟨T.x6.xf, T.x6.no, T.x6.nf⟩, List.forall_mem_cons.mpr ⟨⟨T.x7.xf, T.x7.no, T.x7.nf⟩, List.forall_mem_cons.mpr ⟨⟨T.x11.xf, T.x11.no, T.x11.nf⟩, List.forall_mem_cons.mpr ⟨⟨T.x12.xf, T.x12.no, T.x12.nf⟩, List.forall_mem_nil _⟩⟩⟩⟩⟩) (se_idx hk (se_var) (se_int))) (sa_cons (se_fld (List.forall_mem_cons.mpr ⟨⟨T.x4.xf, T.x4.no, T.x4.nf⟩, List.forall_mem_cons.mpr ⟨⟨T.x6.xf, T.x6.no, T.x6.nf⟩, List.forall_mem_cons.mpr ⟨⟨T.x7.xf, T.x7.no, T.x7.nf⟩, List.forall_mem_cons.mpr ⟨⟨T.x11.xf, T.x11.no, T.x11.nf⟩, List.forall_mem_cons.mpr ⟨⟨T.x12.xf, T.x12.no, T.x12.nf⟩, List.forall_mem_nil _⟩⟩⟩⟩⟩) (se_idx hk (se_var) (se_int))) (sa_cons (se_fld (List.forall_mem_cons.mpr ⟨⟨T.x4.xf, T.x4.no, T.x4.nf⟩, List.forall_mem_cons.mpr ⟨⟨T.x6.xf, T.x6.no, T.x6.nf⟩, List.forall_mem_cons.mpr ⟨⟨T.x7.xf, T.x7.no, T.x7.nf⟩, List.forall_mem_cons.mpr ⟨⟨T.x11.xf, T.x11.no, T.x11.nf⟩, List.forall_mem_cons.mpr ⟨⟨T.x12.xf, T.x12.no, T.x12.nf⟩, List.forall_mem_nil _⟩⟩⟩⟩⟩) (se_idx hk (se_var) (se_int))) (sa_nil)))))))
  (ss_cons (s_set (i := 2) sc_6.nd (se_add hk (se_var) (se_lst .fz (sa_cons (se_fld (List.forall_mem_cons.mpr ⟨⟨T.x4.xf, T.x4.no, T.x4.nf⟩, List.forall_mem_cons.mpr ⟨⟨T.x6.xf, T.x6.no, T.x6.nf⟩, List.forall_mem_cons.mpr ⟨⟨T.x7.xf, T.x7.no, T.x7.nf⟩, List.forall_mem_cons.mpr ⟨⟨T.x11.xf, T.x11.no, T.x11.nf⟩, List.forall_mem_cons.mpr ⟨⟨T.x12.xf, T.x12.no, T.x12.nf⟩, List.forall_mem_nil _⟩⟩⟩⟩⟩) (se_idx hk (se_var) (se_int))) (sa_cons (se_fld (List.forall_mem_cons.mpr ⟨⟨T.x3.xf, T.x3.no, T.x3.nf⟩, List.forall_mem_cons.mpr ⟨⟨T.x13.xf, T.x13.no, T.x13.nf⟩, List.forall_mem_nil _⟩⟩) (se_idx hk (se_var) (se_int))) (sa_nil))))))
  (ss_cons (s_set (i := 2) sc_6.nd (se_add hk (se_var) (se_lst .fz (sa_cons (se_fld (List.forall_mem_cons.mpr ⟨⟨T.x14.xf, T.x14.no, T.x14.nf⟩, List.forall_mem_nil _⟩) (se_idx hk (se_var) (se_int))) (sa_cons (se_fld (List.forall_mem_cons.mpr ⟨⟨T.x1.xf, T.x1.no, T.x1.nf⟩, List.forall_mem_cons.mpr ⟨⟨T.x5.xf, T.x5.no, T.x5.nf⟩, List.forall_mem_nil _⟩⟩) (se_mkxk T.x1 (show tb 9 = some _ from rfl) rfl scx_1 ib_1 T.y1 hr (takes_of rfl rfl rfl rfl) (sk_cons (se_var) sk_nil))) (sa_nil))))))
  (ss_cons (s_set (i := 2) sc_6.nd (se_add hk (se_var) (se_lst .fz (sa_cons (se_fld (List.forall_mem_cons.mpr ⟨⟨T.x2.xf, T.x2.no, T.x2.nf⟩, List.forall_mem_nil _⟩) (se_mkxk T.x2 (show tb 10 = some _ from rfl) rfl scx_2 ib_2 T.y2 hr (takes_of rfl rfl rfl rfl) (sk_cons (se_int) sk_nil))) (sa_cons (se_fld (List.forall_mem_cons.mpr ⟨⟨T.x3.xf, T.x3.no, T.x3.nf⟩, List.forall_mem_cons.mpr ⟨⟨T.x13.xf, T.x13.no, T.x13.nf⟩, List.forall_mem_nil _⟩⟩) (se_mkxk T.x3 (show tb 11 = some _ from rfl) rfl scx_3 ib_3 T.y3 hr (takes_of rfl rfl rfl rfl) (sk_cons (se_neg (se_int)) sk_nil))) (sa_nil))))))
  (ss_cons (s_set (i := 3) sc_6.nd (se_lst .fz (sa_cons (se_var) (sa_cons (se_var) (sa_cons (se_var) (sa_cons (se_var) (sa_cons (se_var) (sa_cons (se_var) (sa_cons (se_var) (sa_cons (se_var) (sa_cons (se_var) (sa_cons (se_var) (sa_cons (se_var) (sa_cons (se_var) (sa_cons (se_int) (sa_cons (se_neg (se_int)) (sa_nil)))))))))))))))))
  (ss_cons (s_set (i := 2) sc_6.nd (se_add hk (se_var) (se_lst .fz (sa_cons (se_fld (List.forall_mem_cons.mpr ⟨⟨T.x4.xf, T.x4.no, T.x4.nf⟩, List.forall_mem_cons.mpr ⟨⟨T.x6.xf, T.x6.no, T.x6.nf⟩, List.forall_mem_cons.mpr ⟨⟨T.x7.xf, T.x7.no, T.x7.nf⟩, List.forall_mem_cons.mpr ⟨⟨T.x11.xf, T.x11.no, T.x11.nf⟩, List.forall_mem_cons.mpr ⟨⟨T.x12.xf, T.x12.no, T.x12.nf⟩, List.forall_mem_nil _⟩⟩⟩⟩⟩) (se_mkxk T.x4 (show tb 12 = some _ from rfl) rfl scx_4 ib_4 T.y4 hr (takes_of rfl rfl rfl rfl) (sk_cons (se_text) sk_nil))) (sa_cons (se_fld (List.forall_mem_cons.mpr ⟨⟨T.x1.xf, T.x1.no, T.x1.nf⟩, List.forall_mem_cons.mpr ⟨⟨T.x5.xf, T.x5.no, T.x5.nf⟩, List.forall_mem_nil _⟩⟩) (se_mkxk T.x5 (show tb 13 = some _ from rfl) rfl scx_5 ib_5 T.y5 hr (takes_of rfl rfl rfl rfl) (sk_cons (se_int) sk_nil))) (sa_nil))))))
  (ss_cons (s_set (i := 2) sc_6.nd (se_add hk (se_var) (se_lst .fz (sa_cons (se_fld (List.forall_mem_cons.mpr ⟨⟨T.x4.xf, T.x4.no, T.x4.nf⟩, List.forall_mem_cons.mpr ⟨⟨T.x6.xf, T.x6.no, T.x6.nf⟩, List.forall_mem_cons.mpr ⟨⟨T.x7.xf, T.x7.no, T.x7.nf⟩, List.forall_mem_cons.mpr ⟨⟨T.x11.xf, T.x11.no, T.x11.nf⟩, List.forall_mem_cons.mpr ⟨⟨T.x12.xf, T.x12.no, T.x12.nf⟩, List.forall_mem_nil _⟩⟩⟩⟩⟩) (se_mkxk T.x6 (show tb 14 = some _ from rfl) rfl scx_6 ib_6 T.y6 hr (takes_of rfl rfl rfl rfl) (sk_cons (se_var) sk_nil))) (sa_cons (se_fld (List.forall_mem_cons.mpr ⟨⟨T.x4.xf, T.x4.no, T.x4.nf⟩, List.forall_mem_cons.mpr ⟨⟨T.x6.xf, T.x6.no, T.x6.nf⟩, List.forall_mem_cons.mpr ⟨⟨T.x7.xf, T.x7.no, T.x7.nf⟩, List.forall_mem_cons.mpr ⟨⟨T.x11.xf, T.x11.no, T.x11.nf⟩, List.forall_mem_cons.mpr ⟨⟨T.x12.xf, T.x12.no, T.x12.nf⟩, List.forall_mem_nil _⟩⟩⟩⟩⟩) (se_mkxk T.x7 (show tb 15 = some _ from rfl) rfl scx_7 ib_7 T.y7 hr (takes_of rfl rfl rfl rfl) (sk_cons (se_var) sk_nil))) (sa_nil))))))
  (ss_cons (s_set (i := 2) sc_6.nd (se_add hk (se_var) (se_lst .fz (sa_cons (se_fld (List.forall_mem_cons.mpr ⟨⟨T.x4.xf, T.x4.no, T.x4.nf⟩, List.forall_mem_cons.mpr ⟨⟨T.x6.xf, T.x6.no, T.x6.nf⟩, List.forall_mem_cons.mpr ⟨⟨T.x7.xf, T.x7.no, T.x7.nf⟩, List.forall_mem_cons.mpr ⟨⟨T.x11.xf, T.x11.no, T.x11.nf⟩, List.forall_mem_cons.mpr ⟨⟨T.x12.xf, T.x12.no, T.x12.nf⟩, List.forall_mem_nil _⟩⟩⟩⟩⟩) (se_mkxk T.x11 (show tb 19 = some _ from rfl) rfl scx_11 ib_11 T.y11 hr (takes_of rfl rfl rfl rfl) (sk_cons (se_var) sk_nil))) (sa_cons (se_fld (List.forall_mem_cons.mpr ⟨⟨T.x4.xf, T.x4.no, T.x4.nf⟩, List.forall_mem_cons.mpr ⟨⟨T.x6.xf, T.x6.no, T.x6.nf⟩, List.forall_mem_cons.mpr ⟨⟨T.x7.xf, T.x7.no, T.x7.nf⟩, List.forall_mem_cons.mpr ⟨⟨T.x11.xf, T.x11.no, T.x11.nf⟩, List.forall_mem_cons.mpr ⟨⟨T.x12.xf, T.x12.no, T.x12.nf⟩, List.forall_mem_nil _⟩⟩⟩⟩⟩) (se_mkxk T.x12 (show tb 20 = some _ from rfl) rfl scx_12 ib_12 T.y12 hr (takes_of rfl rfl rfl rfl) (sk_cons (se_var) sk_nil))) (sa_cons (se_fld (List.forall_mem_cons.mpr ⟨⟨T.x3.xf, T.x3.no, T.x3.nf⟩, List.forall_mem_cons.mpr ⟨⟨T.x13.xf, T.x13.no, T.x13.nf⟩, List.forall_mem_nil _⟩⟩) (se_mkxk T.x13 (show tb 21 = some _ from rfl) rfl scx_13 ib_13 T.y13 hr (takes_of rfl rfl rfl rfl) (sk_cons (se_pow (se_int) (se_int)) sk_nil))) (sa_nil)))))))
  (ss_cons (s_set (i := 3) sc_6.nd (se_add hk (se_var) (se_lst .fz (sa_cons (se_text) (sa_cons (se_int) (sa_cons (se_var) (sa_cons (se_var) (sa_cons (se_var) (sa_cons (se_var) (sa_cons (se_pow (se_int) (se_int)) (sa_nil)))))))))))
  (ss_one (s_ret (se_call G.g4 hr T.m4 T.f4.kp T.b4 (takes_of rfl rfl rfl rfl) (sa_cons (se_add hk (se_var) (se_lst .fz (sa_cons (se_fld (List.forall_mem_cons.mpr ⟨⟨T.x14.xf, T.x14.no, T.x14.nf⟩, List.forall_mem_nil _⟩) (se_mkxk T.x14 (show tb 22 = some _ from rfl) rfl scx_14 ib_14 T.y14 hr (takes_of rfl rfl rfl rfl) (sk_cons (se_var) sk_nil))) (sa_nil)))) (sa_cons (se_add hk (se_var) (se_lst .fz (sa_cons (se_var) (sa_nil)))) (sa_nil)))))))))))))))))))))
theorem ok_7 (hk : k.K = K) (T : Tx K mg a k) (G : All P w K mg base a k n) : FnOk P w K mg base (L2.CX P w) (n + 1) a.a7 a.d7 ps_7 (spI k (run tb (n + 1)) 1 7) :=
  fn_ok T.f7 sc_7 rfl rfl rfl rfl fun cdv A outer s H E hr =>
  ss_cons (s_set (i := 1) sc_7.nd (se_call G.g2 hr T.m2 T.f2.kp T.b2 (takes_of rfl rfl rfl rfl) (sa_cons (se_var) (sa_cons (se_int) (sa_nil)))))
  (ss_one (s_ret (se_all hk rfl T.z_all (sa_cons (se_lc (own := [("_law_k", 2)]) rfl sc_7.nd (si_rng1 T.z_range (se_len hk T.z_len (sa_cons (se_var) (sa_nil)))) (blkOk_by (N := ns_7) (sc := defScope s_7) (by decide +kernel)) (fun _ _ _ _ _ => sg_name (i := 2) sc_7.nd rfl (by first | exact .inl rfl | exact .inr rfl)) (fun _ _ _ _ _ => se_call G.g6 hr T.m6 T.f6.kp T.b6 takes0 (sa_cons (se_call G.g0 hr T.m0 T.f0.kp T.b0 takes0 (sa_cons (se_var) (sa_cons (se_var) (sa_nil)))) (sa_nil)))) (sa_nil)))))
theorem all (hk : k.K = K) (T : Tx K mg a k) : ∀ n : Nat, All P w K mg base a k n
  | 0 => ⟨fn_none, fn_none, fn_none, fn_none, fn_none, fn_none, fn_none, fn_none⟩
  | n + 1 => ⟨ok_0 hk T (all hk T n), ok_1 hk T (all hk T n), ok_2 hk T (all hk T n), ok_3 hk T (all hk T n), ok_4 hk T (all hk T n), ok_5 hk T (all hk T n), ok_6 hk T (all hk T n), ok_7 hk T (all hk T n)⟩
end
theorem all_mk {l : PySem.W.OpenLaw} {w : World} {K : PySem.W.Frag} {h : Heap} {mg : Str → Option Value} {fa : Addr} (L : ∀ ns : List Int, ns.length ≤ 63 → ∃ G, run tb 24 7 [scriptD ns] [] = .ok (.bl true) G) (X : K.In h) (G : h.Ns mainGlobals mg) (hfa : mg "law" = some (.ref fa))
    {f0 : Addr} {od0 an0 : Option Addr} {sl0 : Array (Option Value)} {oc0 kV0 dc0 pm0 cd0 ct0 : Value}
    (a0 : PySem.W.nsIn K mainGlobals "_law_box" = some (some (.ref f0))) (l0 : K.lookup f0 = some ⟨oc0, od0, .func (PySem.W.fnOf "_law_box" "_law_box" (defArgs s_0) (defBody s_0) (defScope s_0) .none kV0 dc0 pm0 an0 cd0 ct0), sl0⟩) (c0 : PySem.W.codeIn K cd0 "_law_box" = true) (k0 : PySem.W.keepIn K (.ref f0) = true)
    {f1 : Addr} {od1 an1 : Option Addr} {sl1 : Array (Option Value)} {oc1 kV1 dc1 pm1 cd1 ct1 : Value}
    (a1 : PySem.W.nsIn K mainGlobals "_law_take" = some (some (.ref f1))) (l1 : K.lookup f1 = some ⟨oc1, od1, .func (PySem.W.fnOf "_law_take" "_law_take" (defArgs s_1) (defBody s_1) (defScope s_1) .none kV1 dc1 pm1 an1 cd1 ct1), sl1⟩) (c1 : PySem.W.codeIn K cd1 "_law_take" = true) (k1 : PySem.W.keepIn K (.ref f1) = true)
    {f2 : Addr} {od2 an2 : Option Addr} {sl2 : Array (Option Value)} {oc2 kV2 dc2 pm2 cd2 ct2 : Value}
    (a2 : PySem.W.nsIn K mainGlobals "_law_cells" = some (some (.ref f2))) (l2 : K.lookup f2 = some ⟨oc2, od2, .func (PySem.W.fnOf "_law_cells" "_law_cells" (defArgs s_2) (defBody s_2) (defScope s_2) .none kV2 dc2 pm2 an2 cd2 ct2), sl2⟩) (c2 : PySem.W.codeIn K cd2 "_law_cells" = true) (k2 : PySem.W.keepIn K (.ref f2) = true)
    {f3 : Addr} {od3 an3 : Option Addr} {sl3 : Array (Option Value)} {oc3 kV3 dc3 pm3 cd3 ct3 : Value}
    (a3 : PySem.W.nsIn K mainGlobals "_law_of" = some (some (.ref f3))) (l3 : K.lookup f3 = some ⟨oc3, od3, .func (PySem.W.fnOf "_law_of" "_law_of" (defArgs s_3) (defBody s_3) (defScope s_3) .none kV3 dc3 pm3 an3 cd3 ct3), sl3⟩) (c3 : PySem.W.codeIn K cd3 "_law_of" = true) (k3 : PySem.W.keepIn K (.ref f3) = true)
    {f4 : Addr} {od4 an4 : Option Addr} {sl4 : Array (Option Value)} {oc4 kV4 dc4 pm4 cd4 ct4 : Value}
    (a4 : PySem.W.nsIn K mainGlobals "_law_same" = some (some (.ref f4))) (l4 : K.lookup f4 = some ⟨oc4, od4, .func (PySem.W.fnOf "_law_same" "_law_same" (defArgs s_4) (defBody s_4) (defScope s_4) .none kV4 dc4 pm4 an4 cd4 ct4), sl4⟩) (c4 : PySem.W.codeIn K cd4 "_law_same" = true) (k4 : PySem.W.keepIn K (.ref f4) = true)
    {f5 : Addr} {od5 an5 : Option Addr} {sl5 : Array (Option Value)} {oc5 kV5 dc5 pm5 cd5 ct5 : Value}
    (a5 : PySem.W.nsIn K mainGlobals "_law_sorts" = some (some (.ref f5))) (l5 : K.lookup f5 = some ⟨oc5, od5, .func (PySem.W.fnOf "_law_sorts" "_law_sorts" (defArgs s_5) (defBody s_5) (defScope s_5) .none kV5 dc5 pm5 an5 cd5 ct5), sl5⟩) (c5 : PySem.W.codeIn K cd5 "_law_sorts" = true) (k5 : PySem.W.keepIn K (.ref f5) = true)
    {f6 : Addr} {od6 an6 : Option Addr} {sl6 : Array (Option Value)} {oc6 kV6 dc6 pm6 cd6 ct6 : Value}
    (a6 : PySem.W.nsIn K mainGlobals "_law_right" = some (some (.ref f6))) (l6 : K.lookup f6 = some ⟨oc6, od6, .func (PySem.W.fnOf "_law_right" "_law_right" (defArgs s_6) (defBody s_6) (defScope s_6) .none kV6 dc6 pm6 an6 cd6 ct6), sl6⟩) (c6 : PySem.W.codeIn K cd6 "_law_right" = true) (k6 : PySem.W.keepIn K (.ref f6) = true)
    {f7 : Addr} {od7 an7 : Option Addr} {sl7 : Array (Option Value)} {oc7 kV7 dc7 pm7 cd7 ct7 : Value}
    (a7 : PySem.W.nsIn K mainGlobals "law" = some (some (.ref f7))) (l7 : K.lookup f7 = some ⟨oc7, od7, .func (PySem.W.fnOf "law" "law" (defArgs s_7) (defBody s_7) (defScope s_7) .none kV7 dc7 pm7 an7 cd7 ct7), sl7⟩) (c7 : PySem.W.codeIn K cd7 "law" = true) (k7 : PySem.W.keepIn K (.ref f7) = true)
    (z_ValueError : PySem.W.nsIn K mainGlobals "ValueError" = some none)
    (z_abs : PySem.W.nsIn K mainGlobals "abs" = some none)
    (z_all : PySem.W.nsIn K mainGlobals "all" = some none)
    (z_bool : PySem.W.nsIn K mainGlobals "bool" = some none)
    (z_enumerate : PySem.W.nsIn K mainGlobals "enumerate" = some none)
    (z_int : PySem.W.nsIn K mainGlobals "int" = some none)
    (z_isinstance : PySem.W.nsIn K mainGlobals "isinstance" = some none)
    (z_len : PySem.W.nsIn K mainGlobals "len" = some none)
    (z_list : PySem.W.nsIn K mainGlobals "list" = some none)
    (z_range : PySem.W.nsIn K mainGlobals "range" = some none)
    (z_str : PySem.W.nsIn K mainGlobals "str" = some none)
    (z_tuple : PySem.W.nsIn K mainGlobals "tuple" = some none)
    (z_zip : PySem.W.nsIn K mainGlobals "zip" = some none)
    {C0 : Addr} (gC0 : PySem.W.nsIn K mainGlobals "FanError" = some (some (.ref C0)))
    {C1 : Addr} (gC1 : PySem.W.nsIn K mainGlobals "BadLink" = some (some (.ref C1)))
    {fI1 : Addr} {nm1 q1 : Str} {N1 : Addr} {bs1 : List Value} {sn1 : List Str} {sub1 : List Value} {ab1 : Bool} {col1 : Option Bool} {dd1 : Option Addr} {m01 m11 m21 m31 m51 : Option Value}
    {odx1 anx1 : Option Addr} {slx1 : Array (Option Value)} {ocx1 kVx1 dcx1 pmx1 cdx1 ctx1 : Value}
    (xL1 : K.lookup C1 = some (excClassObj nm1 q1 C1 N1 bs1 [.ref C0, .type "ValueError", .type "Exception", .type "BaseException", .type "object"] true sn1 sub1 ab1 col1 dd1 m01 m11 m21 m31 m51 "ValueError.__new__"))
    (sa1 : PySem.W.findIn K (.ref C1) "__setattr__" = some (some (.builtin "object.__setattr__"))) (ga1 : PySem.W.findIn K (.ref C1) "__getattribute__" = some (some (.builtin "BaseException.__getattribute__"))) (gg1 : PySem.W.findIn K (.ref C1) "__getattr__" = some none) (nb1 : PySem.W.findIn K (.ref C1) "place" = some none)
    (ha1 : PySem.W.findIn K (.ref C1) "__class__" = some (some (.builtin "object.__class__"))) (hn1 : PySem.W.specialIn K (.builtin "object.__class__") "__get__" = some (some (.builtin "getset_descriptor.__get__"))) (ht1 : PySem.W.takesIn K (.builtin "object.__class__") = some true) (hm1 : PySem.W.mroIn K C1 (.type "object") = some true)
    (ix1 : PySem.W.findIn K (.ref C1) "__init__" = some (some (.ref fI1))) (tx1 : PySem.W.typeIn K (.ref fI1) = some (.type "function"))
    (lx1 : K.lookup fI1 = some ⟨ocx1, odx1, .func (PySem.W.fnOf "__init__" "BadLink.__init__" (defArgs sx_1) (defBody sx_1) (defScope sx_1) .none kVx1 dcx1 pmx1 anx1 cdx1 ctx1), slx1⟩) (cx1 : PySem.W.codeIn K cdx1 "BadLink.__init__" = true) (kx1 : PySem.W.keepIn K (.ref fI1) = true)
    (kC1 : PySem.W.keepIn K (.ref C1) = true) (eC1 : PySem.W.subIn K (.ref C1) (.type "BaseException") = some true) (tC1 : PySem.W.typeIn K (.ref C1) = some (.type "type")) (dC1 : PySem.W.hasDictIn K C1 = true) (iC1 : PySem.W.isClsIn K C1 = true)
    {C2 : Addr} (gC2 : PySem.W.nsIn K mainGlobals "BadText" = some (some (.ref C2)))
    {fI2 : Addr} {nm2 q2 : Str} {N2 : Addr} {bs2 : List Value} {sn2 : List Str} {sub2 : List Value} {ab2 : Bool} {col2 : Option Bool} {dd2 : Option Addr} {m02 m12 m22 m32 m52 : Option Value}
    {odx2 anx2 : Option Addr} {slx2 : Array (Option Value)} {ocx2 kVx2 dcx2 pmx2 cdx2 ctx2 : Value}
    (xL2 : K.lookup C2 = some (excClassObj nm2 q2 C2 N2 bs2 [.ref C0, .type "ValueError", .type "Exception", .type "BaseException", .type "object"] true sn2 sub2 ab2 col2 dd2 m02 m12 m22 m32 m52 "ValueError.__new__"))
    (sa2 : PySem.W.findIn K (.ref C2) "__setattr__" = some (some (.builtin "object.__setattr__"))) (ga2 : PySem.W.findIn K (.ref C2) "__getattribute__" = some (some (.builtin "BaseException.__getattribute__"))) (gg2 : PySem.W.findIn K (.ref C2) "__getattr__" = some none) (nb2 : PySem.W.findIn K (.ref C2) "piece" = some none)
    (ha2 : PySem.W.findIn K (.ref C2) "__class__" = some (some (.builtin "object.__class__"))) (hn2 : PySem.W.specialIn K (.builtin "object.__class__") "__get__" = some (some (.builtin "getset_descriptor.__get__"))) (ht2 : PySem.W.takesIn K (.builtin "object.__class__") = some true) (hm2 : PySem.W.mroIn K C2 (.type "object") = some true)
    (ix2 : PySem.W.findIn K (.ref C2) "__init__" = some (some (.ref fI2))) (tx2 : PySem.W.typeIn K (.ref fI2) = some (.type "function"))
    (lx2 : K.lookup fI2 = some ⟨ocx2, odx2, .func (PySem.W.fnOf "__init__" "BadText.__init__" (defArgs sx_2) (defBody sx_2) (defScope sx_2) .none kVx2 dcx2 pmx2 anx2 cdx2 ctx2), slx2⟩) (cx2 : PySem.W.codeIn K cdx2 "BadText.__init__" = true) (kx2 : PySem.W.keepIn K (.ref fI2) = true)
    (kC2 : PySem.W.keepIn K (.ref C2) = true) (eC2 : PySem.W.subIn K (.ref C2) (.type "BaseException") = some true) (tC2 : PySem.W.typeIn K (.ref C2) = some (.type "type")) (dC2 : PySem.W.hasDictIn K C2 = true) (iC2 : PySem.W.isClsIn K C2 = true)
    {C3 : Addr} (gC3 : PySem.W.nsIn K mainGlobals "BadLine" = some (some (.ref C3)))
    {fI3 : Addr} {nm3 q3 : Str} {N3 : Addr} {bs3 : List Value} {sn3 : List Str} {sub3 : List Value} {ab3 : Bool} {col3 : Option Bool} {dd3 : Option Addr} {m03 m13 m23 m33 m53 : Option Value}
    {odx3 anx3 : Option Addr} {slx3 : Array (Option Value)} {ocx3 kVx3 dcx3 pmx3 cdx3 ctx3 : Value}
    (xL3 : K.lookup C3 = some (excClassObj nm3 q3 C3 N3 bs3 [.ref C0, .type "ValueError", .type "Exception", .type "BaseException", .type "object"] true sn3 sub3 ab3 col3 dd3 m03 m13 m23 m33 m53 "ValueError.__new__"))
    (sa3 : PySem.W.findIn K (.ref C3) "__setattr__" = some (some (.builtin "object.__setattr__"))) (ga3 : PySem.W.findIn K (.ref C3) "__getattribute__" = some (some (.builtin "BaseException.__getattribute__"))) (gg3 : PySem.W.findIn K (.ref C3) "__getattr__" = some none) (nb3 : PySem.W.findIn K (.ref C3) "number" = some none)
    (ha3 : PySem.W.findIn K (.ref C3) "__class__" = some (some (.builtin "object.__class__"))) (hn3 : PySem.W.specialIn K (.builtin "object.__class__") "__get__" = some (some (.builtin "getset_descriptor.__get__"))) (ht3 : PySem.W.takesIn K (.builtin "object.__class__") = some true) (hm3 : PySem.W.mroIn K C3 (.type "object") = some true)
    (ix3 : PySem.W.findIn K (.ref C3) "__init__" = some (some (.ref fI3))) (tx3 : PySem.W.typeIn K (.ref fI3) = some (.type "function"))
    (lx3 : K.lookup fI3 = some ⟨ocx3, odx3, .func (PySem.W.fnOf "__init__" "BadLine.__init__" (defArgs sx_3) (defBody sx_3) (defScope sx_3) .none kVx3 dcx3 pmx3 anx3 cdx3 ctx3), slx3⟩) (cx3 : PySem.W.codeIn K cdx3 "BadLine.__init__" = true) (kx3 : PySem.W.keepIn K (.ref fI3) = true)
    (kC3 : PySem.W.keepIn K (.ref C3) = true) (eC3 : PySem.W.subIn K (.ref C3) (.type "BaseException") = some true) (tC3 : PySem.W.typeIn K (.ref C3) = some (.type "type")) (dC3 : PySem.W.hasDictIn K C3 = true) (iC3 : PySem.W.isClsIn K C3 = true)
    {C4 : Addr} (gC4 : PySem.W.nsIn K mainGlobals "BadRows" = some (some (.ref C4)))
    {fI4 : Addr} {nm4 q4 : Str} {N4 : Addr} {bs4 : List Value} {sn4 : List Str} {sub4 : List Value} {ab4 : Bool} {col4 : Option Bool} {dd4 : Option Addr} {m04 m14 m24 m34 m54 : Option Value}
    {odx4 anx4 : Option Addr} {slx4 : Array (Option Value)} {ocx4 kVx4 dcx4 pmx4 cdx4 ctx4 : Value}
    (xL4 : K.lookup C4 = some (excClassObj nm4 q4 C4 N4 bs4 [.ref C0, .type "ValueError", .type "Exception", .type "BaseException", .type "object"] true sn4 sub4 ab4 col4 dd4 m04 m14 m24 m34 m54 "ValueError.__new__"))
    (sa4 : PySem.W.findIn K (.ref C4) "__setattr__" = some (some (.builtin "object.__setattr__"))) (ga4 : PySem.W.findIn K (.ref C4) "__getattribute__" = some (some (.builtin "BaseException.__getattribute__"))) (gg4 : PySem.W.findIn K (.ref C4) "__getattr__" = some none) (nb4 : PySem.W.findIn K (.ref C4) "name" = some none)
    (ha4 : PySem.W.findIn K (.ref C4) "__class__" = some (some (.builtin "object.__class__"))) (hn4 : PySem.W.specialIn K (.builtin "object.__class__") "__get__" = some (some (.builtin "getset_descriptor.__get__"))) (ht4 : PySem.W.takesIn K (.builtin "object.__class__") = some true) (hm4 : PySem.W.mroIn K C4 (.type "object") = some true)
    (ix4 : PySem.W.findIn K (.ref C4) "__init__" = some (some (.ref fI4))) (tx4 : PySem.W.typeIn K (.ref fI4) = some (.type "function"))
    (lx4 : K.lookup fI4 = some ⟨ocx4, odx4, .func (PySem.W.fnOf "__init__" "BadRows.__init__" (defArgs sx_4) (defBody sx_4) (defScope sx_4) .none kVx4 dcx4 pmx4 anx4 cdx4 ctx4), slx4⟩) (cx4 : PySem.W.codeIn K cdx4 "BadRows.__init__" = true) (kx4 : PySem.W.keepIn K (.ref fI4) = true)
    (kC4 : PySem.W.keepIn K (.ref C4) = true) (eC4 : PySem.W.subIn K (.ref C4) (.type "BaseException") = some true) (tC4 : PySem.W.typeIn K (.ref C4) = some (.type "type")) (dC4 : PySem.W.hasDictIn K C4 = true) (iC4 : PySem.W.isClsIn K C4 = true)
    {C5 : Addr} (gC5 : PySem.W.nsIn K mainGlobals "BadPairs" = some (some (.ref C5)))
    {fI5 : Addr} {nm5 q5 : Str} {N5 : Addr} {bs5 : List Value} {sn5 : List Str} {sub5 : List Value} {ab5 : Bool} {col5 : Option Bool} {dd5 : Option Addr} {m05 m15 m25 m35 m55 : Option Value}
    {odx5 anx5 : Option Addr} {slx5 : Array (Option Value)} {ocx5 kVx5 dcx5 pmx5 cdx5 ctx5 : Value}
    (xL5 : K.lookup C5 = some (excClassObj nm5 q5 C5 N5 bs5 [.ref C0, .type "ValueError", .type "Exception", .type "BaseException", .type "object"] true sn5 sub5 ab5 col5 dd5 m05 m15 m25 m35 m55 "ValueError.__new__"))
    (sa5 : PySem.W.findIn K (.ref C5) "__setattr__" = some (some (.builtin "object.__setattr__"))) (ga5 : PySem.W.findIn K (.ref C5) "__getattribute__" = some (some (.builtin "BaseException.__getattribute__"))) (gg5 : PySem.W.findIn K (.ref C5) "__getattr__" = some none) (nb5 : PySem.W.findIn K (.ref C5) "place" = some none)
    (ha5 : PySem.W.findIn K (.ref C5) "__class__" = some (some (.builtin "object.__class__"))) (hn5 : PySem.W.specialIn K (.builtin "object.__class__") "__get__" = some (some (.builtin "getset_descriptor.__get__"))) (ht5 : PySem.W.takesIn K (.builtin "object.__class__") = some true) (hm5 : PySem.W.mroIn K C5 (.type "object") = some true)
    (ix5 : PySem.W.findIn K (.ref C5) "__init__" = some (some (.ref fI5))) (tx5 : PySem.W.typeIn K (.ref fI5) = some (.type "function"))
    (lx5 : K.lookup fI5 = some ⟨ocx5, odx5, .func (PySem.W.fnOf "__init__" "BadPairs.__init__" (defArgs sx_5) (defBody sx_5) (defScope sx_5) .none kVx5 dcx5 pmx5 anx5 cdx5 ctx5), slx5⟩) (cx5 : PySem.W.codeIn K cdx5 "BadPairs.__init__" = true) (kx5 : PySem.W.keepIn K (.ref fI5) = true)
    (kC5 : PySem.W.keepIn K (.ref C5) = true) (eC5 : PySem.W.subIn K (.ref C5) (.type "BaseException") = some true) (tC5 : PySem.W.typeIn K (.ref C5) = some (.type "type")) (dC5 : PySem.W.hasDictIn K C5 = true) (iC5 : PySem.W.isClsIn K C5 = true)
    {C6 : Addr} (gC6 : PySem.W.nsIn K mainGlobals "NoTable" = some (some (.ref C6)))
    {fI6 : Addr} {nm6 q6 : Str} {N6 : Addr} {bs6 : List Value} {sn6 : List Str} {sub6 : List Value} {ab6 : Bool} {col6 : Option Bool} {dd6 : Option Addr} {m06 m16 m26 m36 m56 : Option Value}
    {odx6 anx6 : Option Addr} {slx6 : Array (Option Value)} {ocx6 kVx6 dcx6 pmx6 cdx6 ctx6 : Value}
    (xL6 : K.lookup C6 = some (excClassObj nm6 q6 C6 N6 bs6 [.ref C0, .type "ValueError", .type "Exception", .type "BaseException", .type "object"] true sn6 sub6 ab6 col6 dd6 m06 m16 m26 m36 m56 "ValueError.__new__"))
    (sa6 : PySem.W.findIn K (.ref C6) "__setattr__" = some (some (.builtin "object.__setattr__"))) (ga6 : PySem.W.findIn K (.ref C6) "__getattribute__" = some (some (.builtin "BaseException.__getattribute__"))) (gg6 : PySem.W.findIn K (.ref C6) "__getattr__" = some none) (nb6 : PySem.W.findIn K (.ref C6) "name" = some none)
    (ha6 : PySem.W.findIn K (.ref C6) "__class__" = some (some (.builtin "object.__class__"))) (hn6 : PySem.W.specialIn K (.builtin "object.__class__") "__get__" = some (some (.builtin "getset_descriptor.__get__"))) (ht6 : PySem.W.takesIn K (.builtin "object.__class__") = some true) (hm6 : PySem.W.mroIn K C6 (.type "object") = some true)
    (ix6 : PySem.W.findIn K (.ref C6) "__init__" = some (some (.ref fI6))) (tx6 : PySem.W.typeIn K (.ref fI6) = some (.type "function"))
    (lx6 : K.lookup fI6 = some ⟨ocx6, odx6, .func (PySem.W.fnOf "__init__" "NoTable.__init__" (defArgs sx_6) (defBody sx_6) (defScope sx_6) .none kVx6 dcx6 pmx6 anx6 cdx6 ctx6), slx6⟩) (cx6 : PySem.W.codeIn K cdx6 "NoTable.__init__" = true) (kx6 : PySem.W.keepIn K (.ref fI6) = true)
    (kC6 : PySem.W.keepIn K (.ref C6) = true) (eC6 : PySem.W.subIn K (.ref C6) (.type "BaseException") = some true) (tC6 : PySem.W.typeIn K (.ref C6) = some (.type "type")) (dC6 : PySem.W.hasDictIn K C6 = true) (iC6 : PySem.W.isClsIn K C6 = true)
    {C7 : Addr} (gC7 : PySem.W.nsIn K mainGlobals "NoLink" = some (some (.ref C7)))
    {fI7 : Addr} {nm7 q7 : Str} {N7 : Addr} {bs7 : List Value} {sn7 : List Str} {sub7 : List Value} {ab7 : Bool} {col7 : Option Bool} {dd7 : Option Addr} {m07 m17 m27 m37 m57 : Option Value}
    {odx7 anx7 : Option Addr} {slx7 : Array (Option Value)} {ocx7 kVx7 dcx7 pmx7 cdx7 ctx7 : Value}
    (xL7 : K.lookup C7 = some (excClassObj nm7 q7 C7 N7 bs7 [.ref C0, .type "ValueError", .type "Exception", .type "BaseException", .type "object"] true sn7 sub7 ab7 col7 dd7 m07 m17 m27 m37 m57 "ValueError.__new__"))
    (sa7 : PySem.W.findIn K (.ref C7) "__setattr__" = some (some (.builtin "object.__setattr__"))) (ga7 : PySem.W.findIn K (.ref C7) "__getattribute__" = some (some (.builtin "BaseException.__getattribute__"))) (gg7 : PySem.W.findIn K (.ref C7) "__getattr__" = some none) (nb7 : PySem.W.findIn K (.ref C7) "name" = some none)
    (ha7 : PySem.W.findIn K (.ref C7) "__class__" = some (some (.builtin "object.__class__"))) (hn7 : PySem.W.specialIn K (.builtin "object.__class__") "__get__" = some (some (.builtin "getset_descriptor.__get__"))) (ht7 : PySem.W.takesIn K (.builtin "object.__class__") = some true) (hm7 : PySem.W.mroIn K C7 (.type "object") = some true)
    (ix7 : PySem.W.findIn K (.ref C7) "__init__" = some (some (.ref fI7))) (tx7 : PySem.W.typeIn K (.ref fI7) = some (.type "function"))
    (lx7 : K.lookup fI7 = some ⟨ocx7, odx7, .func (PySem.W.fnOf "__init__" "NoLink.__init__" (defArgs sx_7) (defBody sx_7) (defScope sx_7) .none kVx7 dcx7 pmx7 anx7 cdx7 ctx7), slx7⟩) (cx7 : PySem.W.codeIn K cdx7 "NoLink.__init__" = true) (kx7 : PySem.W.keepIn K (.ref fI7) = true)
    (kC7 : PySem.W.keepIn K (.ref C7) = true) (eC7 : PySem.W.subIn K (.ref C7) (.type "BaseException") = some true) (tC7 : PySem.W.typeIn K (.ref C7) = some (.type "type")) (dC7 : PySem.W.hasDictIn K C7 = true) (iC7 : PySem.W.isClsIn K C7 = true)
    {C8 : Addr} (gC8 : PySem.W.nsIn K mainGlobals "NotOne" = some (some (.ref C8)))
    {fI8 : Addr} {nm8 q8 : Str} {N8 : Addr} {bs8 : List Value} {sn8 : List Str} {sub8 : List Value} {ab8 : Bool} {col8 : Option Bool} {dd8 : Option Addr} {m08 m18 m28 m38 m58 : Option Value}
    {odx8 anx8 : Option Addr} {slx8 : Array (Option Value)} {ocx8 kVx8 dcx8 pmx8 cdx8 ctx8 : Value}
    (xL8 : K.lookup C8 = some (excClassObj nm8 q8 C8 N8 bs8 [.ref C0, .type "ValueError", .type "Exception", .type "BaseException", .type "object"] true sn8 sub8 ab8 col8 dd8 m08 m18 m28 m38 m58 "ValueError.__new__"))
    (sa8 : PySem.W.findIn K (.ref C8) "__setattr__" = some (some (.builtin "object.__setattr__"))) (ga8 : PySem.W.findIn K (.ref C8) "__getattribute__" = some (some (.builtin "BaseException.__getattribute__"))) (gg8 : PySem.W.findIn K (.ref C8) "__getattr__" = some none) (nb8 : PySem.W.findIn K (.ref C8) "given" = some none)
    (ha8 : PySem.W.findIn K (.ref C8) "__class__" = some (some (.builtin "object.__class__"))) (hn8 : PySem.W.specialIn K (.builtin "object.__class__") "__get__" = some (some (.builtin "getset_descriptor.__get__"))) (ht8 : PySem.W.takesIn K (.builtin "object.__class__") = some true) (hm8 : PySem.W.mroIn K C8 (.type "object") = some true)
    (ix8 : PySem.W.findIn K (.ref C8) "__init__" = some (some (.ref fI8))) (tx8 : PySem.W.typeIn K (.ref fI8) = some (.type "function"))
    (lx8 : K.lookup fI8 = some ⟨ocx8, odx8, .func (PySem.W.fnOf "__init__" "NotOne.__init__" (defArgs sx_8) (defBody sx_8) (defScope sx_8) .none kVx8 dcx8 pmx8 anx8 cdx8 ctx8), slx8⟩) (cx8 : PySem.W.codeIn K cdx8 "NotOne.__init__" = true) (kx8 : PySem.W.keepIn K (.ref fI8) = true)
    (kC8 : PySem.W.keepIn K (.ref C8) = true) (eC8 : PySem.W.subIn K (.ref C8) (.type "BaseException") = some true) (tC8 : PySem.W.typeIn K (.ref C8) = some (.type "type")) (dC8 : PySem.W.hasDictIn K C8 = true) (iC8 : PySem.W.isClsIn K C8 = true)
    {C9 : Addr} (gC9 : PySem.W.nsIn K mainGlobals "OtherTables" = some (some (.ref C9)))
    {fI9 : Addr} {nm9 q9 : Str} {N9 : Addr} {bs9 : List Value} {sn9 : List Str} {sub9 : List Value} {ab9 : Bool} {col9 : Option Bool} {dd9 : Option Addr} {m09 m19 m29 m39 m59 : Option Value}
    {odx9 anx9 : Option Addr} {slx9 : Array (Option Value)} {ocx9 kVx9 dcx9 pmx9 cdx9 ctx9 : Value}
    (xL9 : K.lookup C9 = some (excClassObj nm9 q9 C9 N9 bs9 [.ref C0, .type "ValueError", .type "Exception", .type "BaseException", .type "object"] true sn9 sub9 ab9 col9 dd9 m09 m19 m29 m39 m59 "ValueError.__new__"))
    (sa9 : PySem.W.findIn K (.ref C9) "__setattr__" = some (some (.builtin "object.__setattr__"))) (ga9 : PySem.W.findIn K (.ref C9) "__getattribute__" = some (some (.builtin "BaseException.__getattribute__"))) (gg9 : PySem.W.findIn K (.ref C9) "__getattr__" = some none) (nb9 : PySem.W.findIn K (.ref C9) "given" = some none)
    (ha9 : PySem.W.findIn K (.ref C9) "__class__" = some (some (.builtin "object.__class__"))) (hn9 : PySem.W.specialIn K (.builtin "object.__class__") "__get__" = some (some (.builtin "getset_descriptor.__get__"))) (ht9 : PySem.W.takesIn K (.builtin "object.__class__") = some true) (hm9 : PySem.W.mroIn K C9 (.type "object") = some true)
    (ix9 : PySem.W.findIn K (.ref C9) "__init__" = some (some (.ref fI9))) (tx9 : PySem.W.typeIn K (.ref fI9) = some (.type "function"))
    (lx9 : K.lookup fI9 = some ⟨ocx9, odx9, .func (PySem.W.fnOf "__init__" "OtherTables.__init__" (defArgs sx_9) (defBody sx_9) (defScope sx_9) .none kVx9 dcx9 pmx9 anx9 cdx9 ctx9), slx9⟩) (cx9 : PySem.W.codeIn K cdx9 "OtherTables.__init__" = true) (kx9 : PySem.W.keepIn K (.ref fI9) = true)
    (kC9 : PySem.W.keepIn K (.ref C9) = true) (eC9 : PySem.W.subIn K (.ref C9) (.type "BaseException") = some true) (tC9 : PySem.W.typeIn K (.ref C9) = some (.type "type")) (dC9 : PySem.W.hasDictIn K C9 = true) (iC9 : PySem.W.isClsIn K C9 = true)
    {C10 : Addr} (gC10 : PySem.W.nsIn K mainGlobals "NothingDone" = some (some (.ref C10)))
    {fI10 : Addr} {nm10 q10 : Str} {N10 : Addr} {bs10 : List Value} {sn10 : List Str} {sub10 : List Value} {ab10 : Bool} {col10 : Option Bool} {dd10 : Option Addr} {m010 m110 m210 m310 m510 : Option Value}
    {odx10 anx10 : Option Addr} {slx10 : Array (Option Value)} {ocx10 kVx10 dcx10 pmx10 cdx10 ctx10 : Value}
    (xL10 : K.lookup C10 = some (excClassObj nm10 q10 C10 N10 bs10 [.ref C0, .type "ValueError", .type "Exception", .type "BaseException", .type "object"] true sn10 sub10 ab10 col10 dd10 m010 m110 m210 m310 m510 "ValueError.__new__"))
    (sa10 : PySem.W.findIn K (.ref C10) "__setattr__" = some (some (.builtin "object.__setattr__"))) (ga10 : PySem.W.findIn K (.ref C10) "__getattribute__" = some (some (.builtin "BaseException.__getattribute__"))) (gg10 : PySem.W.findIn K (.ref C10) "__getattr__" = some none) (nb10 : PySem.W.findIn K (.ref C10) "given" = some none)
    (ha10 : PySem.W.findIn K (.ref C10) "__class__" = some (some (.builtin "object.__class__"))) (hn10 : PySem.W.specialIn K (.builtin "object.__class__") "__get__" = some (some (.builtin "getset_descriptor.__get__"))) (ht10 : PySem.W.takesIn K (.builtin "object.__class__") = some true) (hm10 : PySem.W.mroIn K C10 (.type "object") = some true)
    (ix10 : PySem.W.findIn K (.ref C10) "__init__" = some (some (.ref fI10))) (tx10 : PySem.W.typeIn K (.ref fI10) = some (.type "function"))
    (lx10 : K.lookup fI10 = some ⟨ocx10, odx10, .func (PySem.W.fnOf "__init__" "NothingDone.__init__" (defArgs sx_10) (defBody sx_10) (defScope sx_10) .none kVx10 dcx10 pmx10 anx10 cdx10 ctx10), slx10⟩) (cx10 : PySem.W.codeIn K cdx10 "NothingDone.__init__" = true) (kx10 : PySem.W.keepIn K (.ref fI10) = true)
    (kC10 : PySem.W.keepIn K (.ref C10) = true) (eC10 : PySem.W.subIn K (.ref C10) (.type "BaseException") = some true) (tC10 : PySem.W.typeIn K (.ref C10) = some (.type "type")) (dC10 : PySem.W.hasDictIn K C10 = true) (iC10 : PySem.W.isClsIn K C10 = true)
    {C11 : Addr} (gC11 : PySem.W.nsIn K mainGlobals "Known" = some (some (.ref C11)))
    {fI11 : Addr} {nm11 q11 : Str} {N11 : Addr} {bs11 : List Value} {sn11 : List Str} {sub11 : List Value} {ab11 : Bool} {col11 : Option Bool} {dd11 : Option Addr} {m011 m111 m211 m311 m511 : Option Value}
    {odx11 anx11 : Option Addr} {slx11 : Array (Option Value)} {ocx11 kVx11 dcx11 pmx11 cdx11 ctx11 : Value}
    (xL11 : K.lookup C11 = some (excClassObj nm11 q11 C11 N11 bs11 [.ref C0, .type "ValueError", .type "Exception", .type "BaseException", .type "object"] true sn11 sub11 ab11 col11 dd11 m011 m111 m211 m311 m511 "ValueError.__new__"))
    (sa11 : PySem.W.findIn K (.ref C11) "__setattr__" = some (some (.builtin "object.__setattr__"))) (ga11 : PySem.W.findIn K (.ref C11) "__getattribute__" = some (some (.builtin "BaseException.__getattribute__"))) (gg11 : PySem.W.findIn K (.ref C11) "__getattr__" = some none) (nb11 : PySem.W.findIn K (.ref C11) "name" = some none)
    (ha11 : PySem.W.findIn K (.ref C11) "__class__" = some (some (.builtin "object.__class__"))) (hn11 : PySem.W.specialIn K (.builtin "object.__class__") "__get__" = some (some (.builtin "getset_descriptor.__get__"))) (ht11 : PySem.W.takesIn K (.builtin "object.__class__") = some true) (hm11 : PySem.W.mroIn K C11 (.type "object") = some true)
    (ix11 : PySem.W.findIn K (.ref C11) "__init__" = some (some (.ref fI11))) (tx11 : PySem.W.typeIn K (.ref fI11) = some (.type "function"))
    (lx11 : K.lookup fI11 = some ⟨ocx11, odx11, .func (PySem.W.fnOf "__init__" "Known.__init__" (defArgs sx_11) (defBody sx_11) (defScope sx_11) .none kVx11 dcx11 pmx11 anx11 cdx11 ctx11), slx11⟩) (cx11 : PySem.W.codeIn K cdx11 "Known.__init__" = true) (kx11 : PySem.W.keepIn K (.ref fI11) = true)
    (kC11 : PySem.W.keepIn K (.ref C11) = true) (eC11 : PySem.W.subIn K (.ref C11) (.type "BaseException") = some true) (tC11 : PySem.W.typeIn K (.ref C11) = some (.type "type")) (dC11 : PySem.W.hasDictIn K C11 = true) (iC11 : PySem.W.isClsIn K C11 = true)
    {C12 : Addr} (gC12 : PySem.W.nsIn K mainGlobals "NoSchema" = some (some (.ref C12)))
    {fI12 : Addr} {nm12 q12 : Str} {N12 : Addr} {bs12 : List Value} {sn12 : List Str} {sub12 : List Value} {ab12 : Bool} {col12 : Option Bool} {dd12 : Option Addr} {m012 m112 m212 m312 m512 : Option Value}
    {odx12 anx12 : Option Addr} {slx12 : Array (Option Value)} {ocx12 kVx12 dcx12 pmx12 cdx12 ctx12 : Value}
    (xL12 : K.lookup C12 = some (excClassObj nm12 q12 C12 N12 bs12 [.ref C0, .type "ValueError", .type "Exception", .type "BaseException", .type "object"] true sn12 sub12 ab12 col12 dd12 m012 m112 m212 m312 m512 "ValueError.__new__"))
    (sa12 : PySem.W.findIn K (.ref C12) "__setattr__" = some (some (.builtin "object.__setattr__"))) (ga12 : PySem.W.findIn K (.ref C12) "__getattribute__" = some (some (.builtin "BaseException.__getattribute__"))) (gg12 : PySem.W.findIn K (.ref C12) "__getattr__" = some none) (nb12 : PySem.W.findIn K (.ref C12) "name" = some none)
    (ha12 : PySem.W.findIn K (.ref C12) "__class__" = some (some (.builtin "object.__class__"))) (hn12 : PySem.W.specialIn K (.builtin "object.__class__") "__get__" = some (some (.builtin "getset_descriptor.__get__"))) (ht12 : PySem.W.takesIn K (.builtin "object.__class__") = some true) (hm12 : PySem.W.mroIn K C12 (.type "object") = some true)
    (ix12 : PySem.W.findIn K (.ref C12) "__init__" = some (some (.ref fI12))) (tx12 : PySem.W.typeIn K (.ref fI12) = some (.type "function"))
    (lx12 : K.lookup fI12 = some ⟨ocx12, odx12, .func (PySem.W.fnOf "__init__" "NoSchema.__init__" (defArgs sx_12) (defBody sx_12) (defScope sx_12) .none kVx12 dcx12 pmx12 anx12 cdx12 ctx12), slx12⟩) (cx12 : PySem.W.codeIn K cdx12 "NoSchema.__init__" = true) (kx12 : PySem.W.keepIn K (.ref fI12) = true)
    (kC12 : PySem.W.keepIn K (.ref C12) = true) (eC12 : PySem.W.subIn K (.ref C12) (.type "BaseException") = some true) (tC12 : PySem.W.typeIn K (.ref C12) = some (.type "type")) (dC12 : PySem.W.hasDictIn K C12 = true) (iC12 : PySem.W.isClsIn K C12 = true)
    {C13 : Addr} (gC13 : PySem.W.nsIn K mainGlobals "NoNumber" = some (some (.ref C13)))
    {fI13 : Addr} {nm13 q13 : Str} {N13 : Addr} {bs13 : List Value} {sn13 : List Str} {sub13 : List Value} {ab13 : Bool} {col13 : Option Bool} {dd13 : Option Addr} {m013 m113 m213 m313 m513 : Option Value}
    {odx13 anx13 : Option Addr} {slx13 : Array (Option Value)} {ocx13 kVx13 dcx13 pmx13 cdx13 ctx13 : Value}
    (xL13 : K.lookup C13 = some (excClassObj nm13 q13 C13 N13 bs13 [.ref C0, .type "ValueError", .type "Exception", .type "BaseException", .type "object"] true sn13 sub13 ab13 col13 dd13 m013 m113 m213 m313 m513 "ValueError.__new__"))
    (sa13 : PySem.W.findIn K (.ref C13) "__setattr__" = some (some (.builtin "object.__setattr__"))) (ga13 : PySem.W.findIn K (.ref C13) "__getattribute__" = some (some (.builtin "BaseException.__getattribute__"))) (gg13 : PySem.W.findIn K (.ref C13) "__getattr__" = some none) (nb13 : PySem.W.findIn K (.ref C13) "number" = some none)
    (ha13 : PySem.W.findIn K (.ref C13) "__class__" = some (some (.builtin "object.__class__"))) (hn13 : PySem.W.specialIn K (.builtin "object.__class__") "__get__" = some (some (.builtin "getset_descriptor.__get__"))) (ht13 : PySem.W.takesIn K (.builtin "object.__class__") = some true) (hm13 : PySem.W.mroIn K C13 (.type "object") = some true)
    (ix13 : PySem.W.findIn K (.ref C13) "__init__" = some (some (.ref fI13))) (tx13 : PySem.W.typeIn K (.ref fI13) = some (.type "function"))
    (lx13 : K.lookup fI13 = some ⟨ocx13, odx13, .func (PySem.W.fnOf "__init__" "NoNumber.__init__" (defArgs sx_13) (defBody sx_13) (defScope sx_13) .none kVx13 dcx13 pmx13 anx13 cdx13 ctx13), slx13⟩) (cx13 : PySem.W.codeIn K cdx13 "NoNumber.__init__" = true) (kx13 : PySem.W.keepIn K (.ref fI13) = true)
    (kC13 : PySem.W.keepIn K (.ref C13) = true) (eC13 : PySem.W.subIn K (.ref C13) (.type "BaseException") = some true) (tC13 : PySem.W.typeIn K (.ref C13) = some (.type "type")) (dC13 : PySem.W.hasDictIn K C13 = true) (iC13 : PySem.W.isClsIn K C13 = true)
    {C14 : Addr} (gC14 : PySem.W.nsIn K mainGlobals "BadAnswer" = some (some (.ref C14)))
    {fI14 : Addr} {nm14 q14 : Str} {N14 : Addr} {bs14 : List Value} {sn14 : List Str} {sub14 : List Value} {ab14 : Bool} {col14 : Option Bool} {dd14 : Option Addr} {m014 m114 m214 m314 m514 : Option Value}
    {odx14 anx14 : Option Addr} {slx14 : Array (Option Value)} {ocx14 kVx14 dcx14 pmx14 cdx14 ctx14 : Value}
    (xL14 : K.lookup C14 = some (excClassObj nm14 q14 C14 N14 bs14 [.ref C0, .type "ValueError", .type "Exception", .type "BaseException", .type "object"] true sn14 sub14 ab14 col14 dd14 m014 m114 m214 m314 m514 "ValueError.__new__"))
    (sa14 : PySem.W.findIn K (.ref C14) "__setattr__" = some (some (.builtin "object.__setattr__"))) (ga14 : PySem.W.findIn K (.ref C14) "__getattribute__" = some (some (.builtin "BaseException.__getattribute__"))) (gg14 : PySem.W.findIn K (.ref C14) "__getattr__" = some none) (nb14 : PySem.W.findIn K (.ref C14) "answer" = some none)
    (ha14 : PySem.W.findIn K (.ref C14) "__class__" = some (some (.builtin "object.__class__"))) (hn14 : PySem.W.specialIn K (.builtin "object.__class__") "__get__" = some (some (.builtin "getset_descriptor.__get__"))) (ht14 : PySem.W.takesIn K (.builtin "object.__class__") = some true) (hm14 : PySem.W.mroIn K C14 (.type "object") = some true)
    (ix14 : PySem.W.findIn K (.ref C14) "__init__" = some (some (.ref fI14))) (tx14 : PySem.W.typeIn K (.ref fI14) = some (.type "function"))
    (lx14 : K.lookup fI14 = some ⟨ocx14, odx14, .func (PySem.W.fnOf "__init__" "BadAnswer.__init__" (defArgs sx_14) (defBody sx_14) (defScope sx_14) .none kVx14 dcx14 pmx14 anx14 cdx14 ctx14), slx14⟩) (cx14 : PySem.W.codeIn K cdx14 "BadAnswer.__init__" = true) (kx14 : PySem.W.keepIn K (.ref fI14) = true)
    (kC14 : PySem.W.keepIn K (.ref C14) = true) (eC14 : PySem.W.subIn K (.ref C14) (.type "BaseException") = some true) (tC14 : PySem.W.typeIn K (.ref C14) = some (.type "type")) (dC14 : PySem.W.hasDictIn K C14 = true) (iC14 : PySem.W.isClsIn K C14 = true)
    {C15 : Addr} (gC15 : PySem.W.nsIn K mainGlobals "AllKnown" = some (some (.ref C15)))
    {fI15 : Addr} {nm15 q15 : Str} {N15 : Addr} {bs15 : List Value} {sn15 : List Str} {sub15 : List Value} {ab15 : Bool} {col15 : Option Bool} {dd15 : Option Addr} {m015 m115 m215 m315 m515 : Option Value}
    {odx15 anx15 : Option Addr} {slx15 : Array (Option Value)} {ocx15 kVx15 dcx15 pmx15 cdx15 ctx15 : Value}
    (xL15 : K.lookup C15 = some (excClassObj nm15 q15 C15 N15 bs15 [.ref C0, .type "ValueError", .type "Exception", .type "BaseException", .type "object"] true sn15 sub15 ab15 col15 dd15 m015 m115 m215 m315 m515 "ValueError.__new__"))
    (sa15 : PySem.W.findIn K (.ref C15) "__setattr__" = some (some (.builtin "object.__setattr__"))) (ga15 : PySem.W.findIn K (.ref C15) "__getattribute__" = some (some (.builtin "BaseException.__getattribute__"))) (gg15 : PySem.W.findIn K (.ref C15) "__getattr__" = some none) (nb15 : PySem.W.findIn K (.ref C15) "given" = some none)
    (ha15 : PySem.W.findIn K (.ref C15) "__class__" = some (some (.builtin "object.__class__"))) (hn15 : PySem.W.specialIn K (.builtin "object.__class__") "__get__" = some (some (.builtin "getset_descriptor.__get__"))) (ht15 : PySem.W.takesIn K (.builtin "object.__class__") = some true) (hm15 : PySem.W.mroIn K C15 (.type "object") = some true)
    (ix15 : PySem.W.findIn K (.ref C15) "__init__" = some (some (.ref fI15))) (tx15 : PySem.W.typeIn K (.ref fI15) = some (.type "function"))
    (lx15 : K.lookup fI15 = some ⟨ocx15, odx15, .func (PySem.W.fnOf "__init__" "AllKnown.__init__" (defArgs sx_15) (defBody sx_15) (defScope sx_15) .none kVx15 dcx15 pmx15 anx15 cdx15 ctx15), slx15⟩) (cx15 : PySem.W.codeIn K cdx15 "AllKnown.__init__" = true) (kx15 : PySem.W.keepIn K (.ref fI15) = true)
    (kC15 : PySem.W.keepIn K (.ref C15) = true) (eC15 : PySem.W.subIn K (.ref C15) (.type "BaseException") = some true) (tC15 : PySem.W.typeIn K (.ref C15) = some (.type "type")) (dC15 : PySem.W.hasDictIn K C15 = true) (iC15 : PySem.W.isClsIn K C15 = true)
    (k_BadLink_AllKnown : PySem.W.kitOne K (.ref C1) (.ref C15) = some false)
    (k_BadText_AllKnown : PySem.W.kitOne K (.ref C2) (.ref C15) = some false)
    (k_BadLine_AllKnown : PySem.W.kitOne K (.ref C3) (.ref C15) = some false)
    (k_BadRows_AllKnown : PySem.W.kitOne K (.ref C4) (.ref C15) = some false)
    (k_BadPairs_AllKnown : PySem.W.kitOne K (.ref C5) (.ref C15) = some false)
    (k_NoTable_AllKnown : PySem.W.kitOne K (.ref C6) (.ref C15) = some false)
    (k_NoLink_AllKnown : PySem.W.kitOne K (.ref C7) (.ref C15) = some false)
    (k_NotOne_AllKnown : PySem.W.kitOne K (.ref C8) (.ref C15) = some false)
    (k_OtherTables_AllKnown : PySem.W.kitOne K (.ref C9) (.ref C15) = some false)
    (k_NothingDone_AllKnown : PySem.W.kitOne K (.ref C10) (.ref C15) = some false)
    (k_Known_AllKnown : PySem.W.kitOne K (.ref C11) (.ref C15) = some false)
    (k_NoSchema_AllKnown : PySem.W.kitOne K (.ref C12) (.ref C15) = some false)
    (k_NoNumber_AllKnown : PySem.W.kitOne K (.ref C13) (.ref C15) = some false)
    (k_BadAnswer_AllKnown : PySem.W.kitOne K (.ref C14) (.ref C15) = some false)
    (k_AllKnown_AllKnown : PySem.W.kitOne K (.ref C15) (.ref C15) = some true)
    (kb_AllKnown_NoneType : PySem.W.kitOne K (.type "NoneType") (.ref C15) = some false)
    (kb_AllKnown_bool : PySem.W.kitOne K (.type "bool") (.ref C15) = some false)
    (kb_AllKnown_int : PySem.W.kitOne K (.type "int") (.ref C15) = some false)
    (kb_AllKnown_str : PySem.W.kitOne K (.type "str") (.ref C15) = some false)
    (kb_AllKnown_tuple : PySem.W.kitOne K (.type "tuple") (.ref C15) = some false)
    (kb_AllKnown_list : PySem.W.kitOne K (.type "list") (.ref C15) = some false)
    (k_BadLink_BadAnswer : PySem.W.kitOne K (.ref C1) (.ref C14) = some false)
    (k_BadText_BadAnswer : PySem.W.kitOne K (.ref C2) (.ref C14) = some false)
    (k_BadLine_BadAnswer : PySem.W.kitOne K (.ref C3) (.ref C14) = some false)
    (k_BadRows_BadAnswer : PySem.W.kitOne K (.ref C4) (.ref C14) = some false)
    (k_BadPairs_BadAnswer : PySem.W.kitOne K (.ref C5) (.ref C14) = some false)
    (k_NoTable_BadAnswer : PySem.W.kitOne K (.ref C6) (.ref C14) = some false)
    (k_NoLink_BadAnswer : PySem.W.kitOne K (.ref C7) (.ref C14) = some false)
    (k_NotOne_BadAnswer : PySem.W.kitOne K (.ref C8) (.ref C14) = some false)
    (k_OtherTables_BadAnswer : PySem.W.kitOne K (.ref C9) (.ref C14) = some false)
    (k_NothingDone_BadAnswer : PySem.W.kitOne K (.ref C10) (.ref C14) = some false)
    (k_Known_BadAnswer : PySem.W.kitOne K (.ref C11) (.ref C14) = some false)
    (k_NoSchema_BadAnswer : PySem.W.kitOne K (.ref C12) (.ref C14) = some false)
    (k_NoNumber_BadAnswer : PySem.W.kitOne K (.ref C13) (.ref C14) = some false)
    (k_BadAnswer_BadAnswer : PySem.W.kitOne K (.ref C14) (.ref C14) = some true)
    (k_AllKnown_BadAnswer : PySem.W.kitOne K (.ref C15) (.ref C14) = some false)
    (kb_BadAnswer_NoneType : PySem.W.kitOne K (.type "NoneType") (.ref C14) = some false)
    (kb_BadAnswer_bool : PySem.W.kitOne K (.type "bool") (.ref C14) = some false)
    (kb_BadAnswer_int : PySem.W.kitOne K (.type "int") (.ref C14) = some false)
    (kb_BadAnswer_str : PySem.W.kitOne K (.type "str") (.ref C14) = some false)
    (kb_BadAnswer_tuple : PySem.W.kitOne K (.type "tuple") (.ref C14) = some false)
    (kb_BadAnswer_list : PySem.W.kitOne K (.type "list") (.ref C14) = some false)
    (k_BadLink_BadLine : PySem.W.kitOne K (.ref C1) (.ref C3) = some false)
    (k_BadText_BadLine : PySem.W.kitOne K (.ref C2) (.ref C3) = some false)
    (k_BadLine_BadLine : PySem.W.kitOne K (.ref C3) (.ref C3) = some true)
    (k_BadRows_BadLine : PySem.W.kitOne K (.ref C4) (.ref C3) = some false)
    (k_BadPairs_BadLine : PySem.W.kitOne K (.ref C5) (.ref C3) = some false)
    (k_NoTable_BadLine : PySem.W.kitOne K (.ref C6) (.ref C3) = some false)
    (k_NoLink_BadLine : PySem.W.kitOne K (.ref C7) (.ref C3) = some false)
    (k_NotOne_BadLine : PySem.W.kitOne K (.ref C8) (.ref C3) = some false)
    (k_OtherTables_BadLine : PySem.W.kitOne K (.ref C9) (.ref C3) = some false)
    (k_NothingDone_BadLine : PySem.W.kitOne K (.ref C10) (.ref C3) = some false)
    (k_Known_BadLine : PySem.W.kitOne K (.ref C11) (.ref C3) = some false)
    (k_NoSchema_BadLine : PySem.W.kitOne K (.ref C12) (.ref C3) = some false)
    (k_NoNumber_BadLine : PySem.W.kitOne K (.ref C13) (.ref C3) = some false)
    (k_BadAnswer_BadLine : PySem.W.kitOne K (.ref C14) (.ref C3) = some false)
    (k_AllKnown_BadLine : PySem.W.kitOne K (.ref C15) (.ref C3) = some false)
    (kb_BadLine_NoneType : PySem.W.kitOne K (.type "NoneType") (.ref C3) = some false)
    (kb_BadLine_bool : PySem.W.kitOne K (.type "bool") (.ref C3) = some false)
    (kb_BadLine_int : PySem.W.kitOne K (.type "int") (.ref C3) = some false)
    (kb_BadLine_str : PySem.W.kitOne K (.type "str") (.ref C3) = some false)
    (kb_BadLine_tuple : PySem.W.kitOne K (.type "tuple") (.ref C3) = some false)
    (kb_BadLine_list : PySem.W.kitOne K (.type "list") (.ref C3) = some false)
    (k_BadLink_BadLink : PySem.W.kitOne K (.ref C1) (.ref C1) = some true)
    (k_BadText_BadLink : PySem.W.kitOne K (.ref C2) (.ref C1) = some false)
    (k_BadLine_BadLink : PySem.W.kitOne K (.ref C3) (.ref C1) = some false)
    (k_BadRows_BadLink : PySem.W.kitOne K (.ref C4) (.ref C1) = some false)
    (k_BadPairs_BadLink : PySem.W.kitOne K (.ref C5) (.ref C1) = some false)
    (k_NoTable_BadLink : PySem.W.kitOne K (.ref C6) (.ref C1) = some false)
    (k_NoLink_BadLink : PySem.W.kitOne K (.ref C7) (.ref C1) = some false)
    (k_NotOne_BadLink : PySem.W.kitOne K (.ref C8) (.ref C1) = some false)
    (k_OtherTables_BadLink : PySem.W.kitOne K (.ref C9) (.ref C1) = some false)
    (k_NothingDone_BadLink : PySem.W.kitOne K (.ref C10) (.ref C1) = some false)
    (k_Known_BadLink : PySem.W.kitOne K (.ref C11) (.ref C1) = some false)
    (k_NoSchema_BadLink : PySem.W.kitOne K (.ref C12) (.ref C1) = some false)
    (k_NoNumber_BadLink : PySem.W.kitOne K (.ref C13) (.ref C1) = some false)
    (k_BadAnswer_BadLink : PySem.W.kitOne K (.ref C14) (.ref C1) = some false)
    (k_AllKnown_BadLink : PySem.W.kitOne K (.ref C15) (.ref C1) = some false)
    (kb_BadLink_NoneType : PySem.W.kitOne K (.type "NoneType") (.ref C1) = some false)
    (kb_BadLink_bool : PySem.W.kitOne K (.type "bool") (.ref C1) = some false)
    (kb_BadLink_int : PySem.W.kitOne K (.type "int") (.ref C1) = some false)
    (kb_BadLink_str : PySem.W.kitOne K (.type "str") (.ref C1) = some false)
    (kb_BadLink_tuple : PySem.W.kitOne K (.type "tuple") (.ref C1) = some false)
    (kb_BadLink_list : PySem.W.kitOne K (.type "list") (.ref C1) = some false)
    (k_BadLink_BadPairs : PySem.W.kitOne K (.ref C1) (.ref C5) = some false)
    (k_BadText_BadPairs : PySem.W.kitOne K (.ref C2) (.ref C5) = some false)
    (k_BadLine_BadPairs : PySem.W.kitOne K (.ref C3) (.ref C5) = some false)
    (k_BadRows_BadPairs : PySem.W.kitOne K (.ref C4) (.ref C5) = some false)
    (k_BadPairs_BadPairs : PySem.W.kitOne K (.ref C5) (.ref C5) = some true)
    (k_NoTable_BadPairs : PySem.W.kitOne K (.ref C6) (.ref C5) = some false)
    (k_NoLink_BadPairs : PySem.W.kitOne K (.ref C7) (.ref C5) = some false)
    (k_NotOne_BadPairs : PySem.W.kitOne K (.ref C8) (.ref C5) = some false)
    (k_OtherTables_BadPairs : PySem.W.kitOne K (.ref C9) (.ref C5) = some false)
    (k_NothingDone_BadPairs : PySem.W.kitOne K (.ref C10) (.ref C5) = some false)
    (k_Known_BadPairs : PySem.W.kitOne K (.ref C11) (.ref C5) = some false)
    (k_NoSchema_BadPairs : PySem.W.kitOne K (.ref C12) (.ref C5) = some false)
    (k_NoNumber_BadPairs : PySem.W.kitOne K (.ref C13) (.ref C5) = some false)
    (k_BadAnswer_BadPairs : PySem.W.kitOne K (.ref C14) (.ref C5) = some false)
    (k_AllKnown_BadPairs : PySem.W.kitOne K (.ref C15) (.ref C5) = some false)
    (kb_BadPairs_NoneType : PySem.W.kitOne K (.type "NoneType") (.ref C5) = some false)
    (kb_BadPairs_bool : PySem.W.kitOne K (.type "bool") (.ref C5) = some false)
    (kb_BadPairs_int : PySem.W.kitOne K (.type "int") (.ref C5) = some false)
    (kb_BadPairs_str : PySem.W.kitOne K (.type "str") (.ref C5) = some false)
    (kb_BadPairs_tuple : PySem.W.kitOne K (.type "tuple") (.ref C5) = some false)
    (kb_BadPairs_list : PySem.W.kitOne K (.type "list") (.ref C5) = some false)
    (k_BadLink_BadRows : PySem.W.kitOne K (.ref C1) (.ref C4) = some false)
    (k_BadText_BadRows : PySem.W.kitOne K (.ref C2) (.ref C4) = some false)
    (k_BadLine_BadRows : PySem.W.kitOne K (.ref C3) (.ref C4) = some false)
    (k_BadRows_BadRows : PySem.W.kitOne K (.ref C4) (.ref C4) = some true)
    (k_BadPairs_BadRows : PySem.W.kitOne K (.ref C5) (.ref C4) = some false)
    (k_NoTable_BadRows : PySem.W.kitOne K (.ref C6) (.ref C4) = some false)
    (k_NoLink_BadRows : PySem.W.kitOne K (.ref C7) (.ref C4) = some false)
    (k_NotOne_BadRows : PySem.W.kitOne K (.ref C8) (.ref C4) = some false)
    (k_OtherTables_BadRows : PySem.W.kitOne K (.ref C9) (.ref C4) = some false)
    (k_NothingDone_BadRows : PySem.W.kitOne K (.ref C10) (.ref C4) = some false)
    (k_Known_BadRows : PySem.W.kitOne K (.ref C11) (.ref C4) = some false)
    (k_NoSchema_BadRows : PySem.W.kitOne K (.ref C12) (.ref C4) = some false)
    (k_NoNumber_BadRows : PySem.W.kitOne K (.ref C13) (.ref C4) = some false)
    (k_BadAnswer_BadRows : PySem.W.kitOne K (.ref C14) (.ref C4) = some false)
    (k_AllKnown_BadRows : PySem.W.kitOne K (.ref C15) (.ref C4) = some false)
    (kb_BadRows_NoneType : PySem.W.kitOne K (.type "NoneType") (.ref C4) = some false)
    (kb_BadRows_bool : PySem.W.kitOne K (.type "bool") (.ref C4) = some false)
    (kb_BadRows_int : PySem.W.kitOne K (.type "int") (.ref C4) = some false)
    (kb_BadRows_str : PySem.W.kitOne K (.type "str") (.ref C4) = some false)
    (kb_BadRows_tuple : PySem.W.kitOne K (.type "tuple") (.ref C4) = some false)
    (kb_BadRows_list : PySem.W.kitOne K (.type "list") (.ref C4) = some false)
    (k_BadLink_BadText : PySem.W.kitOne K (.ref C1) (.ref C2) = some false)
    (k_BadText_BadText : PySem.W.kitOne K (.ref C2) (.ref C2) = some true)
    (k_BadLine_BadText : PySem.W.kitOne K (.ref C3) (.ref C2) = some false)
    (k_BadRows_BadText : PySem.W.kitOne K (.ref C4) (.ref C2) = some false)
    (k_BadPairs_BadText : PySem.W.kitOne K (.ref C5) (.ref C2) = some false)
    (k_NoTable_BadText : PySem.W.kitOne K (.ref C6) (.ref C2) = some false)
    (k_NoLink_BadText : PySem.W.kitOne K (.ref C7) (.ref C2) = some false)
    (k_NotOne_BadText : PySem.W.kitOne K (.ref C8) (.ref C2) = some false)
    (k_OtherTables_BadText : PySem.W.kitOne K (.ref C9) (.ref C2) = some false)
    (k_NothingDone_BadText : PySem.W.kitOne K (.ref C10) (.ref C2) = some false)
    (k_Known_BadText : PySem.W.kitOne K (.ref C11) (.ref C2) = some false)
    (k_NoSchema_BadText : PySem.W.kitOne K (.ref C12) (.ref C2) = some false)
    (k_NoNumber_BadText : PySem.W.kitOne K (.ref C13) (.ref C2) = some false)
    (k_BadAnswer_BadText : PySem.W.kitOne K (.ref C14) (.ref C2) = some false)
    (k_AllKnown_BadText : PySem.W.kitOne K (.ref C15) (.ref C2) = some false)
    (kb_BadText_NoneType : PySem.W.kitOne K (.type "NoneType") (.ref C2) = some false)
    (kb_BadText_bool : PySem.W.kitOne K (.type "bool") (.ref C2) = some false)
    (kb_BadText_int : PySem.W.kitOne K (.type "int") (.ref C2) = some false)
    (kb_BadText_str : PySem.W.kitOne K (.type "str") (.ref C2) = some false)
    (kb_BadText_tuple : PySem.W.kitOne K (.type "tuple") (.ref C2) = some false)
    (kb_BadText_list : PySem.W.kitOne K (.type "list") (.ref C2) = some false)
    (k_BadLink_FanError : PySem.W.kitOne K (.ref C1) (.ref C0) = some true)
    (k_BadText_FanError : PySem.W.kitOne K (.ref C2) (.ref C0) = some true)
    (k_BadLine_FanError : PySem.W.kitOne K (.ref C3) (.ref C0) = some true)
    (k_BadRows_FanError : PySem.W.kitOne K (.ref C4) (.ref C0) = some true)
    (k_BadPairs_FanError : PySem.W.kitOne K (.ref C5) (.ref C0) = some true)
    (k_NoTable_FanError : PySem.W.kitOne K (.ref C6) (.ref C0) = some true)
    (k_NoLink_FanError : PySem.W.kitOne K (.ref C7) (.ref C0) = some true)
    (k_NotOne_FanError : PySem.W.kitOne K (.ref C8) (.ref C0) = some true)
    (k_OtherTables_FanError : PySem.W.kitOne K (.ref C9) (.ref C0) = some true)
    (k_NothingDone_FanError : PySem.W.kitOne K (.ref C10) (.ref C0) = some true)
    (k_Known_FanError : PySem.W.kitOne K (.ref C11) (.ref C0) = some true)
    (k_NoSchema_FanError : PySem.W.kitOne K (.ref C12) (.ref C0) = some true)
    (k_NoNumber_FanError : PySem.W.kitOne K (.ref C13) (.ref C0) = some true)
    (k_BadAnswer_FanError : PySem.W.kitOne K (.ref C14) (.ref C0) = some true)
    (k_AllKnown_FanError : PySem.W.kitOne K (.ref C15) (.ref C0) = some true)
    (kb_FanError_NoneType : PySem.W.kitOne K (.type "NoneType") (.ref C0) = some false)
    (kb_FanError_bool : PySem.W.kitOne K (.type "bool") (.ref C0) = some false)
    (kb_FanError_int : PySem.W.kitOne K (.type "int") (.ref C0) = some false)
    (kb_FanError_str : PySem.W.kitOne K (.type "str") (.ref C0) = some false)
    (kb_FanError_tuple : PySem.W.kitOne K (.type "tuple") (.ref C0) = some false)
    (kb_FanError_list : PySem.W.kitOne K (.type "list") (.ref C0) = some false)
    (k_BadLink_Known : PySem.W.kitOne K (.ref C1) (.ref C11) = some false)
    (k_BadText_Known : PySem.W.kitOne K (.ref C2) (.ref C11) = some false)
    (k_BadLine_Known : PySem.W.kitOne K (.ref C3) (.ref C11) = some false)
    (k_BadRows_Known : PySem.W.kitOne K (.ref C4) (.ref C11) = some false)
    (k_BadPairs_Known : PySem.W.kitOne K (.ref C5) (.ref C11) = some false)
    (k_NoTable_Known : PySem.W.kitOne K (.ref C6) (.ref C11) = some false)
    (k_NoLink_Known : PySem.W.kitOne K (.ref C7) (.ref C11) = some false)
    (k_NotOne_Known : PySem.W.kitOne K (.ref C8) (.ref C11) = some false)
    (k_OtherTables_Known : PySem.W.kitOne K (.ref C9) (.ref C11) = some false)
    (k_NothingDone_Known : PySem.W.kitOne K (.ref C10) (.ref C11) = some false)
    (k_Known_Known : PySem.W.kitOne K (.ref C11) (.ref C11) = some true)
    (k_NoSchema_Known : PySem.W.kitOne K (.ref C12) (.ref C11) = some false)
    (k_NoNumber_Known : PySem.W.kitOne K (.ref C13) (.ref C11) = some false)
    (k_BadAnswer_Known : PySem.W.kitOne K (.ref C14) (.ref C11) = some false)
    (k_AllKnown_Known : PySem.W.kitOne K (.ref C15) (.ref C11) = some false)
    (kb_Known_NoneType : PySem.W.kitOne K (.type "NoneType") (.ref C11) = some false)
    (kb_Known_bool : PySem.W.kitOne K (.type "bool") (.ref C11) = some false)
    (kb_Known_int : PySem.W.kitOne K (.type "int") (.ref C11) = some false)
    (kb_Known_str : PySem.W.kitOne K (.type "str") (.ref C11) = some false)
    (kb_Known_tuple : PySem.W.kitOne K (.type "tuple") (.ref C11) = some false)
    (kb_Known_list : PySem.W.kitOne K (.type "list") (.ref C11) = some false)
    (k_BadLink_NoLink : PySem.W.kitOne K (.ref C1) (.ref C7) = some false)
    (k_BadText_NoLink : PySem.W.kitOne K (.ref C2) (.ref C7) = some false)
    (k_BadLine_NoLink : PySem.W.kitOne K (.ref C3) (.ref C7) = some false)
    (k_BadRows_NoLink : PySem.W.kitOne K (.ref C4) (.ref C7) = some false)
    (k_BadPairs_NoLink : PySem.W.kitOne K (.ref C5) (.ref C7) = some false)
    (k_NoTable_NoLink : PySem.W.kitOne K (.ref C6) (.ref C7) = some false)
    (k_NoLink_NoLink : PySem.W.kitOne K (.ref C7) (.ref C7) = some true)
    (k_NotOne_NoLink : PySem.W.kitOne K (.ref C8) (.ref C7) = some false)
    (k_OtherTables_NoLink : PySem.W.kitOne K (.ref C9) (.ref C7) = some false)
    (k_NothingDone_NoLink : PySem.W.kitOne K (.ref C10) (.ref C7) = some false)
    (k_Known_NoLink : PySem.W.kitOne K (.ref C11) (.ref C7) = some false)
    (k_NoSchema_NoLink : PySem.W.kitOne K (.ref C12) (.ref C7) = some false)
    (k_NoNumber_NoLink : PySem.W.kitOne K (.ref C13) (.ref C7) = some false)
    (k_BadAnswer_NoLink : PySem.W.kitOne K (.ref C14) (.ref C7) = some false)
    (k_AllKnown_NoLink : PySem.W.kitOne K (.ref C15) (.ref C7) = some false)
    (kb_NoLink_NoneType : PySem.W.kitOne K (.type "NoneType") (.ref C7) = some false)
    (kb_NoLink_bool : PySem.W.kitOne K (.type "bool") (.ref C7) = some false)
    (kb_NoLink_int : PySem.W.kitOne K (.type "int") (.ref C7) = some false)
    (kb_NoLink_str : PySem.W.kitOne K (.type "str") (.ref C7) = some false)
    (kb_NoLink_tuple : PySem.W.kitOne K (.type "tuple") (.ref C7) = some false)
    (kb_NoLink_list : PySem.W.kitOne K (.type "list") (.ref C7) = some false)
    (k_BadLink_NoNumber : PySem.W.kitOne K (.ref C1) (.ref C13) = some false)
    (k_BadText_NoNumber : PySem.W.kitOne K (.ref C2) (.ref C13) = some false)
    (k_BadLine_NoNumber : PySem.W.kitOne K (.ref C3) (.ref C13) = some false)
    (k_BadRows_NoNumber : PySem.W.kitOne K (.ref C4) (.ref C13) = some false)
    (k_BadPairs_NoNumber : PySem.W.kitOne K (.ref C5) (.ref C13) = some false)
    (k_NoTable_NoNumber : PySem.W.kitOne K (.ref C6) (.ref C13) = some false)
    (k_NoLink_NoNumber : PySem.W.kitOne K (.ref C7) (.ref C13) = some false)
    (k_NotOne_NoNumber : PySem.W.kitOne K (.ref C8) (.ref C13) = some false)
    (k_OtherTables_NoNumber : PySem.W.kitOne K (.ref C9) (.ref C13) = some false)
    (k_NothingDone_NoNumber : PySem.W.kitOne K (.ref C10) (.ref C13) = some false)
    (k_Known_NoNumber : PySem.W.kitOne K (.ref C11) (.ref C13) = some false)
    (k_NoSchema_NoNumber : PySem.W.kitOne K (.ref C12) (.ref C13) = some false)
    (k_NoNumber_NoNumber : PySem.W.kitOne K (.ref C13) (.ref C13) = some true)
    (k_BadAnswer_NoNumber : PySem.W.kitOne K (.ref C14) (.ref C13) = some false)
    (k_AllKnown_NoNumber : PySem.W.kitOne K (.ref C15) (.ref C13) = some false)
    (kb_NoNumber_NoneType : PySem.W.kitOne K (.type "NoneType") (.ref C13) = some false)
    (kb_NoNumber_bool : PySem.W.kitOne K (.type "bool") (.ref C13) = some false)
    (kb_NoNumber_int : PySem.W.kitOne K (.type "int") (.ref C13) = some false)
    (kb_NoNumber_str : PySem.W.kitOne K (.type "str") (.ref C13) = some false)
    (kb_NoNumber_tuple : PySem.W.kitOne K (.type "tuple") (.ref C13) = some false)
    (kb_NoNumber_list : PySem.W.kitOne K (.type "list") (.ref C13) = some false)
    (k_BadLink_NoSchema : PySem.W.kitOne K (.ref C1) (.ref C12) = some false)
    (k_BadText_NoSchema : PySem.W.kitOne K (.ref C2) (.ref C12) = some false)
    (k_BadLine_NoSchema : PySem.W.kitOne K (.ref C3) (.ref C12) = some false)
    (k_BadRows_NoSchema : PySem.W.kitOne K (.ref C4) (.ref C12) = some false)
    (k_BadPairs_NoSchema : PySem.W.kitOne K (.ref C5) (.ref C12) = some false)
    (k_NoTable_NoSchema : PySem.W.kitOne K (.ref C6) (.ref C12) = some false)
    (k_NoLink_NoSchema : PySem.W.kitOne K (.ref C7) (.ref C12) = some false)
    (k_NotOne_NoSchema : PySem.W.kitOne K (.ref C8) (.ref C12) = some false)
    (k_OtherTables_NoSchema : PySem.W.kitOne K (.ref C9) (.ref C12) = some false)
    (k_NothingDone_NoSchema : PySem.W.kitOne K (.ref C10) (.ref C12) = some false)
    (k_Known_NoSchema : PySem.W.kitOne K (.ref C11) (.ref C12) = some false)
    (k_NoSchema_NoSchema : PySem.W.kitOne K (.ref C12) (.ref C12) = some true)
    (k_NoNumber_NoSchema : PySem.W.kitOne K (.ref C13) (.ref C12) = some false)
    (k_BadAnswer_NoSchema : PySem.W.kitOne K (.ref C14) (.ref C12) = some false)
    (k_AllKnown_NoSchema : PySem.W.kitOne K (.ref C15) (.ref C12) = some false)
    (kb_NoSchema_NoneType : PySem.W.kitOne K (.type "NoneType") (.ref C12) = some false)
    (kb_NoSchema_bool : PySem.W.kitOne K (.type "bool") (.ref C12) = some false)
    (kb_NoSchema_int : PySem.W.kitOne K (.type "int") (.ref C12) = some false)
    (kb_NoSchema_str : PySem.W.kitOne K (.type "str") (.ref C12) = some false)
    (kb_NoSchema_tuple : PySem.W.kitOne K (.type "tuple") (.ref C12) = some false)
    (kb_NoSchema_list : PySem.W.kitOne K (.type "list") (.ref C12) = some false)
    (k_BadLink_NoTable : PySem.W.kitOne K (.ref C1) (.ref C6) = some false)
    (k_BadText_NoTable : PySem.W.kitOne K (.ref C2) (.ref C6) = some false)
    (k_BadLine_NoTable : PySem.W.kitOne K (.ref C3) (.ref C6) = some false)
    (k_BadRows_NoTable : PySem.W.kitOne K (.ref C4) (.ref C6) = some false)
    (k_BadPairs_NoTable : PySem.W.kitOne K (.ref C5) (.ref C6) = some false)
    (k_NoTable_NoTable : PySem.W.kitOne K (.ref C6) (.ref C6) = some true)
    (k_NoLink_NoTable : PySem.W.kitOne K (.ref C7) (.ref C6) = some false)
    (k_NotOne_NoTable : PySem.W.kitOne K (.ref C8) (.ref C6) = some false)
    (k_OtherTables_NoTable : PySem.W.kitOne K (.ref C9) (.ref C6) = some false)
    (k_NothingDone_NoTable : PySem.W.kitOne K (.ref C10) (.ref C6) = some false)
    (k_Known_NoTable : PySem.W.kitOne K (.ref C11) (.ref C6) = some false)
    (k_NoSchema_NoTable : PySem.W.kitOne K (.ref C12) (.ref C6) = some false)
    (k_NoNumber_NoTable : PySem.W.kitOne K (.ref C13) (.ref C6) = some false)
    (k_BadAnswer_NoTable : PySem.W.kitOne K (.ref C14) (.ref C6) = some false)
    (k_AllKnown_NoTable : PySem.W.kitOne K (.ref C15) (.ref C6) = some false)
    (kb_NoTable_NoneType : PySem.W.kitOne K (.type "NoneType") (.ref C6) = some false)
    (kb_NoTable_bool : PySem.W.kitOne K (.type "bool") (.ref C6) = some false)
    (kb_NoTable_int : PySem.W.kitOne K (.type "int") (.ref C6) = some false)
    (kb_NoTable_str : PySem.W.kitOne K (.type "str") (.ref C6) = some false)
    (kb_NoTable_tuple : PySem.W.kitOne K (.type "tuple") (.ref C6) = some false)
    (kb_NoTable_list : PySem.W.kitOne K (.type "list") (.ref C6) = some false)
    (k_BadLink_NotOne : PySem.W.kitOne K (.ref C1) (.ref C8) = some false)
    (k_BadText_NotOne : PySem.W.kitOne K (.ref C2) (.ref C8) = some false)
    (k_BadLine_NotOne : PySem.W.kitOne K (.ref C3) (.ref C8) = some false)
    (k_BadRows_NotOne : PySem.W.kitOne K (.ref C4) (.ref C8) = some false)
    (k_BadPairs_NotOne : PySem.W.kitOne K (.ref C5) (.ref C8) = some false)
    (k_NoTable_NotOne : PySem.W.kitOne K (.ref C6) (.ref C8) = some false)
    (k_NoLink_NotOne : PySem.W.kitOne K (.ref C7) (.ref C8) = some false)
    (k_NotOne_NotOne : PySem.W.kitOne K (.ref C8) (.ref C8) = some true)
    (k_OtherTables_NotOne : PySem.W.kitOne K (.ref C9) (.ref C8) = some false)
    (k_NothingDone_NotOne : PySem.W.kitOne K (.ref C10) (.ref C8) = some false)
    (k_Known_NotOne : PySem.W.kitOne K (.ref C11) (.ref C8) = some false)
    (k_NoSchema_NotOne : PySem.W.kitOne K (.ref C12) (.ref C8) = some false)
    (k_NoNumber_NotOne : PySem.W.kitOne K (.ref C13) (.ref C8) = some false)
    (k_BadAnswer_NotOne : PySem.W.kitOne K (.ref C14) (.ref C8) = some false)
    (k_AllKnown_NotOne : PySem.W.kitOne K (.ref C15) (.ref C8) = some false)
    (kb_NotOne_NoneType : PySem.W.kitOne K (.type "NoneType") (.ref C8) = some false)
    (kb_NotOne_bool : PySem.W.kitOne K (.type "bool") (.ref C8) = some false)
    (kb_NotOne_int : PySem.W.kitOne K (.type "int") (.ref C8) = some false)
    (kb_NotOne_str : PySem.W.kitOne K (.type "str") (.ref C8) = some false)
    (kb_NotOne_tuple : PySem.W.kitOne K (.type "tuple") (.ref C8) = some false)
    (kb_NotOne_list : PySem.W.kitOne K (.type "list") (.ref C8) = some false)
    (k_BadLink_NothingDone : PySem.W.kitOne K (.ref C1) (.ref C10) = some false)
    (k_BadText_NothingDone : PySem.W.kitOne K (.ref C2) (.ref C10) = some false)
    (k_BadLine_NothingDone : PySem.W.kitOne K (.ref C3) (.ref C10) = some false)
    (k_BadRows_NothingDone : PySem.W.kitOne K (.ref C4) (.ref C10) = some false)
    (k_BadPairs_NothingDone : PySem.W.kitOne K (.ref C5) (.ref C10) = some false)
    (k_NoTable_NothingDone : PySem.W.kitOne K (.ref C6) (.ref C10) = some false)
    (k_NoLink_NothingDone : PySem.W.kitOne K (.ref C7) (.ref C10) = some false)
    (k_NotOne_NothingDone : PySem.W.kitOne K (.ref C8) (.ref C10) = some false)
    (k_OtherTables_NothingDone : PySem.W.kitOne K (.ref C9) (.ref C10) = some false)
    (k_NothingDone_NothingDone : PySem.W.kitOne K (.ref C10) (.ref C10) = some true)
    (k_Known_NothingDone : PySem.W.kitOne K (.ref C11) (.ref C10) = some false)
    (k_NoSchema_NothingDone : PySem.W.kitOne K (.ref C12) (.ref C10) = some false)
    (k_NoNumber_NothingDone : PySem.W.kitOne K (.ref C13) (.ref C10) = some false)
    (k_BadAnswer_NothingDone : PySem.W.kitOne K (.ref C14) (.ref C10) = some false)
    (k_AllKnown_NothingDone : PySem.W.kitOne K (.ref C15) (.ref C10) = some false)
    (kb_NothingDone_NoneType : PySem.W.kitOne K (.type "NoneType") (.ref C10) = some false)
    (kb_NothingDone_bool : PySem.W.kitOne K (.type "bool") (.ref C10) = some false)
    (kb_NothingDone_int : PySem.W.kitOne K (.type "int") (.ref C10) = some false)
    (kb_NothingDone_str : PySem.W.kitOne K (.type "str") (.ref C10) = some false)
    (kb_NothingDone_tuple : PySem.W.kitOne K (.type "tuple") (.ref C10) = some false)
    (kb_NothingDone_list : PySem.W.kitOne K (.type "list") (.ref C10) = some false)
    (k_BadLink_OtherTables : PySem.W.kitOne K (.ref C1) (.ref C9) = some false)
    (k_BadText_OtherTables : PySem.W.kitOne K (.ref C2) (.ref C9) = some false)
    (k_BadLine_OtherTables : PySem.W.kitOne K (.ref C3) (.ref C9) = some false)
    (k_BadRows_OtherTables : PySem.W.kitOne K (.ref C4) (.ref C9) = some false)
    (k_BadPairs_OtherTables : PySem.W.kitOne K (.ref C5) (.ref C9) = some false)
    (k_NoTable_OtherTables : PySem.W.kitOne K (.ref C6) (.ref C9) = some false)
    (k_NoLink_OtherTables : PySem.W.kitOne K (.ref C7) (.ref C9) = some false)
    (k_NotOne_OtherTables : PySem.W.kitOne K (.ref C8) (.ref C9) = some false)
    (k_OtherTables_OtherTables : PySem.W.kitOne K (.ref C9) (.ref C9) = some true)
    (k_NothingDone_OtherTables : PySem.W.kitOne K (.ref C10) (.ref C9) = some false)
    (k_Known_OtherTables : PySem.W.kitOne K (.ref C11) (.ref C9) = some false)
    (k_NoSchema_OtherTables : PySem.W.kitOne K (.ref C12) (.ref C9) = some false)
    (k_NoNumber_OtherTables : PySem.W.kitOne K (.ref C13) (.ref C9) = some false)
    (k_BadAnswer_OtherTables : PySem.W.kitOne K (.ref C14) (.ref C9) = some false)
    (k_AllKnown_OtherTables : PySem.W.kitOne K (.ref C15) (.ref C9) = some false)
    (kb_OtherTables_NoneType : PySem.W.kitOne K (.type "NoneType") (.ref C9) = some false)
    (kb_OtherTables_bool : PySem.W.kitOne K (.type "bool") (.ref C9) = some false)
    (kb_OtherTables_int : PySem.W.kitOne K (.type "int") (.ref C9) = some false)
    (kb_OtherTables_str : PySem.W.kitOne K (.type "str") (.ref C9) = some false)
    (kb_OtherTables_tuple : PySem.W.kitOne K (.type "tuple") (.ref C9) = some false)
    (kb_OtherTables_list : PySem.W.kitOne K (.type "list") (.ref C9) = some false)
    (k_BadLink_ValueError : PySem.W.kitOne K (.ref C1) (.type "ValueError") = some true)
    (k_BadText_ValueError : PySem.W.kitOne K (.ref C2) (.type "ValueError") = some true)
    (k_BadLine_ValueError : PySem.W.kitOne K (.ref C3) (.type "ValueError") = some true)
    (k_BadRows_ValueError : PySem.W.kitOne K (.ref C4) (.type "ValueError") = some true)
    (k_BadPairs_ValueError : PySem.W.kitOne K (.ref C5) (.type "ValueError") = some true)
    (k_NoTable_ValueError : PySem.W.kitOne K (.ref C6) (.type "ValueError") = some true)
    (k_NoLink_ValueError : PySem.W.kitOne K (.ref C7) (.type "ValueError") = some true)
    (k_NotOne_ValueError : PySem.W.kitOne K (.ref C8) (.type "ValueError") = some true)
    (k_OtherTables_ValueError : PySem.W.kitOne K (.ref C9) (.type "ValueError") = some true)
    (k_NothingDone_ValueError : PySem.W.kitOne K (.ref C10) (.type "ValueError") = some true)
    (k_Known_ValueError : PySem.W.kitOne K (.ref C11) (.type "ValueError") = some true)
    (k_NoSchema_ValueError : PySem.W.kitOne K (.ref C12) (.type "ValueError") = some true)
    (k_NoNumber_ValueError : PySem.W.kitOne K (.ref C13) (.type "ValueError") = some true)
    (k_BadAnswer_ValueError : PySem.W.kitOne K (.ref C14) (.type "ValueError") = some true)
    (k_AllKnown_ValueError : PySem.W.kitOne K (.ref C15) (.type "ValueError") = some true) :
    ∃ fd : FuncData, (∀ (s : Shared) (v : Value), BindsTo s fd ⟨[v], []⟩ [("_law_script", v)]) ∧ ∀ base : Heap, K.In base → base.Ns mainGlobals mg → FnOk l.prog w K mg base (L2.CX l.prog w) 24 fa fd ["_law_script"] (spLaw K) := by
  have e := hfa.symm.trans (PySem.W.mg_of X G a7)
  cases e
  have F0 := fun_mk (st := s_0) l0 c0 k0
  have B0 := F0.binds (ps := ps_0) fun _ _ _ _ _ _ us hl => match us, hl with | [_, _], _ => rfl
  have F1 := fun_mk (st := s_1) l1 c1 k1
  have B1 := F1.binds (ps := ps_1) fun _ _ _ _ _ _ us hl => match us, hl with | [_, _], _ => rfl
  have F2 := fun_mk (st := s_2) l2 c2 k2
  have B2 := F2.binds (ps := ps_2) fun _ _ _ _ _ _ us hl => match us, hl with | [_, _], _ => rfl
  have F3 := fun_mk (st := s_3) l3 c3 k3
  have B3 := F3.binds (ps := ps_3) fun _ _ _ _ _ _ us hl => match us, hl with | [_, _], _ => rfl
  have F4 := fun_mk (st := s_4) l4 c4 k4
  have B4 := F4.binds (ps := ps_4) fun _ _ _ _ _ _ us hl => match us, hl with | [_, _], _ => rfl
  have F5 := fun_mk (st := s_5) l5 c5 k5
  have B5 := F5.binds (ps := ps_5) fun _ _ _ _ _ _ us hl => match us, hl with | [_], _ => rfl
  have F6 := fun_mk (st := s_6) l6 c6 k6
  have B6 := F6.binds (ps := ps_6) fun _ _ _ _ _ _ us hl => match us, hl with | [_], _ => rfl
  have F7 := fun_mk (st := s_7) l7 c7 k7
  have B7 := F7.binds (ps := ps_7) fun _ _ _ _ _ _ us hl => match us, hl with | [_], _ => rfl
  let a : Ad := ⟨f0, PySem.W.fnOf "_law_box" "_law_box" (defArgs s_0) (defBody s_0) (defScope s_0) .none kV0 dc0 pm0 an0 cd0 ct0, f1, PySem.W.fnOf "_law_take" "_law_take" (defArgs s_1) (defBody s_1) (defScope s_1) .none kV1 dc1 pm1 an1 cd1 ct1, f2, PySem.W.fnOf "_law_cells" "_law_cells" (defArgs s_2) (defBody s_2) (defScope s_2) .none kV2 dc2 pm2 an2 cd2 ct2, f3, PySem.W.fnOf "_law_of" "_law_of" (defArgs s_3) (defBody s_3) (defScope s_3) .none kV3 dc3 pm3 an3 cd3 ct3, f4, PySem.W.fnOf "_law_same" "_law_same" (defArgs s_4) (defBody s_4) (defScope s_4) .none kV4 dc4 pm4 an4 cd4 ct4, f5, PySem.W.fnOf "_law_sorts" "_law_sorts" (defArgs s_5) (defBody s_5) (defScope s_5) .none kV5 dc5 pm5 an5 cd5 ct5, f6, PySem.W.fnOf "_law_right" "_law_right" (defArgs s_6) (defBody s_6) (defScope s_6) .none kV6 dc6 pm6 an6 cd6 ct6, fa, PySem.W.fnOf "law" "law" (defArgs s_7) (defBody s_7) (defScope s_7) .none kV7 dc7 pm7 an7 cd7 ct7, fI1, PySem.W.fnOf "__init__" "BadLink.__init__" (defArgs sx_1) (defBody sx_1) (defScope sx_1) .none kVx1 dcx1 pmx1 anx1 cdx1 ctx1, fI2, PySem.W.fnOf "__init__" "BadText.__init__" (defArgs sx_2) (defBody sx_2) (defScope sx_2) .none kVx2 dcx2 pmx2 anx2 cdx2 ctx2, fI3, PySem.W.fnOf "__init__" "BadLine.__init__" (defArgs sx_3) (defBody sx_3) (defScope sx_3) .none kVx3 dcx3 pmx3 anx3 cdx3 ctx3, fI4, PySem.W.fnOf "__init__" "BadRows.__init__" (defArgs sx_4) (defBody sx_4) (defScope sx_4) .none kVx4 dcx4 pmx4 anx4 cdx4 ctx4, fI5, PySem.W.fnOf "__init__" "BadPairs.__init__" (defArgs sx_5) (defBody sx_5) (defScope sx_5) .none kVx5 dcx5 pmx5 anx5 cdx5 ctx5, fI6, PySem.W.fnOf "__init__" "NoTable.__init__" (defArgs sx_6) (defBody sx_6) (defScope sx_6) .none kVx6 dcx6 pmx6 anx6 cdx6 ctx6, fI7, PySem.W.fnOf "__init__" "NoLink.__init__" (defArgs sx_7) (defBody sx_7) (defScope sx_7) .none kVx7 dcx7 pmx7 anx7 cdx7 ctx7, fI8, PySem.W.fnOf "__init__" "NotOne.__init__" (defArgs sx_8) (defBody sx_8) (defScope sx_8) .none kVx8 dcx8 pmx8 anx8 cdx8 ctx8, fI9, PySem.W.fnOf "__init__" "OtherTables.__init__" (defArgs sx_9) (defBody sx_9) (defScope sx_9) .none kVx9 dcx9 pmx9 anx9 cdx9 ctx9, fI10, PySem.W.fnOf "__init__" "NothingDone.__init__" (defArgs sx_10) (defBody sx_10) (defScope sx_10) .none kVx10 dcx10 pmx10 anx10 cdx10 ctx10, fI11, PySem.W.fnOf "__init__" "Known.__init__" (defArgs sx_11) (defBody sx_11) (defScope sx_11) .none kVx11 dcx11 pmx11 anx11 cdx11 ctx11, fI12, PySem.W.fnOf "__init__" "NoSchema.__init__" (defArgs sx_12) (defBody sx_12) (defScope sx_12) .none kVx12 dcx12 pmx12 anx12 cdx12 ctx12, fI13, PySem.W.fnOf "__init__" "NoNumber.__init__" (defArgs sx_13) (defBody sx_13) (defScope sx_13) .none kVx13 dcx13 pmx13 anx13 cdx13 ctx13, fI14, PySem.W.fnOf "__init__" "BadAnswer.__init__" (defArgs sx_14) (defBody sx_14) (defScope sx_14) .none kVx14 dcx14 pmx14 anx14 cdx14 ctx14, fI15, PySem.W.fnOf "__init__" "AllKnown.__init__" (defArgs sx_15) (defBody sx_15) (defScope sx_15) .none kVx15 dcx15 pmx15 anx15 cdx15 ctx15⟩
  let k : Kx := ⟨K, (fun i => match i with | 0 => C0 | 1 => C1 | 2 => C2 | 3 => C3 | 4 => C4 | 5 => C5 | 6 => C6 | 7 => C7 | 8 => C8 | 9 => C9 | 10 => C10 | 11 => C11 | 12 => C12 | 13 => C13 | 14 => C14 | 15 => C15 | _ => 0), (fun i => match i with | 1 => ("place" : Str) | 2 => ("piece" : Str) | 3 => ("number" : Str) | 4 => ("name" : Str) | 5 => ("place" : Str) | 6 => ("name" : Str) | 7 => ("name" : Str) | 8 => ("given" : Str) | 9 => ("given" : Str) | 10 => ("given" : Str) | 11 => ("name" : Str) | 12 => ("name" : Str) | 13 => ("number" : Str) | 14 => ("answer" : Str) | 15 => ("given" : Str) | _ => ("" : Str)), (fun i => match i with | _ => 0)⟩
  have T : Tx K mg a k := ⟨F0, B0, PySem.W.mg_of X G a0, F1, B1, PySem.W.mg_of X G a1, F2, B2, PySem.W.mg_of X G a2, F3, B3, PySem.W.mg_of X G a3, F4, B4, PySem.W.mg_of X G a4, F5, B5, PySem.W.mg_of X G a5, F6, B6, PySem.W.mg_of X G a6, F7, B7, PySem.W.mg_of X G a7, PySem.W.mg_none_of X G z_ValueError, PySem.W.mg_none_of X G z_abs, PySem.W.mg_none_of X G z_all, PySem.W.mg_none_of X G z_bool, PySem.W.mg_none_of X G z_enumerate, PySem.W.mg_none_of X G z_int, PySem.W.mg_none_of X G z_isinstance, PySem.W.mg_none_of X G z_len, PySem.W.mg_none_of X G z_list, PySem.W.mg_none_of X G z_range, PySem.W.mg_none_of X G z_str, PySem.W.mg_none_of X G z_tuple, PySem.W.mg_none_of X G z_zip, ExcT.mk' (C := C1) X G rfl rfl gC1 xL1 rfl sa1 ga1 gg1 nb1 ha1 hn1 ht1 hm1 ix1 tx1 lx1 cx1 kx1 kC1 eC1 tC1 dC1 iC1 (fun _ _ _ _ _ _ us hl => match us, hl with | [_, _], _ => rfl), ExcT.mk' (C := C2) X G rfl rfl gC2 xL2 rfl sa2 ga2 gg2 nb2 ha2 hn2 ht2 hm2 ix2 tx2 lx2 cx2 kx2 kC2 eC2 tC2 dC2 iC2 (fun _ _ _ _ _ _ us hl => match us, hl with | [_, _], _ => rfl), ExcT.mk' (C := C3) X G rfl rfl gC3 xL3 rfl sa3 ga3 gg3 nb3 ha3 hn3 ht3 hm3 ix3 tx3 lx3 cx3 kx3 kC3 eC3 tC3 dC3 iC3 (fun _ _ _ _ _ _ us hl => match us, hl with | [_, _], _ => rfl), ExcT.mk' (C := C4) X G rfl rfl gC4 xL4 rfl sa4 ga4 gg4 nb4 ha4 hn4 ht4 hm4 ix4 tx4 lx4 cx4 kx4 kC4 eC4 tC4 dC4 iC4 (fun _ _ _ _ _ _ us hl => match us, hl with | [_, _], _ => rfl), ExcT.mk' (C := C5) X G rfl rfl gC5 xL5 rfl sa5 ga5 gg5 nb5 ha5 hn5 ht5 hm5 ix5 tx5 lx5 cx5 kx5 kC5 eC5 tC5 dC5 iC5 (fun _ _ _ _ _ _ us hl => match us, hl with | [_, _], _ => rfl), ExcT.mk' (C := C6) X G rfl rfl gC6 xL6 rfl sa6 ga6 gg6 nb6 ha6 hn6 ht6 hm6 ix6 tx6 lx6 cx6 kx6 kC6 eC6 tC6 dC6 iC6 (fun _ _ _ _ _ _ us hl => match us, hl with | [_, _], _ => rfl), ExcT.mk' (C := C7) X G rfl rfl gC7 xL7 rfl sa7 ga7 gg7 nb7 ha7 hn7 ht7 hm7 ix7 tx7 lx7 cx7 kx7 kC7 eC7 tC7 dC7 iC7 (fun _ _ _ _ _ _ us hl => match us, hl with | [_, _], _ => rfl), ExcT0.mk' (C := C8) X G rfl rfl gC8 xL8 rfl sa8 ga8 gg8 nb8 ha8 hn8 ht8 hm8 ix8 tx8 lx8 cx8 kx8 kC8 eC8 tC8 dC8 iC8 (fun _ _ _ _ _ _ us hl => match us, hl with | [_], _ => rfl), ExcT0.mk' (C := C9) X G rfl rfl gC9 xL9 rfl sa9 ga9 gg9 nb9 ha9 hn9 ht9 hm9 ix9 tx9 lx9 cx9 kx9 kC9 eC9 tC9 dC9 iC9 (fun _ _ _ _ _ _ us hl => match us, hl with | [_], _ => rfl), ExcT0.mk' (C := C10) X G rfl rfl gC10 xL10 rfl sa10 ga10 gg10 nb10 ha10 hn10 ht10 hm10 ix10 tx10 lx10 cx10 kx10 kC10 eC10 tC10 dC10 iC10 (fun _ _ _ _ _ _ us hl => match us, hl with | [_], _ => rfl), ExcT.mk' (C := C11) X G rfl rfl gC11 xL11 rfl sa11 ga11 gg11 nb11 ha11 hn11 ht11 hm11 ix11 tx11 lx11 cx11 kx11 kC11 eC11 tC11 dC11 iC11 (fun _ _ _ _ _ _ us hl => match us, hl with | [_, _], _ => rfl), ExcT.mk' (C := C12) X G rfl rfl gC12 xL12 rfl sa12 ga12 gg12 nb12 ha12 hn12 ht12 hm12 ix12 tx12 lx12 cx12 kx12 kC12 eC12 tC12 dC12 iC12 (fun _ _ _ _ _ _ us hl => match us, hl with | [_, _], _ => rfl), ExcT.mk' (C := C13) X G rfl rfl gC13 xL13 rfl sa13 ga13 gg13 nb13 ha13 hn13 ht13 hm13 ix13 tx13 lx13 cx13 kx13 kC13 eC13 tC13 dC13 iC13 (fun _ _ _ _ _ _ us hl => match us, hl with | [_, _], _ => rfl), ExcT.mk' (C := C14) X G rfl rfl gC14 xL14 rfl sa14 ga14 gg14 nb14 ha14 hn14 ht14 hm14 ix14 tx14 lx14 cx14 kx14 kC14 eC14 tC14 dC14 iC14 (fun _ _ _ _ _ _ us hl => match us, hl with | [_, _], _ => rfl), ExcT0.mk' (C := C15) X G rfl rfl gC15 xL15 rfl sa15 ga15 gg15 nb15 ha15 hn15 ht15 hm15 ix15 tx15 lx15 cx15 kx15 kC15 eC15 tC15 dC15 iC15 (fun _ _ _ _ _ _ us hl => match us, hl with | [_], _ => rfl), (fun s self u => .of_eq rfl), (fun s self u => .of_eq rfl), (fun s self u => .of_eq rfl), (fun s self u => .of_eq rfl), (fun s self u => .of_eq rfl), (fun s self u => .of_eq rfl), (fun s self u => .of_eq rfl), (fun s self u => .of_eq rfl), (fun s self u => .of_eq rfl), (fun s self u => .of_eq rfl), (fun s self u => .of_eq rfl), PySem.W.mg_of X G gC15, PySem.W.mg_of X G gC14, PySem.W.mg_of X G gC3, PySem.W.mg_of X G gC1, PySem.W.mg_of X G gC5, PySem.W.mg_of X G gC4, PySem.W.mg_of X G gC2, PySem.W.mg_of X G gC0, PySem.W.mg_of X G gC11, PySem.W.mg_of X G gC7, PySem.W.mg_of X G gC13, PySem.W.mg_of X G gC12, PySem.W.mg_of X G gC6, PySem.W.mg_of X G gC8, PySem.W.mg_of X G gC10, PySem.W.mg_of X G gC9, k_BadLink_AllKnown, k_BadText_AllKnown, k_BadLine_AllKnown, k_BadRows_AllKnown, k_BadPairs_AllKnown, k_NoTable_AllKnown, k_NoLink_AllKnown, k_NotOne_AllKnown, k_OtherTables_AllKnown, k_NothingDone_AllKnown, k_Known_AllKnown, k_NoSchema_AllKnown, k_NoNumber_AllKnown, k_BadAnswer_AllKnown, k_AllKnown_AllKnown, (by intro T hT; simp only [tyNames, List.mem_cons, List.mem_nil_iff, or_false] at hT; rcases hT with rfl | rfl | rfl | rfl | rfl | rfl <;> assumption), k_BadLink_BadAnswer, k_BadText_BadAnswer, k_BadLine_BadAnswer, k_BadRows_BadAnswer, k_BadPairs_BadAnswer, k_NoTable_BadAnswer, k_NoLink_BadAnswer, k_NotOne_BadAnswer, k_OtherTables_BadAnswer, k_NothingDone_BadAnswer, k_Known_BadAnswer, k_NoSchema_BadAnswer, k_NoNumber_BadAnswer, k_BadAnswer_BadAnswer, k_AllKnown_BadAnswer, (by intro T hT; simp only [tyNames, List.mem_cons, List.mem_nil_iff, or_false] at hT; rcases hT with rfl | rfl | rfl | rfl | rfl | rfl <;> assumption), k_BadLink_BadLine, k_BadText_BadLine, k_BadLine_BadLine, k_BadRows_BadLine, k_BadPairs_BadLine, k_NoTable_BadLine, k_NoLink_BadLine, k_NotOne_BadLine, k_OtherTables_BadLine, k_NothingDone_BadLine, k_Known_BadLine, k_NoSchema_BadLine, k_NoNumber_BadLine, k_BadAnswer_BadLine, k_AllKnown_BadLine, (by intro T hT; simp only [tyNames, List.mem_cons, List.mem_nil_iff, or_false] at hT; rcases hT with rfl | rfl | rfl | rfl | rfl | rfl <;> assumption), k_BadLink_BadLink, k_BadText_BadLink, k_BadLine_BadLink, k_BadRows_BadLink, k_BadPairs_BadLink, k_NoTable_BadLink, k_NoLink_BadLink, k_NotOne_BadLink, k_OtherTables_BadLink, k_NothingDone_BadLink, k_Known_BadLink, k_NoSchema_BadLink, k_NoNumber_BadLink, k_BadAnswer_BadLink, k_AllKnown_BadLink, (by intro T hT; simp only [tyNames, List.mem_cons, List.mem_nil_iff, or_false] at hT; rcases hT with rfl | rfl | rfl | rfl | rfl | rfl <;> assumption), k_BadLink_BadPairs, k_BadText_BadPairs, k_BadLine_BadPairs, k_BadRows_BadPairs, k_BadPairs_BadPairs, k_NoTable_BadPairs, k_NoLink_BadPairs, k_NotOne_BadPairs, k_OtherTables_BadPairs, k_NothingDone_BadPairs, k_Known_BadPairs, k_NoSchema_BadPairs, k_NoNumber_BadPairs, k_BadAnswer_BadPairs, k_AllKnown_BadPairs, (by intro T hT; simp only [tyNames, List.mem_cons, List.mem_nil_iff, or_false] at hT; rcases hT with rfl | rfl | rfl | rfl | rfl | rfl <;> assumption), k_BadLink_BadRows, k_BadText_BadRows, k_BadLine_BadRows, k_BadRows_BadRows, k_BadPairs_BadRows, k_NoTable_BadRows, k_NoLink_BadRows, k_NotOne_BadRows, k_OtherTables_BadRows, k_NothingDone_BadRows, k_Known_BadRows, k_NoSchema_BadRows, k_NoNumber_BadRows, k_BadAnswer_BadRows, k_AllKnown_BadRows, (by intro T hT; simp only [tyNames, List.mem_cons, List.mem_nil_iff, or_false] at hT; rcases hT with rfl | rfl | rfl | rfl | rfl | rfl <;> assumption), k_BadLink_BadText, k_BadText_BadText, k_BadLine_BadText, k_BadRows_BadText, k_BadPairs_BadText, k_NoTable_BadText, k_NoLink_BadText, k_NotOne_BadText, k_OtherTables_BadText, k_NothingDone_BadText, k_Known_BadText, k_NoSchema_BadText, k_NoNumber_BadText, k_BadAnswer_BadText, k_AllKnown_BadText, (by intro T hT; simp only [tyNames, List.mem_cons, List.mem_nil_iff, or_false] at hT; rcases hT with rfl | rfl | rfl | rfl | rfl | rfl <;> assumption), k_BadLink_FanError, k_BadText_FanError, k_BadLine_FanError, k_BadRows_FanError, k_BadPairs_FanError, k_NoTable_FanError, k_NoLink_FanError, k_NotOne_FanError, k_OtherTables_FanError, k_NothingDone_FanError, k_Known_FanError, k_NoSchema_FanError, k_NoNumber_FanError, k_BadAnswer_FanError, k_AllKnown_FanError, (by intro T hT; simp only [tyNames, List.mem_cons, List.mem_nil_iff, or_false] at hT; rcases hT with rfl | rfl | rfl | rfl | rfl | rfl <;> assumption), k_BadLink_Known, k_BadText_Known, k_BadLine_Known, k_BadRows_Known, k_BadPairs_Known, k_NoTable_Known, k_NoLink_Known, k_NotOne_Known, k_OtherTables_Known, k_NothingDone_Known, k_Known_Known, k_NoSchema_Known, k_NoNumber_Known, k_BadAnswer_Known, k_AllKnown_Known, (by intro T hT; simp only [tyNames, List.mem_cons, List.mem_nil_iff, or_false] at hT; rcases hT with rfl | rfl | rfl | rfl | rfl | rfl <;> assumption), k_BadLink_NoLink, k_BadText_NoLink, k_BadLine_NoLink, k_BadRows_NoLink, k_BadPairs_NoLink, k_NoTable_NoLink, k_NoLink_NoLink, k_NotOne_NoLink, k_OtherTables_NoLink, k_NothingDone_NoLink, k_Known_NoLink, k_NoSchema_NoLink, k_NoNumber_NoLink, k_BadAnswer_NoLink, k_AllKnown_NoLink, (by intro T hT; simp only [tyNames, List.mem_cons, List.mem_nil_iff, or_false] at hT; rcases hT with rfl | rfl | rfl | rfl | rfl | rfl <;> assumption), k_BadLink_NoNumber, k_BadText_NoNumber, k_BadLine_NoNumber, k_BadRows_NoNumber, k_BadPairs_NoNumber, k_NoTable_NoNumber, k_NoLink_NoNumber, k_NotOne_NoNumber, k_OtherTables_NoNumber, k_NothingDone_NoNumber, k_Known_NoNumber, k_NoSchema_NoNumber, k_NoNumber_NoNumber, k_BadAnswer_NoNumber, k_AllKnown_NoNumber, (by intro T hT; simp only [tyNames, List.mem_cons, List.mem_nil_iff, or_false] at hT; rcases hT with rfl | rfl | rfl | rfl | rfl | rfl <;> assumption), k_BadLink_NoSchema, k_BadText_NoSchema, k_BadLine_NoSchema, k_BadRows_NoSchema, k_BadPairs_NoSchema, k_NoTable_NoSchema, k_NoLink_NoSchema, k_NotOne_NoSchema, k_OtherTables_NoSchema, k_NothingDone_NoSchema, k_Known_NoSchema, k_NoSchema_NoSchema, k_NoNumber_NoSchema, k_BadAnswer_NoSchema, k_AllKnown_NoSchema, (by intro T hT; simp only [tyNames, List.mem_cons, List.mem_nil_iff, or_false] at hT; rcases hT with rfl | rfl | rfl | rfl | rfl | rfl <;> assumption), k_BadLink_NoTable, k_BadText_NoTable, k_BadLine_NoTable, k_BadRows_NoTable, k_BadPairs_NoTable, k_NoTable_NoTable, k_NoLink_NoTable, k_NotOne_NoTable, k_OtherTables_NoTable, k_NothingDone_NoTable, k_Known_NoTable, k_NoSchema_NoTable, k_NoNumber_NoTable, k_BadAnswer_NoTable, k_AllKnown_NoTable, (by intro T hT; simp only [tyNames, List.mem_cons, List.mem_nil_iff, or_false] at hT; rcases hT with rfl | rfl | rfl | rfl | rfl | rfl <;> assumption), k_BadLink_NotOne, k_BadText_NotOne, k_BadLine_NotOne, k_BadRows_NotOne, k_BadPairs_NotOne, k_NoTable_NotOne, k_NoLink_NotOne, k_NotOne_NotOne, k_OtherTables_NotOne, k_NothingDone_NotOne, k_Known_NotOne, k_NoSchema_NotOne, k_NoNumber_NotOne, k_BadAnswer_NotOne, k_AllKnown_NotOne, (by intro T hT; simp only [tyNames, List.mem_cons, List.mem_nil_iff, or_false] at hT; rcases hT with rfl | rfl | rfl | rfl | rfl | rfl <;> assumption), k_BadLink_NothingDone, k_BadText_NothingDone, k_BadLine_NothingDone, k_BadRows_NothingDone, k_BadPairs_NothingDone, k_NoTable_NothingDone, k_NoLink_NothingDone, k_NotOne_NothingDone, k_OtherTables_NothingDone, k_NothingDone_NothingDone, k_Known_NothingDone, k_NoSchema_NothingDone, k_NoNumber_NothingDone, k_BadAnswer_NothingDone, k_AllKnown_NothingDone, (by intro T hT; simp only [tyNames, List.mem_cons, List.mem_nil_iff, or_false] at hT; rcases hT with rfl | rfl | rfl | rfl | rfl | rfl <;> assumption), k_BadLink_OtherTables, k_BadText_OtherTables, k_BadLine_OtherTables, k_BadRows_OtherTables, k_BadPairs_OtherTables, k_NoTable_OtherTables, k_NoLink_OtherTables, k_NotOne_OtherTables, k_OtherTables_OtherTables, k_NothingDone_OtherTables, k_Known_OtherTables, k_NoSchema_OtherTables, k_NoNumber_OtherTables, k_BadAnswer_OtherTables, k_AllKnown_OtherTables, (by intro T hT; simp only [tyNames, List.mem_cons, List.mem_nil_iff, or_false] at hT; rcases hT with rfl | rfl | rfl | rfl | rfl | rfl <;> assumption), k_BadLink_ValueError, k_BadText_ValueError, k_BadLine_ValueError, k_BadRows_ValueError, k_BadPairs_ValueError, k_NoTable_ValueError, k_NoLink_ValueError, k_NotOne_ValueError, k_OtherTables_ValueError, k_NothingDone_ValueError, k_Known_ValueError, k_NoSchema_ValueError, k_NoNumber_ValueError, k_BadAnswer_ValueError, k_AllKnown_ValueError, (by intro T hT; simp only [tyNames, List.mem_cons, List.mem_nil_iff, or_false] at hT; rcases hT with rfl | rfl | rfl | rfl | rfl | rfl <;> exact kit_ty (by decide +kernel))⟩
  exact ⟨a.d7, fun s v => .of_eq rfl, fun base _ _ => law_ok (k := k) rfl (all (k := k) rfl T 24).g7 rfl L⟩
theorem walk {l : PySem.W.OpenLaw} {q : Program} {loose : List Str} {XP : (Str → Option Value) → Heap → Prop} {YP : World → Heap → Prop} {d : DefRec} {K : Params → PySem.W.Frag} (hn : l.most = some 63) (hdf : d.params.defaults = [])
    (hY : ∀ (w : World) (h : Heap), YP w h → (K w.params).In h)
    (F : ∀ (w : World) (mg : Str → Option Value) (fa : Addr) (h : Heap), (K w.params).In h → h.Ns mainGlobals mg → mg d.name = some (.ref fa) →
      ∃ fd : FuncData, (∀ (s : Shared) (u : Value), BindsTo s fd ⟨[u], []⟩ [("_law_script", u)]) ∧ ∀ base : Heap, (K w.params).In base → base.Ns mainGlobals mg → FnOk l.prog w (K w.params) mg base (L2.CX l.prog w) 24 fa fd ["_law_script"] (spLaw (K w.params))) :
    PySem.W.WalkO q loose XP YP l.row.toRowW d [] (fun f vs => PySem.call f vs) :=
  L2.walk_of (n := 63) (k := 24) (x := "_law_script") (CX := fun w => L2.CX l.prog w) (sp := fun w => spLaw (K w.params)) hn (by decide) hdf ⟨rfl, by decide, by decide⟩ hY F (fun _ _ a ns hl _ hS => ⟨a, ns, rfl, hS, hl, fun _ => rfl⟩) fun _ _ _ _ _ z => by
    obtain ⟨_, _, _, _, _, _, _, _, _, _, _, _, z⟩ := z
    exact z
end K00
namespace K00
open DI
/-- a box stands at i, it has drawn at most c times -/
def Bx (G : List Cell) (i : Nat) (c : Int) : Prop := ∃ a b e : Int, G[i]? = some (.lst [.int a, .int b, .int e]) ∧ 0 ≤ e ∧ e ≤ c
theorem Bx.mono {G : List Cell} {i : Nat} {c c' : Int} (h : Bx G i c) (hc : c ≤ c') : Bx G i c' := by
  obtain ⟨a, b, e, h1, h2, h3⟩ := h
  exact ⟨a, b, e, h1, h2, by omega⟩
/-- shared cells alone are changed, at i -/
theorem small_of {i : Int} (h1 : -(2 ^ 64) < i) (h2 : i < 2 ^ 64) : small i = true := by unfold small; rw [decide_eq_true h1, decide_eq_true h2]; rfl
theorem set_get {G : List Cell} {i : Nat} {c d : Cell} (h : G[i]? = some c) : (G.set i d)[i]? = some d := by
  rw [List.getElem?_set_self (List.getElem?_eq_some_iff.mp h).1]
theorem take_ex (C : CallH) {G : List Cell} {i : Nat} {c m : Int} (hb : Bx G i c) (hc : c < 2 ^ 40) (hm : 0 < m) (hM : m < 1073741824) :
    ∃ r G' σ, exec C b_1 [some (.ref i), some (.int m), none, none, none, none] ⟨G, []⟩ = .rt (.int r) ⟨G', []⟩ ∧ 0 ≤ r ∧ r < m ∧ Bx G' i (c + 1) ∧ G'.length = G.length ∧ σ = () := by
  obtain ⟨a, b, e, hg, e0, ec⟩ := hb
  have hmod : ∀ x : Int, 0 ≤ x % m ∧ x % m < m := fun x => ⟨Int.emod_nonneg x (by omega), Int.emod_lt_of_pos x hm⟩
  by_cases h : a > 0
  · refine ⟨a % m, G.set i (.lst [.int (a / m), .int b, .int e]), (), ?_, (hmod a).1, (hmod a).2, ⟨a / m, b, e, set_get hg, e0, by omega⟩, by simp, rfl⟩
    simp [b_1, exec, evT, ev, R.bind, R.fl, R.of, R.ofF, Flow.then, idxD, atD, S.seq, S.lst, hg, ixAt, cmpD, S.data2, S.data, D.frz, D.noC, D.plain, gtD, S.tr, bltD, one, intD, binD, arith, hm, hM, h, bindP, setI, setL, D.noCs, depthC]
  · obtain ⟨f, hf⟩ : ∃ f, f = e + 1 := ⟨_, rfl⟩
    obtain ⟨once, ho⟩ : ∃ x, x = ((b + 48271 * f) * (39373 + f)) % 2147483647 := ⟨_, rfl⟩
    obtain ⟨far, hfar⟩ : ∃ x, x = once % 40009 + 7 := ⟨_, rfl⟩
    obtain ⟨again, ha⟩ : ∃ x, x = ((once + f + b / 1000003) * far) % 2147483629 := ⟨_, rfl⟩
    have s2 : small (39373 + f) = true := small_of (by omega) (by omega)
    have s3 : small 48271 = true := by decide
    have s4 : small far = true := small_of (by omega) (by omega)
    refine ⟨((again * 48271 + once) % 2147483587 / 64) % m, G.set i (.lst [.int a, .int b, .int f]), (), ?_, (hmod _).1, (hmod _).2, ⟨a, b, f, set_get hg, by omega, by omega⟩, by simp, rfl⟩
    simp [b_1, exec, evT, ev, R.bind, R.fl, R.of, R.ofF, Flow.then, idxD, atD, S.seq, S.lst, hg, ixAt, cmpD, S.data2, S.data, D.frz, D.noC, D.plain, gtD, S.tr, bltD, one, intD, binD, arith, hm, hM, h, bindP, setI, setL, D.noCs, depthC, addD, mulD, s2, s3, s4, set_get hg, ← hf, ← ho, ← hfar, ← ha]

theorem frz_nc {L : List Cell} {d : D} (h : D.noC d = true) : ∀ n, D.frz L n d = some d
  | 0 => by simp [D.frz, h]
  | n + 1 => by simp [D.frz, h]
theorem mapM_nc {L : List Cell} {n : Nat} : ∀ {ds : List D}, D.noCs ds = true → ds.mapM (D.frz L n) = some ds
  | [], _ => rfl
  | d :: ds, h => by
    simp only [D.noCs, Bool.and_eq_true] at h
    rw [List.mapM_cons, frz_nc h.1, mapM_nc h.2]
    rfl
theorem call_nc {C : CallH} {f : Nat} {ds : List D} {s : S} {d : D} {G : List Cell} (h : D.noCs ds = true) (e : C f ds s.G = .ok d G) : callD C f ds s = .ok d ⟨G, s.L⟩ := by
  unfold callD
  rw [mapM_nc h]
  simp [e, h]
theorem out_loc {L G : List Cell} {a : Nat} {ds : List D} (h : L[a]? = some (.lst ds)) (hn : D.noCs ds = true) : (Flow.rt (.loc a) ⟨G, L⟩).out = .ok (.lst ds) G := by
  have e : D.frz L depthC (.loc a) = some (.lst ds) := by
    show (if D.noC (.loc a) = true then some (D.loc a) else frzC (D.frz L 7) L (.loc a)) = _
    rw [if_neg (by simp [D.noC])]
    simp only [frzC, h, mapM_nc hn, Option.map_some]
  show (match D.frz L depthC (.loc a) with | some d => RC.ok d G | none => .no) = _
  rw [e]
theorem out_nc {L G : List Cell} {d : D} (hn : D.noC d = true) : (Flow.rt d ⟨G, L⟩).out = .ok d G := by
  show (match D.frz L depthC d with | some d => RC.ok d G | none => .no) = _
  rw [frz_nc hn]
theorem run_ok {n f : Nat} {ds : List D} {G : List Cell} {fd : FD} {fl : Flow} (h : tb f = some fd) (hl : ds.length = fd.params) (hc : D.noCs ds = true)
    (e : exec (run tb n) fd.body (ds.map some ++ List.replicate (fd.slots - fd.params) none) ⟨G, []⟩ = fl) (hk : fd.kind = .fn := by rfl) : run tb (n + 1) f ds G = fl.out := by
  simp only [run, h, hk]
  rw [if_pos ⟨hl, hc⟩, e]
theorem take_run {n : Nat} {G : List Cell} {i : Nat} {c m : Int} (hb : Bx G i c) (hc : c < 2 ^ 40) (hm : 0 < m) (hM : m < 1073741824) :
    ∃ r G', run tb (n + 1) 1 [.ref i, .int m] G = .ok (.int r) G' ∧ 0 ≤ r ∧ r < m ∧ Bx G' i (c + 1) := by
  obtain ⟨r, G', _, e, h1, h2, h3, _, _⟩ := take_ex (run tb n) hb hc hm hM
  refine ⟨r, G', ?_, h1, h2, h3⟩
  rw [run_ok (fd := ⟨2, 6, b_1, .fn⟩) rfl rfl rfl e]
  rfl
theorem of_run {n : Nat} {G : List Cell} {i : Nat} {c : Int} {goods : List D} (hb : Bx G i c) (hc : c < 2 ^ 40) (hg : goods ≠ []) (hM : goods.length < 1000) (hn : D.noCs goods = true) :
    ∃ (j : Nat) (d : D) (G' : List Cell), goods[j]? = some d ∧ run tb (n + 2) 3 [.ref i, .lst goods] G = .ok d G' ∧ Bx G' i (c + 1) := by
  have hp : 0 < goods.length := List.length_pos_iff.mpr hg
  obtain ⟨r, G', e, h1, h2, h3⟩ := take_run (n := n) (m := (goods.length : Int)) hb hc (by omega) (by omega)
  have hr : r.toNat < goods.length := by omega
  have hget : goods[r.toNat]? = some goods[r.toNat] := List.getElem?_eq_getElem hr
  have hnd : D.noC goods[r.toNat] = true := noCs_iff.mp hn _ (List.getElem_mem hr)
  refine ⟨r.toNat, goods[r.toNat], G', hget, ?_, h3⟩
  rw [run_ok (n := n + 1) (fd := ⟨2, 2, b_3, .fn⟩) (fl := .rt goods[r.toNat] ⟨G', []⟩) rfl rfl (by simp [D.noCs, D.noC, hn])]
  · simp [Flow.out, frz_nc hnd]
  · have hcd : callD (run tb (n + 1)) 1 [.ref i, .int (goods.length : Int)] ⟨G, []⟩ = .ok (.int r) ⟨G', []⟩ := call_nc rfl e
    have hlt : r < (goods.length : Int) := h2
    simp [b_3, exec, ev, R.bind, R.fl, R.of, idxD, atD, S.seq, S.lst, bltD, one, lenD, hcd, ixAt, h1, hlt, hget]
theorem seq_nx {C : CallH} {a b : IS} {σ σ' : Sl} {s s' : S} (h : exec C a σ s = .nx σ' s') : exec C (.seq a b) σ s = exec C b σ' s' := by
  show (exec C a σ s).then (exec C b) = _
  rw [h]
  rfl
theorem seq_rt {C : CallH} {a b : IS} {σ : Sl} {s s' : S} {d : D} (h : exec C a σ s = .rt d s') : exec C (.seq a b) σ s = .rt d s' := by
  show (exec C a σ s).then (exec C b) = _
  rw [h]
  rfl
theorem for_eq {C : CallH} {k : SrcK} {a b : IE} {p : P} {st : IS} {σ : Sl} {s s' s'' : S} {x y : D} {c : Walk} (h1 : ev C a σ s = .ok x s') (h2 : ev C b σ s' = .ok y s'') (h3 : srcW k x y s'' = some c) :
    exec C (.for k a b p st) σ s = forL (fun d σ s => R.ofF (bindP p d σ s) fun σ => exec C st σ s) c.2 c.1 σ s'' := by
  show ((ev C a σ s).fl σ fun x s => (ev C b σ s).fl σ fun y s => R.ofF (srcW k x y s) fun w => forL (fun d σ s => R.ofF (bindP p d σ s) fun σ => exec C st σ s) w.2 w.1 σ s) = _
  rw [h1]
  show ((ev C b σ s').fl σ fun y s => R.ofF (srcW k x y s) fun w => forL (fun d σ s => R.ofF (bindP p d σ s) fun σ => exec C st σ s) w.2 w.1 σ s) = _
  rw [h2]
  show R.ofF (srcW k x y s'') _ = _
  rw [h3]
  rfl
end K00

namespace K00
open DI
theorem noC_ints : ∀ (ns : List Int), D.noCs (ns.map .int) = true
  | [] => rfl
  | _ :: ns => by simp [D.noCs, D.noC, noC_ints ns]
theorem data_nc {s : S} {d : D} (h : D.noC d = true) (hp : D.plain 60 d = true) : s.data d = some d := by
  unfold S.data
  rw [frz_nc h]
  simp only [hp, if_true]
theorem data2_nc {s : S} {d e : D} (h : D.noC d = true) (hp : D.plain 60 d = true) (h' : D.noC e = true) (hp' : D.plain 60 e = true) : s.data2 d e = some (d, e) := by
  unfold S.data2
  rw [data_nc h hp, data_nc h' hp']
theorem box_run {n : Nat} {G : List Cell} {cells : List Int} {k : Nat} (hk : k < cells.length) (hl : cells.length < 1000) :
    ∃ G', run tb (n + 1) 0 [.lst (cells.map .int), .int k] G = .ok (.ref G.length) G' ∧ Bx G' G.length 0 := by
  have hget : (cells.map D.int)[k]? = some (.int cells[k]) := by simp [hk]
  obtain ⟨v, hv⟩ : ∃ v, v = cells[k] := ⟨_, rfl⟩
  rw [← hv] at hget
  obtain ⟨a, ha⟩ : ∃ a, a = (if v < 0 then -v else v) := ⟨_, rfl⟩
  obtain ⟨b, hb⟩ : ∃ b, b = v % 2305843009213693951 + 39373 * (k : Int) + 91500 := ⟨_, rfl⟩
  obtain ⟨t, ht⟩ : ∃ t : Bool, t = decide ((1000000000000000000 : Int) ≤ a) := ⟨_, rfl⟩
  refine ⟨G ++ [.lst [.int (a * b2i t), .int b, .int 0]], ?_, ⟨a * b2i t, b, 0, by simp, by omega, by omega⟩⟩
  have s3 : small 39373 = true := by decide
  have s4 : small (b2i t) = true := by cases t <;> decide
  have hlt : (k : Int) < cells.length := by omega
  rw [run_ok (n := n) (fd := ⟨2, 3, b_0, .fn⟩) (fl := .rt (.ref G.length) ⟨G ++ [.lst [.int (a * b2i t), .int b, .int 0]], []⟩) rfl rfl (by simp [D.noCs, D.noC, noC_ints])]
  · exact out_nc rfl
  · have e1 : S.data2 ⟨G, []⟩ (.int (k : Int)) (.int (cells.length : Int)) = some (.int k, .int cells.length) := data2_nc rfl rfl rfl rfl
    have e2 : S.data2 ⟨G, []⟩ (.int a) (.int 1000000000000000000) = some (.int a, .int 1000000000000000000) := data2_nc rfl rfl rfl rfl
    have hat : atD (.lst (cells.map .int)) (k : Int) ⟨G, []⟩ = some (.int v) := by
      show ((some (cells.map D.int)).bind fun ds => ixAt ds (k : Int)) = _
      rw [Option.bind_some]
      unfold ixAt
      rw [if_pos (by omega), if_pos (by simpa using hlt)]
      simpa using hget
    simp [b_0, exec, ev, R.bind, R.fl, R.of, R.ofF, Flow.then, bltD, one, lenD, S.seq, S.lst, cmpD, e1, ltD, D.alike, D.isNone, D.lt, hlt, S.tr, idxD, hat, bindP, ← ha, binD, arith, e2, geD, intD, ← ht, mulD, s4, s3, addD, ← hb, mkL, fitsL, sizeL, D.noCs, D.noC]
abbrev cellG (C : CallH) : D → Sl → S → Flow := fun d σ s => R.ofF (bindP (.t [3, 4]) d σ s) fun σ => exec C (.seq (.asg (.v 5) (.bin .mod (.blt (.int) (.cons (.var 3) (.nil))) (.var 1))) (.sub (.var 2) (.var 5) (.bin .add (.idx (.var 2) (.var 5)) (.bin .mul (.var 4) (.bin .add (.var 3) (.lit (.int 2))))))) σ s
theorem forL_nx {g : D → Sl → S → Flow} {x : D} {xs : List D} {σ σ' : Sl} {s s' : S} (h : g x σ s = .nx σ' s') : forL g [] (x :: xs) σ s = forL g [] xs σ' s' := by
  simp only [forL, okW, List.all_nil, if_true, h]
theorem cells_turn' {C : CallH} {G : List Cell} {x0 : Option D} (k q v x y z : Int) (x3 x4 x5 : Option D) (sm : small (k + 2) = true) (hq : k % 3 = q) (hm : q = 0 ∨ q = 1 ∨ q = 2) :
    ∃ x1 y1 z1 a b c, cellG C (.tup [.int k, .int v]) [x0, some (.int 3), some (.loc 0), x3, x4, x5] ⟨G, [.lst [.int x, .int y, .int z]]⟩ = .nx [x0, some (.int 3), some (.loc 0), a, b, c] ⟨G, [.lst [.int x1, .int y1, .int z1]]⟩ := by
  have e1 : exec C (.asg (.v 5) (.bin .mod (.blt (.int) (.cons (.var 3) (.nil))) (.var 1))) [x0, some (.int 3), some (.loc 0), some (.int k), some (.int v), x5] ⟨G, [.lst [.int x, .int y, .int z]]⟩ =
      .nx [x0, some (.int 3), some (.loc 0), some (.int k), some (.int v), some (.int q)] ⟨G, [.lst [.int x, .int y, .int z]]⟩ := by
    rw [← hq]
    rfl
  have e2 : ∀ u : Int, binD .add (.int u) (.int (v * (k + 2))) ⟨G, [.lst [.int x, .int y, .int z]]⟩ = .ok (.int (u + v * (k + 2))) ⟨G, [.lst [.int x, .int y, .int z]]⟩ := fun u => rfl
  have e3 : mulD (.int v) (.int (k + 2)) ⟨G, [.lst [.int x, .int y, .int z]]⟩ = .ok (.int (v * (k + 2))) ⟨G, [.lst [.int x, .int y, .int z]]⟩ := by
    show (if (small v || small (k + 2)) = true then _ else _) = _
    rw [sm, Bool.or_true, if_pos rfl]
  have e4 : ∀ σ, σ = [x0, some (.int 3), some (.loc 0), some (.int k), some (.int v), some (.int q)] → ∀ u, idxD (.loc 0) (.int q) ⟨G, [.lst [.int x, .int y, .int z]]⟩ = some (.int u) →
      ev C (.bin .add (.idx (.var 2) (.var 5)) (.bin .mul (.var 4) (.bin .add (.var 3) (.lit (.int 2))))) σ ⟨G, [.lst [.int x, .int y, .int z]]⟩ = .ok (.int (u + v * (k + 2))) ⟨G, [.lst [.int x, .int y, .int z]]⟩ := fun σ hσ u hu => by
    subst hσ
    show (R.of (idxD (.loc 0) (.int q) ⟨G, [.lst [.int x, .int y, .int z]]⟩) ⟨G, [.lst [.int x, .int y, .int z]]⟩).bind _ = _
    rw [hu]
    show (mulD (.int v) (.int (k + 2)) ⟨G, [.lst [.int x, .int y, .int z]]⟩).bind _ = _
    rw [e3]
    rfl
  have fin : ∀ u s', idxD (.loc 0) (.int q) ⟨G, [.lst [.int x, .int y, .int z]]⟩ = some (.int u) → setI (.loc 0) (.int q) (.int (u + v * (k + 2))) ⟨G, [.lst [.int x, .int y, .int z]]⟩ = some s' →
      cellG C (.tup [.int k, .int v]) [x0, some (.int 3), some (.loc 0), x3, x4, x5] ⟨G, [.lst [.int x, .int y, .int z]]⟩ = .nx [x0, some (.int 3), some (.loc 0), some (.int k), some (.int v), some (.int q)] s' := fun u s' hu hs => by
    refine (seq_nx e1).trans ?_
    show (ev C _ _ _).fl _ _ = _
    rw [e4 _ rfl u hu]
    show R.ofF (setI (.loc 0) (.int q) (.int (u + v * (k + 2))) ⟨G, [.lst [.int x, .int y, .int z]]⟩) _ = _
    rw [hs]
    rfl
  rcases hm with rfl | rfl | rfl
  · exact ⟨x + v * (k + 2), y, z, _, _, _, fin x _ rfl rfl⟩
  · exact ⟨x, y + v * (k + 2), z, _, _, _, fin y _ rfl rfl⟩
  · exact ⟨x, y, z + v * (k + 2), _, _, _, fin z _ rfl rfl⟩
theorem cells_turn {C : CallH} {G : List Cell} {x0 : Option D} (k : Nat) (v x y z : Int) (x3 x4 x5 : Option D) (hk : k < 1000) :
    ∃ x1 y1 z1 a b c, cellG C (.tup [.int k, .int v]) [x0, some (.int 3), some (.loc 0), x3, x4, x5] ⟨G, [.lst [.int x, .int y, .int z]]⟩ = .nx [x0, some (.int 3), some (.loc 0), a, b, c] ⟨G, [.lst [.int x1, .int y1, .int z1]]⟩ :=
  cells_turn' k (k % 3) v x y z x3 x4 x5 (small_of (by omega) (by omega)) rfl (by omega)
theorem cells_loop {C : CallH} {G : List Cell} {x0 : Option D} (vs : List Int) : ∀ (k : Nat) (x y z : Int) (x3 x4 x5 : Option D), k + vs.length < 1000 →
    ∃ x' y' z' x3' x4' x5', forL (cellG C) [] (enumFrom k (vs.map .int)) [x0, some (.int 3), some (.loc 0), x3, x4, x5] ⟨G, [.lst [.int x, .int y, .int z]]⟩ = .nx [x0, some (.int 3), some (.loc 0), x3', x4', x5'] ⟨G, [.lst [.int x', .int y', .int z']]⟩ := by
  induction vs with
  | nil => exact fun k x y z x3 x4 x5 _ => ⟨x, y, z, x3, x4, x5, by simp [enumFrom, forL, okW]⟩
  | cons v vs ih =>
    intro k x y z x3 x4 x5 hk
    simp only [List.length_cons] at hk
    obtain ⟨x1, y1, z1, a, b, c, e1⟩ := cells_turn (C := C) (G := G) (x0 := x0) k v x y z x3 x4 x5 (by omega)
    obtain ⟨x', y', z', x3', x4', x5', e2⟩ := ih (k + 1) x1 y1 z1 a b c (by omega)
    refine ⟨x', y', z', x3', x4', x5', ?_⟩
    rw [← e2]
    exact forL_nx e1
theorem cells_run {n : Nat} {G : List Cell} {ns : List Int} (h : ns.length ≤ 63) : ∃ cells : List Int, run tb (n + 1) 2 [scriptD ns, .int 3] G = .ok (.lst (cells.map .int)) G ∧ cells.length < 10 := by
  have key : ∃ (cells : List Int) (a : Nat) (L : List Cell), exec (run tb n) b_2 [some (scriptD ns), some (.int 3), none, none, none, none] ⟨G, []⟩ = .rt (.loc a) ⟨G, L⟩ ∧ L[a]? = some (.lst (cells.map .int)) ∧ cells.length < 10 := by
    match ns, h with
    | [], _ =>
      refine ⟨[0], 1, [.lst [], .lst [.int 0]], ?_, rfl, by decide⟩
      kernel_rfl
    | [a], _ =>
      refine ⟨[a], 0, [.lst [.int a]], ?_, rfl, by simp⟩
      kernel_rfl
    | [a, b], _ =>
      refine ⟨[a, b], 0, [.lst [.int a, .int b]], ?_, rfl, by simp⟩
      kernel_rfl
    | a :: b :: c :: rest, h =>
      obtain ⟨vs, hvs, hl⟩ : ∃ vs : List Int, cutL ((a :: b :: c :: rest).map D.int) (some 3) (some 63) = vs.map .int ∧ vs.length < 900 := by
        refine ⟨cutL (a :: b :: c :: rest) (some 3) (some 63), by simp [cutL, slAt, List.map_take, List.map_drop], ?_⟩
        simp only [cutL, List.length_take, List.length_drop]
        simp at h ⊢
        omega
      have h3 : cutL ((a :: b :: c :: rest).map D.int) none (some 3) = [.int a, .int b, .int c] := by
        simp [cutL, slAt]
      obtain ⟨x', y', z', x3', x4', x5', e⟩ := cells_loop (C := run tb n) (G := G) (x0 := some (scriptD (a :: b :: c :: rest))) vs 0 a b c none none none (by omega)
      refine ⟨[x', y', z'], 0, [.lst [.int x', .int y', .int z']], ?_, rfl, by simp⟩
      refine (seq_nx (σ' := [some (scriptD (a :: b :: c :: rest)), some (.int 3), some (.loc 0), none, none, none]) (s' := ⟨G, [.lst [.int a, .int b, .int c]]⟩) ?_).trans ?_
      · simp only [exec, ev, R.bind, R.fl, R.of, scriptD, bltD, one, List.getElem?_cons_zero, List.getElem?_cons_succ, optI, if_true, cutD, S.lst, Option.map_some, h3, S.seq, mkL, S.tr, Bool.false_eq_true, if_false]
        rfl
      · refine (seq_nx ((for_eq (x := .lst (vs.map .int)) (y := .tup []) (c := (enumFrom 0 (vs.map .int), [])) (s' := ⟨G, [.lst [.int a, .int b, .int c]]⟩) (s'' := ⟨G, [.lst [.int a, .int b, .int c]]⟩) ?_ rfl rfl).trans e)).trans ?_
        · simp only [ev, R.bind, R.of, scriptD, List.getElem?_cons_zero, List.getElem?_cons_succ, optI, if_true, cutD, S.lst, Option.map_some, hvs]
        · rfl
  obtain ⟨cells, a, L, e, hL, hl⟩ := key
  refine ⟨cells, ?_, hl⟩
  rw [run_ok (n := n) (ds := [scriptD ns, .int 3]) (fd := ⟨2, 6, b_2, .fn⟩) rfl rfl (by simp [D.noCs, D.noC, scriptD, noC_ints]) e]
  exact out_loc hL (noC_ints _)
/-- a comprehension whose elements draw -/
theorem lcL_draw {g : D → S → R (Option D)} {I : Int → S → Prop} {Pr : D → Prop} {k B : Int} (hk : 0 ≤ k) : ∀ (xs : List D) (acc : List D) (c : Int) (s : S),
    (∀ x ∈ xs, ∀ c s, c ≤ B → I c s → ∃ d s', g x s = .ok (some d) s' ∧ Pr d ∧ I (c + k) s') → c + k * xs.length ≤ B → I c s → acc.length + xs.length ≤ 1000 →
    ∃ ys s', lcL g [] xs acc s = .ok (acc ++ ys) s' ∧ ys.length = xs.length ∧ (∀ y ∈ ys, Pr y) ∧ I (c + k * xs.length) s'
  | [], acc, c, s, _, _, hI, _ => ⟨[], s, by simp [lcL, okW], rfl, fun _ h => by simp at h, by simpa using hI⟩
  | x :: xs, acc, c, s, h, hB, hI, hz => by
    have e : k * ((x :: xs).length : Int) = k + k * (xs.length : Int) := by rw [List.length_cons, Int.natCast_succ, Int.mul_add, Int.mul_one, Int.add_comm]
    have nn : 0 ≤ k * (xs.length : Int) := Int.mul_nonneg hk (by omega)
    obtain ⟨d, s1, h1, h2, h3⟩ := h x List.mem_cons_self c s (by omega) hI
    simp only [List.length_cons] at hz
    obtain ⟨ys, s2, e2, l2, p2, i2⟩ := lcL_draw hk xs (acc ++ [d]) (c + k) s1 (fun y hy => h y (List.mem_cons_of_mem _ hy)) (by omega) h3 (by simp; omega)
    refine ⟨d :: ys, s2, ?_, by simp [l2], fun y hy => ?_, ?_⟩
    · have hlt : acc.length < sizeL := by unfold sizeL; omega
      simp only [lcL, okW, List.all_nil, if_true, h1, R.calm, R.bind, hlt, e2]
      simp
    · rcases List.mem_cons.mp hy with z | z
      · rw [z]; exact h2
      · exact p2 y z
    · rw [e, ← Int.add_assoc]; exact i2
theorem lcL_map {g : D → S → R (Option D)} {f : D → D} {s : S} (xs : List D) (h : ∀ x ∈ xs, g x s = .ok (some (f x)) s) : ∀ (acc : List D), acc.length + xs.length ≤ 1000 → lcL g [] xs acc s = .ok (acc ++ xs.map f) s := by
  induction xs with
  | nil => intro acc _; simp [lcL, okW]
  | cons x xs ih =>
    intro acc hz
    simp only [List.length_cons] at hz
    have hlt : acc.length < sizeL := by unfold sizeL; omega
    have e := ih (fun y hy => h y (List.mem_cons_of_mem _ hy)) (acc ++ [f x]) (by simp; omega)
    simp only [lcL, okW, List.all_nil, if_true, h x List.mem_cons_self, R.calm, R.bind, hlt, e]
    simp
end K00

namespace K00
open DI
theorem ife_t {C : CallH} {c : IE} {a b : IS} {σ : Sl} {s s' : S} (h : evT C c σ s = .ok true s') : exec C (.ife c a b) σ s = exec C a σ s' := by
  show (evT C c σ s).fl σ _ = _
  rw [h]
  rfl
theorem ife_f {C : CallH} {c : IE} {a b : IS} {σ : Sl} {s s' : S} (h : evT C c σ s = .ok false s') : exec C (.ife c a b) σ s = exec C b σ s' := by
  show (evT C c σ s).fl σ _ = _
  rw [h]
  rfl
theorem evT_bl {C : CallH} {c : IE} {b : Bool} {σ : Sl} {s s' : S} (h : ev C c σ s = .ok (.bl b) s') : evT C c σ s = .ok b s' := by
  unfold evT
  rw [h]
  rfl
theorem ret_eq {C : CallH} {e : IE} {σ : Sl} {s s' : S} {d : D} (h : ev C e σ s = .ok d s') : exec C (.ret e) σ s = .rt d s' := by
  show (ev C e σ s).fl σ _ = _
  rw [h]
  rfl
theorem bind_eq {α β : Type} {r : R α} {f : α → S → R β} {a : α} {s : S} (h : r = .ok a s) : r.bind f = f a s := by rw [h]; rfl
theorem cmp_ev {C : CallH} {o : COp} {a b : IE} {σ : Sl} {s s1 s2 : S} {x y : D} {t : Bool} (h1 : ev C a σ s = .ok x s1) (h2 : ev C b σ s1 = .ok y s2) (h3 : cmpD o x y s2 = some t) : ev C (.cmp o a b) σ s = .ok (.bl t) s2 := by
  simp only [ev, h1, R.bind, h2, h3, Option.map_some, R.of]
theorem and_t {C : CallH} {a b : IE} {σ : Sl} {s s1 : S} (h1 : ev C a σ s = .ok (.bl true) s1) : ev C (.and a b) σ s = ev C b σ s1 := by
  simp only [ev, h1, R.bind, S.tr]
theorem eq_self {s : S} {d : D} (h : D.noC d = true) (hp : D.plain 60 d = true) (he : D.eqv d d = true) : cmpD .eq d d s = some true := by
  simp only [cmpD, data2_nc h hp h hp, Option.map_some, he]
/-! ### _law_same of equal data -/
inductive Dt : Nat → D → Prop where
  | int (n : Nat) (i : Int) : Dt n (.int i)
  | str (n : Nat) (z : List Nat) (h : D.plain 60 (.str z) = true) : Dt n (.str z)
  | bl (n : Nat) (b : Bool) : Dt n (.bl b)
  | tup (n : Nat) (ds : List D) (h : ∀ d ∈ ds, Dt n d) (hl : ds.length < 900) (hc : D.noCs ds = true) : Dt (n + 1) (.tup ds)
  | lst (n : Nat) (ds : List D) (h : ∀ d ∈ ds, Dt n d) (hl : ds.length < 900) (hc : D.noCs ds = true) : Dt (n + 1) (.lst ds)
theorem lst_eq_refl : ∀ z : List Nat, D.eqv (.str z) (.str z) = true := fun z => by simp [D.eqv]
abbrev sameG (C : CallH) (σ : Sl) : D → S → R (Option D) := fun d s => match bindP (.t [2, 3]) d (wipeI σ [2, 3]) s with
  | some σ' => (ev C (.lit (.bl true)) σ' s).bind fun t s => match s.tr t with
    | some true => (ev C (.call 4 (.cons (.var 2) (.cons (.var 3) (.nil)))) σ' s).bind fun d s => .ok (some d) s
    | some false => .ok none s
    | none => .no
  | none => .no
theorem zip_self {α : Type} : ∀ l : List α, l.zip l = l.map fun x => (x, x)
  | [] => rfl
  | x :: l => by rw [List.zip_cons_cons, List.map_cons, zip_self l]
theorem bls_true : ∀ n : Nat, blsOf (List.replicate n (.bl true)) = some (List.replicate n true)
  | 0 => rfl
  | n + 1 => by rw [List.replicate_succ, List.replicate_succ, blsOf, bls_true n]; rfl
theorem all_true (n : Nat) : (List.replicate n true).all id = true := by simp
theorem same_elems {n m : Nat} {G : List Cell} {ds : List D} {σ : Sl} {x0 x1 : Option D} (h : ∀ d ∈ ds, Dt n d ∧ D.noC d = true) (hl : ds.length < 900)
    (ih : ∀ d, Dt n d → D.noC d = true → run tb m 4 [d, d] G = .ok (.bl true) G) :
    lcL (sameG (run tb m) [x0, x1, none, none]) [] ((ds.zip ds).map fun p => .tup [p.1, p.2]) [] ⟨G, []⟩ = .ok (List.replicate ds.length (.bl true)) ⟨G, []⟩ := by
  have e := lcL_map (g := sameG (run tb m) [x0, x1, none, none]) (f := fun _ => .bl true) (s := ⟨G, []⟩) ((ds.zip ds).map fun p => D.tup [p.1, p.2]) (fun x hx => by
    obtain ⟨p, hp, rfl⟩ := List.mem_map.mp hx
    rw [zip_self] at hp
    obtain ⟨d, hd, rfl⟩ := List.mem_map.mp hp
    obtain ⟨h1, h2⟩ := h d hd
    have hc : callD (run tb m) 4 [d, d] ⟨G, []⟩ = .ok (.bl true) ⟨G, []⟩ := call_nc (by simp [D.noCs, h2]) (ih d h1 h2)
    show (callD (run tb m) 4 [d, d] ⟨G, []⟩).bind _ = _
    rw [hc]
    rfl) [] (by simp; omega)
  rw [e]
  have z : ∀ l : List D, (l.map fun _ => D.bl true) = List.replicate l.length (.bl true) := fun l => List.map_const' ..
  rw [z, List.nil_append, List.length_map, zip_self, List.length_map]
theorem same_seq {n m : Nat} {G : List Cell} {ds : List D} {v : D} (hv : v = .tup ds ∨ v = .lst ds) (h : ∀ d ∈ ds, Dt n d ∧ D.noC d = true) (hl : ds.length < 900)
    (ih : ∀ d, Dt n d → D.noC d = true → run tb m 4 [d, d] G = .ok (.bl true) G) : exec (run tb m) b_4 [some v, some v, none, none] ⟨G, []⟩ = .rt (.bl true) ⟨G, []⟩ := by
  have e := same_elems (x0 := some v) (x1 := some v) (σ := []) h hl ih
  have hle : S.data2 ⟨G, []⟩ (.int (ds.length : Int)) (.int (ds.length : Int)) = some (.int ds.length, .int ds.length) := data2_nc rfl rfl rfl rfl
  have fin : (bltD .all [.lst (List.replicate ds.length (.bl true))] ⟨G, []⟩) = .ok (.bl true) ⟨G, []⟩ := by
    show R.of ((some (List.replicate ds.length (D.bl true))).bind fun ds => (blsOf ds).map fun bs => D.bl (bs.all id)) _ = _
    rw [Option.bind_some, bls_true, Option.map_some, all_true]
    rfl
  have ret : ∀ k : SrcK, k = .zip → srcW k v v ⟨G, []⟩ = some ((ds.zip ds).map fun p => D.tup [p.1, p.2], []) := fun k hk => by
    subst hk
    rcases hv with rfl | rfl <;> rfl
  have len : lenD v ⟨G, []⟩ = .ok (.int ds.length) ⟨G, []⟩ := by rcases hv with rfl | rfl <;> rfl
  have inner : ev (run tb m) (.lc .fz [2, 3] .zip (.var 0) (.var 1) (.t [2, 3]) (.lit (.bl true)) (.call 4 (.cons (.var 2) (.cons (.var 3) (.nil))))) [some v, some v, none, none] ⟨G, []⟩ = .ok (.lst (List.replicate ds.length (.bl true))) ⟨G, []⟩ := by
    show (R.of (srcW .zip v v ⟨G, []⟩) ⟨G, []⟩).bind _ = _
    rw [ret _ rfl]
    show (lcL (sameG (run tb m) [some v, some v, none, none]) [] ((ds.zip ds).map fun p => D.tup [p.1, p.2]) [] ⟨G, []⟩).bind _ = _
    rw [e]
    rfl
  have cmp : cmpD .eq (.int (ds.length : Int)) (.int (ds.length : Int)) ⟨G, []⟩ = some true := eq_self rfl rfl (by simp [D.eqv])
  have last : exec (run tb m) (.ret (.and (.cmp .eq (.blt (.len) (.cons (.var 0) (.nil))) (.blt (.len) (.cons (.var 1) (.nil)))) (.blt (.all) (.cons (.lc .fz [2, 3] .zip (.var 0) (.var 1) (.t [2, 3]) (.lit (.bl true)) (.call 4 (.cons (.var 2) (.cons (.var 3) (.nil))))) (.nil))))) [some v, some v, none, none] ⟨G, []⟩ = .rt (.bl true) ⟨G, []⟩ := by
    have z1 : ∀ i, i < 2 → ev (run tb m) (.blt (.len) (.cons (.var i) (.nil))) [some v, some v, none, none] ⟨G, []⟩ = .ok (.int ds.length) ⟨G, []⟩ := fun i hi => by
      match i, hi with
      | 0, _ => show lenD v ⟨G, []⟩ = _; exact len
      | 1, _ => show lenD v ⟨G, []⟩ = _; exact len
    have z3 : ev (run tb m) (.blt (.all) (.cons (.lc .fz [2, 3] .zip (.var 0) (.var 1) (.t [2, 3]) (.lit (.bl true)) (.call 4 (.cons (.var 2) (.cons (.var 3) (.nil))))) (.nil))) [some v, some v, none, none] ⟨G, []⟩ = .ok (.bl true) ⟨G, []⟩ := by
      show ((ev (run tb m) (.lc .fz [2, 3] .zip (.var 0) (.var 1) (.t [2, 3]) (.lit (.bl true)) (.call 4 (.cons (.var 2) (.cons (.var 3) (.nil))))) _ _).bind _).bind _ = _
      rw [inner]
      exact fin
    exact ret_eq ((and_t (cmp_ev (z1 0 (by decide)) (z1 1 (by decide)) cmp)).trans z3)
  have two : ∀ a b : Bool, a = b → cmpD .ne (.bl a) (.bl b) ⟨G, []⟩ = some false := fun a b e => by
    subst e
    simp only [cmpD, data2_nc (s := ⟨G, []⟩) (d := .bl a) (e := .bl a) rfl rfl rfl rfl, Option.map_some]
    cases a <;> rfl
  have st : ∀ tg : Tag, exec (run tb m) (.ife (.cmp .ne (.blt (.isi [tg]) (.cons (.var 0) .nil)) (.blt (.isi [tg]) (.cons (.var 1) .nil))) (.ret (.lit (.bl false))) (.skip)) [some v, some v, none, none] ⟨G, []⟩ = .nx [some v, some v, none, none] ⟨G, []⟩ := fun tg => by
    have hi : ∀ i, i < 2 → ev (run tb m) (.blt (.isi [tg]) (.cons (.var i) .nil)) [some v, some v, none, none] ⟨G, []⟩ = .ok (.bl ([tg].any fun t => t.has v)) ⟨G, []⟩ := fun i hi => by
      match i, hi with
      | 0, _ => rcases hv with rfl | rfl <;> rfl
      | 1, _ => rcases hv with rfl | rfl <;> rfl
    refine (ife_f (evT_bl (cmp_ev (hi 0 (by decide)) (hi 1 (by decide)) (two _ _ rfl)))).trans ?_
    rfl
  refine seq_rt ((ife_t (evT_bl (b := true) ?_)).trans ((seq_nx (st .list)).trans ((seq_nx (st .tuple)).trans last)))
  rcases hv with rfl | rfl <;> rfl
theorem same_atom {m : Nat} {G : List Cell} {d : D} (h : (∃ i, d = .int i) ∨ (∃ b, d = .bl b) ∨ ∃ z, d = .str z ∧ D.plain 60 (.str z) = true) : exec (run tb m) b_4 [some d, some d, none, none] ⟨G, []⟩ = .rt (.bl true) ⟨G, []⟩ := by
  have heq : ∀ {e : D}, D.noC e = true → D.plain 60 e = true → D.eqv e e = true → ev (run tb m) (.cmp .eq (.var 0) (.var 1)) [some e, some e, none, none] ⟨G, []⟩ = .ok (.bl true) ⟨G, []⟩ := fun h1 h2 h3 => cmp_ev rfl rfl (eq_self h1 h2 h3)
  have bb : ∀ b : Bool, cmpD .eq (.bl b) (.bl b) ⟨G, []⟩ = some true := fun b => eq_self rfl rfl (by cases b <;> rfl)
  rcases h with ⟨i, rfl⟩ | ⟨b, rfl⟩ | ⟨z, rfl, hz⟩
  · refine (seq_nx ((ife_f (evT_bl (b := false) rfl)).trans rfl)).trans ((seq_nx ((ife_f (evT_bl (b := false) rfl)).trans rfl)).trans (ret_eq ?_))
    exact (and_t rfl).trans ((and_t rfl).trans (heq rfl rfl (by simp [D.eqv])))
  · refine (seq_nx ((ife_f (evT_bl (b := false) rfl)).trans rfl)).trans (seq_rt ((ife_t (evT_bl (b := true) rfl)).trans (ret_eq ?_)))
    exact (and_t (heq rfl rfl (by simp [D.eqv]))).trans ((and_t (cmp_ev rfl rfl (bb true))).trans (cmp_ev (x := .bl false) (y := .bl false) rfl rfl (bb false)))
  · refine (seq_nx ((ife_f (evT_bl (b := false) rfl)).trans rfl)).trans (seq_rt ((ife_t (evT_bl (b := true) rfl)).trans (ret_eq ?_)))
    exact (and_t (heq rfl hz (by simp [D.eqv]))).trans ((and_t (cmp_ev rfl rfl (bb false))).trans (cmp_ev (x := .bl false) (y := .bl false) rfl rfl (bb false)))
theorem same_go {m : Nat} {G : List Cell} {d : D} (hc : D.noC d = true) (e : exec (run tb m) b_4 [some d, some d, none, none] ⟨G, []⟩ = .rt (.bl true) ⟨G, []⟩) : run tb (m + 1) 4 [d, d] G = .ok (.bl true) G := by
  rw [run_ok (n := m) (ds := [d, d]) (fd := ⟨2, 4, b_4, .fn⟩) rfl rfl (by simp [D.noCs, hc]) e]
  rfl
theorem same_run {G : List Cell} : ∀ (n m : Nat) (d : D), n < m → Dt n d → D.noC d = true → run tb m 4 [d, d] G = .ok (.bl true) G := by
  intro n
  induction n with
  | zero =>
    intro m d hm hd hc
    obtain ⟨m, rfl⟩ : ∃ k, m = k + 1 := ⟨m - 1, by omega⟩
    refine same_go hc (same_atom ?_)
    cases hd with
    | int _ i => exact .inl ⟨i, rfl⟩
    | bl _ b => exact .inr (.inl ⟨b, rfl⟩)
    | str _ z h => exact .inr (.inr ⟨z, rfl, h⟩)
  | succ n ih =>
    intro m d hm hd hc
    obtain ⟨m, rfl⟩ : ∃ k, m = k + 1 := ⟨m - 1, by omega⟩
    refine same_go hc ?_
    cases hd with
    | int _ i => exact same_atom (.inl ⟨i, rfl⟩)
    | bl _ b => exact same_atom (.inr (.inl ⟨b, rfl⟩))
    | str _ z h => exact same_atom (.inr (.inr ⟨z, rfl, h⟩))
    | tup _ ds h hl hcs => exact same_seq (n := n) (.inl rfl) (fun d hd => ⟨h d hd, noCs_iff.mp hcs d hd⟩) hl fun d h1 h2 => ih m d (by omega) h1 h2
    | lst _ ds h hl hcs => exact same_seq (n := n) (.inr rfl) (fun d hd => ⟨h d hd, noCs_iff.mp hcs d hd⟩) hl fun d h1 h2 => ih m d (by omega) h1 h2
end K00

namespace K00
open DI
theorem cons_ev {C : CallH} {a r : IE} {σ : Sl} {s s1 s2 : S} {x : D} {ds : List D} (h1 : ev C a σ s = .ok x s1) (h2 : ev C r σ s1 = .ok (.tup ds) s2) : ev C (.cons a r) σ s = .ok (.tup (x :: ds)) s2 := by simp only [ev, h1, R.bind, h2]
theorem lst_ev {C : CallH} {es : IE} {σ : Sl} {s s1 : S} {ds : List D} (h : ev C es σ s = .ok (.tup ds) s1) (hl : fitsL ds = true) : ev C (.lst .fz es) σ s = .ok (.lst ds) s1 := by simp only [ev, h, R.bind, hl, if_true, mkL]
theorem call_ev {C : CallH} {f : Nat} {es : IE} {σ : Sl} {s s1 s2 : S} {ds : List D} {d : D} (h : ev C es σ s = .ok (.tup ds) s1) (h2 : callD C f ds s1 = .ok d s2) : ev C (.call f es) σ s = .ok d s2 := by simp only [ev, h, R.bind, h2]
theorem add_ev {C : CallH} {a b : IE} {σ : Sl} {s s1 s2 : S} {xs ys : List D} (h1 : ev C a σ s = .ok (.lst xs) s1) (h2 : ev C b σ s1 = .ok (.lst ys) s2) (hl : xs.length + ys.length ≤ 1000) : ev C (.bin .add a b) σ s = .ok (.lst (xs ++ ys)) s2 := by
  have : xs.length + ys.length ≤ sizeL := by unfold sizeL; omega
  simp only [ev, h1, R.bind, h2, binD, addD, catD, S.lst', S.lst, this, if_true]
theorem adds_ev {C : CallH} {a b : IE} {σ : Sl} {s s1 s2 : S} {xs ys : List Nat} (h1 : ev C a σ s = .ok (.str xs) s1) (h2 : ev C b σ s1 = .ok (.str ys) s2) (hl : xs.length + ys.length ≤ 1000) : ev C (.bin .add a b) σ s = .ok (.str (xs ++ ys)) s2 := by
  have : xs.length + ys.length ≤ sizeL := by unfold sizeL; omega
  simp only [ev, h1, R.bind, h2, binD, addD, this, if_true]
theorem idx_ev {C : CallH} {a b : IE} {σ : Sl} {s s1 s2 : S} {x d : D} {i : Int} (h1 : ev C a σ s = .ok x s1) (h2 : ev C b σ s1 = .ok (.int i) s2) (h3 : atD x i s2 = some d) : ev C (.idx a b) σ s = .ok d s2 := by
  simp only [ev, h1, R.bind, h2, idxD, h3, R.of]
theorem sub_nx {C : CallH} {a i e : IE} {σ : Sl} {s s1 s2 s3 s4 : S} {d x y : D} (h1 : ev C e σ s = .ok d s1) (h2 : ev C a σ s1 = .ok x s2) (h3 : ev C i σ s2 = .ok y s3) (h4 : setI x y d s3 = some s4) : exec C (.sub a i e) σ s = .nx σ s4 := by
  simp only [exec, h1, R.fl, h2, h3, h4, R.ofF]
/-- a comprehension that draws, over known items -/
theorem lc_draw {C : CallH} {own : List Nat} {k : SrcK} {a b e : IE} {i : Nat} {σ : Sl} {s s' s'' : S} {v u : D} {ds : List D} {I : Int → S → Prop} {Pr : D → Prop} {dk B c : Int} (hk : 0 ≤ dk) (ha : ev C a σ s = .ok v s') (hb : ev C b σ s' = .ok u s'') (hv : srcW k v u s'' = some (ds, [])) (hl : ds.length ≤ 1000)
    (he : ∀ d ∈ ds, ∀ c s, c ≤ B → I c s → ∃ y s', ev C e ((wipeI σ own).set i (some d)) s = .ok y s' ∧ Pr y ∧ I (c + dk) s') (hB : c + dk * ds.length ≤ B) (hI : I c s'') :
    ∃ ys s3, ev C (.lc .fz own k a b (.v i) (.lit (.bl true)) e) σ s = .ok (.lst ys) s3 ∧ ys.length = ds.length ∧ (∀ y ∈ ys, Pr y) ∧ I (c + dk * ds.length) s3 := by
  obtain ⟨ys, s3, e1, l1, p1, i1⟩ := lcL_draw (g := fun d s => match bindP (.v i) d (wipeI σ own) s with
        | some σ' => (ev C (.lit (.bl true)) σ' s).bind fun t s => match s.tr t with
          | some true => (ev C e σ' s).bind fun d s => .ok (some d) s
          | some false => .ok none s
          | none => .no
        | none => .no) (Pr := Pr) (I := I) (B := B) hk ds [] c s'' (fun d hd c s hc hI => by
      obtain ⟨y, s', h1, h2, h3⟩ := he d hd c s hc hI
      refine ⟨y, s', ?_, h2, h3⟩
      show (ev C e ((wipeI σ own).set i (some d)) s).bind _ = _
      rw [h1]
      rfl) hB hI (by simpa using hl)
  refine ⟨ys, s3, ?_, l1, p1, i1⟩
  show ((ev C a σ s).bind _).bind _ = _
  rw [ha]
  show ((ev C b σ s').bind _).bind _ = _
  rw [hb]
  show (R.of (srcW k v u s'') s'').bind _ = _
  rw [hv]
  exact bind_eq (f := fun ds s => mkL .fz ds s) e1
abbrev IB (i : Nat) : Int → S → Prop := fun c s => s.L = [] ∧ Bx s.G i c
theorem asg_nx {C : CallH} {i : Nat} {e : IE} {σ : Sl} {s s' : S} {d : D} (h : ev C e σ s = .ok d s') : exec C (.asg (.v i) e) σ s = .nx (σ.set i (some d)) s' := by
  show (ev C e σ s).fl σ _ = _
  rw [h]
  rfl
/-! ### the last statement of a block -/
def initS : IS → IS
  | .seq a (.seq b c) => .seq a (initS (.seq b c))
  | .seq a _ => a
  | _ => .skip
def lastS : IS → IS
  | .seq _ (.seq b c) => lastS (.seq b c)
  | .seq _ b => b
  | x => x
theorem then_nx {σ : Sl} {s : S} {f : Sl → S → Flow} : (Flow.nx σ s).then f = f σ s := rfl
theorem then_assoc {r : Flow} {f g : Sl → S → Flow} : (r.then f).then g = r.then fun σ s => (f σ s).then g := by cases r <;> rfl
theorem split_last {C : CallH} : ∀ (x : IS) (σ : Sl) (s : S), exec C x σ s = (exec C (initS x) σ s).then (exec C (lastS x))
  | .seq a (.seq b c), σ, s => by
    show (exec C a σ s).then (exec C (.seq b c)) = ((exec C a σ s).then (exec C (initS (.seq b c)))).then _
    rw [then_assoc]
    congr 1
    funext σ s
    exact split_last (.seq b c) σ s
  | .seq a .skip, σ, s => rfl
  | .seq a (.expr _), σ, s => rfl
  | .seq a (.asg _ _), σ, s => rfl
  | .seq a (.aug _ _ _), σ, s => rfl
  | .seq a (.par _ _ _), σ, s => rfl
  | .seq a (.sub _ _ _), σ, s => rfl
  | .seq a (.ife _ _ _), σ, s => rfl
  | .seq a (.wh _ _), σ, s => rfl
  | .seq a (.for _ _ _ _ _), σ, s => rfl
  | .seq a (.ret _), σ, s => rfl
  | .seq a .retN, σ, s => rfl
  | .seq a .brk, σ, s => rfl
  | .seq a .cont, σ, s => rfl
  | .seq a (.raise _), σ, s => rfl
  | .seq a (.tryx _ _ _ _ _), σ, s => rfl
  | .skip, σ, s => rfl
  | .expr _, σ, s => rfl
  | .asg _ _, σ, s => rfl
  | .aug _ _ _, σ, s => rfl
  | .par _ _ _, σ, s => rfl
  | .sub _ _ _, σ, s => rfl
  | .ife _ _ _, σ, s => rfl
  | .wh _ _, σ, s => rfl
  | .for _ _ _ _ _, σ, s => rfl
  | .ret _, σ, s => rfl
  | .retN, σ, s => rfl
  | .brk, σ, s => rfl
  | .cont, σ, s => rfl
  | .raise _, σ, s => rfl
  | .tryx _ _ _ _ _, σ, s => rfl
def tlS : IS → IS
  | .seq _ b => b
  | x => x
def nxS : Flow → Sl
  | .nx σ _ => σ
  | _ => []
def argS : IS → IE
  | .ret (.call _ es) => es
  | _ => .nil
/-! ### the errors -/
abbrev TG : List (List Nat) := [[97], [97, 110, 116, 115], [97, 98, 99, 100, 101, 102, 103, 104], [122, 122]]
abbrev rest : IS := tlS b_6
def wAll (f : Int) (t : List Nat) : List D := [.int f, .int f, .int f, .str t, .int f, .str t, .str t, .str t, .str t, .int f, .int f, .int f, .int 7, .int (-1), .str [98], .int 3, .str t, .str t, .str t, .str t, .int 1000000000000000000000000000000, .str t]
abbrev sig (i : Nat) (f : Int) (t : List Nat) : Sl := [some (.ref i), none, none, none, some (.int f), some (.str t), none, none, none]
theorem every_ok (i : Nat) (f : Int) (t : Fin 4) (G : List Cell) : exec (run tb 22) (initS rest) (sig i f (TG[t])) ⟨G, []⟩ = .nx (nxS (exec (run tb 22) (initS rest) (sig i f (TG[t])) ⟨G, []⟩)) ⟨G, []⟩ ∧
    ev (run tb 22) (argS (lastS rest)) (nxS (exec (run tb 22) (initS rest) (sig i f (TG[t])) ⟨G, []⟩)) ⟨G, []⟩ = .ok (.tup [.lst (wAll f (TG[t])), .lst (wAll f (TG[t]))]) ⟨G, []⟩ := by
  match t with
  | ⟨0, _⟩ => constructor <;> kernel_rfl
  | ⟨1, _⟩ => constructor <;> kernel_rfl
  | ⟨2, _⟩ => constructor <;> kernel_rfl
  | ⟨3, _⟩ => constructor <;> kernel_rfl
end K00

namespace K00
open DI
theorem bin_ev {C : CallH} {o : BOp} {a b : IE} {σ : Sl} {s s1 s2 s3 : S} {x y z : D} (h1 : ev C a σ s = .ok x s1) (h2 : ev C b σ s1 = .ok y s2) (h3 : binD o x y s2 = .ok z s3) : ev C (.bin o a b) σ s = .ok z s3 := by simp only [ev, h1, R.bind, h2, h3]
theorem last_is : lastS rest = .ret (.call 4 (argS (lastS rest))) := by kernel_rfl
theorem noC_wAll {f : Int} {t : List Nat} : D.noCs (wAll f t) = true := rfl
theorem dt_wAll {f : Int} {t : Fin 4} : Dt 2 (.lst (wAll f (TG[t]))) := by
  have ht : D.plain 60 (.str (TG[t])) = true := by
    match t with
    | ⟨0, _⟩ => kernel_rfl
    | ⟨1, _⟩ => kernel_rfl
    | ⟨2, _⟩ => kernel_rfl
    | ⟨3, _⟩ => kernel_rfl
  refine .lst 1 _ (fun d hd => ?_) (by show 22 < 900; decide) noC_wAll
  simp only [wAll, List.mem_cons, List.not_mem_nil, or_false] at hd
  rcases hd with rfl | rfl | rfl | rfl | rfl | rfl | rfl | rfl | rfl | rfl | rfl | rfl | rfl | rfl | rfl | rfl | rfl | rfl | rfl | rfl | rfl | rfl <;>
    first | exact .int 1 _ | exact .str 1 _ ht | exact .str 1 _ (by decide)
theorem ds_nc {f : Int} (t : Fin 4) : D.noCs [.lst (wAll f (TG[t])), .lst (wAll f (TG[t]))] = true := rfl
theorem right_run {G : List Cell} {i : Nat} (hb : Bx G i 0) : ∃ G', run tb 23 6 [.ref i] G = .ok (.bl true) G' := by
  obtain ⟨r, G1, e1, r0, r1, b1⟩ := take_run (n := 21) (m := 1000000000) hb (by decide) (by decide) (by decide)
  obtain ⟨j, d, G2, hj, e2, b2⟩ := of_run (n := 20) (goods := TG.map .str) b1 (by decide) (by decide) (by decide) (by decide +kernel)
  obtain ⟨t, rfl⟩ : ∃ t : Fin 4, d = .str (TG[t]) := by
    have hl : j < 4 := (List.getElem?_eq_some_iff.mp hj).1
    match j, hl with
    | 0, _ => cases hj; exact ⟨0, rfl⟩
    | 1, _ => cases hj; exact ⟨1, rfl⟩
    | 2, _ => cases hj; exact ⟨2, rfl⟩
    | 3, _ => cases hj; exact ⟨3, rfl⟩
  refine ⟨G2, ?_⟩
  obtain ⟨a1, a2⟩ := every_ok i (r - 500000000) t G2
  rw [run_ok (n := 22) (ds := [.ref i]) (fd := ⟨1, 9, b_6, .fn⟩) (fl := .rt (.bl true) ⟨G2, []⟩) rfl rfl rfl]
  · rfl
  · have h1 : callD (run tb 22) 1 [.ref i, .int 1000000000] ⟨G, []⟩ = .ok (.int r) ⟨G1, []⟩ := call_nc rfl e1
    have h3 : callD (run tb 22) 3 [.ref i, .lst (TG.map .str)] ⟨G1, []⟩ = .ok (.str (TG[t])) ⟨G2, []⟩ := call_nc rfl e2
    refine (seq_nx (b := rest) (σ' := sig i (r - 500000000) (TG[t])) (s' := ⟨G2, []⟩) ?_).trans ?_
    · have p10 : ev (run tb 22) (.bin .pow (.lit (.int 10)) (.lit (.int 9))) [some (.ref i), none, none, none, none, none, none, none, none] ⟨G, []⟩ = .ok (.int 1000000000) ⟨G, []⟩ := by kernel_rfl
      have p5 : ∀ s, ev (run tb 22) (.bin .mul (.lit (.int 5)) (.bin .pow (.lit (.int 10)) (.lit (.int 8)))) [some (.ref i), none, none, none, none, none, none, none, none] s = .ok (.int 500000000) s := fun s => by kernel_rfl
      have ha : ev (run tb 22) (.bin .sub (.call 1 (.cons (.var 0) (.cons (.bin .pow (.lit (.int 10)) (.lit (.int 9))) (.nil)))) (.bin .mul (.lit (.int 5)) (.bin .pow (.lit (.int 10)) (.lit (.int 8))))) [some (.ref i), none, none, none, none, none, none, none, none] ⟨G, []⟩ = .ok (.int (r - 500000000)) ⟨G1, []⟩ := by
        have hc : ev (run tb 22) (.call 1 (.cons (.var 0) (.cons (.bin .pow (.lit (.int 10)) (.lit (.int 9))) (.nil)))) [some (.ref i), none, none, none, none, none, none, none, none] ⟨G, []⟩ = .ok (.int r) ⟨G1, []⟩ := call_ev (cons_ev rfl (cons_ev p10 rfl)) h1
        exact bin_ev hc (p5 _) rfl
      have hes := cons_ev ha (cons_ev (r := .nil) (call_ev (es := .cons (.var 0) (.cons (.lst .fz (.cons (.lit (.str [97])) (.cons (.lit (.str [97, 110, 116, 115])) (.cons (.lit (.str [97, 98, 99, 100, 101, 102, 103, 104])) (.cons (.lit (.str [122, 122])) (.nil)))))) .nil)) (σ := [some (.ref i), none, none, none, none, none, none, none, none]) rfl h3) rfl)
      show (ev (run tb 22) _ [some (.ref i), none, none, none, none, none, none, none, none] ⟨G, []⟩).fl _ _ = _
      rw [hes]
      rfl
    · have e3 : exec (run tb 22) (lastS rest) (nxS (exec (run tb 22) (initS rest) (sig i (r - 500000000) (TG[t])) ⟨G2, []⟩)) ⟨G2, []⟩ = .rt (.bl true) ⟨G2, []⟩ := by
        rw [last_is]
        exact ret_eq (call_ev a2 (call_nc (ds_nc t) (same_run 2 22 _ (by decide) dt_wAll rfl)))
      rw [split_last, a1, then_nx]
      exact e3
theorem plain : ∀ ns : List Int, ns.length ≤ 63 → ∃ G, DI.run K00.tb 24 7 [DI.scriptD ns] [] = .ok (.bl true) G := by
  intro ns hns
  obtain ⟨cells, ec, hcl⟩ := cells_run (n := 22) (G := []) hns
  have hlen : ∀ s, lenD (.lst (cells.map .int)) s = .ok (.int (cells.length : Int)) s := fun s => by
    show R.of (some (D.int ((cells.map D.int).length : Int))) _ = _
    rw [List.length_map]
    rfl
  have h62 : in62 (cells.length : Int) = true := by
    unfold in62
    rw [decide_eq_true (by omega), decide_eq_true (by omega)]
    rfl
  have hrl : (ranged 0 (cells.length : Int)).length = cells.length := by simp [ranged]
  obtain ⟨ys, s3, e3, l3, p3, L3⟩ := lc_draw (C := run tb 23) (own := [2]) (k := .rng1) (a := .blt .len (.cons (.var 1) .nil)) (b := .nil) (e := .call 6 (.cons (.call 0 (.cons (.var 1) (.cons (.var 2) (.nil)))) (.nil))) (i := 2) (σ := [some (scriptD ns), some (.lst (cells.map .int)), none]) (s := ⟨[], []⟩) (s' := ⟨[], []⟩) (s'' := ⟨[], []⟩) (v := .int (cells.length : Int)) (u := .tup []) (ds := ranged 0 (cells.length : Int))
    (I := fun _ s => s.L = []) (Pr := fun y => y = .bl true) (dk := 0) (B := 0) (c := 0) (by decide) (hlen _) rfl (by
      show (if in62 (cells.length : Int) = true then some (ranged 0 (cells.length : Int), ([] : List (D × List D))) else none) = _
      rw [if_pos h62]) (by rw [hrl]; omega) (fun d hd c s hc hI => by
      obtain ⟨Gs, Ls⟩ := s
      cases hI
      obtain ⟨k, hk, rfl⟩ : ∃ k : Nat, k < cells.length ∧ d = .int (k : Int) := by
        unfold ranged at hd
        obtain ⟨k, hk, rfl⟩ := List.mem_map.mp hd
        rw [List.mem_range] at hk
        exact ⟨k, by omega, by simp⟩
      obtain ⟨G1, e1, b1⟩ := box_run (n := 22) (G := Gs) hk (by omega)
      obtain ⟨G2, e2⟩ := right_run b1
      have hbox : ev (run tb 23) (.call 0 (.cons (.var 1) (.cons (.var 2) (.nil)))) ((wipeI [some (scriptD ns), some (.lst (cells.map .int)), none] [2]).set 2 (some (.int (k : Int)))) ⟨Gs, []⟩ = .ok (.ref Gs.length) ⟨G1, []⟩ := call_ev (ds := [.lst (cells.map .int), .int (k : Int)]) rfl (call_nc (by simp [D.noCs, D.noC, noC_ints]) e1)
      exact ⟨.bl true, ⟨G2, []⟩, call_ev (cons_ev hbox rfl) (call_nc rfl e2), rfl, rfl⟩) (by simp) rfl
  obtain ⟨G3, L⟩ := s3
  cases L3
  have hy : ys = List.replicate cells.length (.bl true) := List.eq_replicate_iff.mpr ⟨by rw [l3, hrl], p3⟩
  subst hy
  refine ⟨G3, ?_⟩
  rw [run_ok (n := 23) (ds := [scriptD ns]) (fd := ⟨1, 3, b_7, .fn⟩) (fl := .rt (.bl true) ⟨G3, []⟩) rfl rfl (by simp [D.noCs, D.noC, scriptD, noC_ints])]
  · rfl
  · refine (seq_nx (σ' := [some (scriptD ns), some (.lst (cells.map .int)), none]) (s' := ⟨[], []⟩) ?_).trans ?_
    · have h12 : callD (run tb 23) 2 [scriptD ns, .int 3] ⟨[], []⟩ = .ok (.lst (cells.map .int)) ⟨[], []⟩ := call_nc (by simp [D.noCs, D.noC, scriptD, noC_ints]) ec
      exact asg_nx (i := 1) (σ := [some (scriptD ns), none, none]) (call_ev (s1 := ⟨[], []⟩) (ds := [scriptD ns, .int 3]) rfl h12)
    refine ret_eq ?_
    show ((ev (run tb 23) _ [some (scriptD ns), some (.lst (cells.map .int)), none] ⟨[], []⟩).bind _).bind _ = _
    rw [e3]
    show R.of ((some (List.replicate cells.length (D.bl true))).bind fun ds => (blsOf ds).map fun bs => D.bl (bs.all id)) _ = _
    rw [Option.bind_some, bls_true, Option.map_some, all_true]
    rfl
end K00

open PySem PySem.W PyProof.Rows
set_option maxRecDepth 100000 in
set_option maxHeartbeats 0 in
theorem PySem.Challenge.cw_fanplans_k00_errors_holds : PySem.Challenge.rw_fanplans_k00_errors.Holds := by
  w_on; o_law; k_head; (case hw => w_witness2)
  k_fill
  refine K00.walk (l := PySem.Challenge.rw_fanplans_k00_errors) rfl rfl (fun w h Y => PySem.W.kIn_of Y) ?F
  case F =>
    intro w mg fa h KX G hmg
    refine' K00.all_mk K00.plain KX G hmg ?a0 ?l0 ?c0 ?k0 ?a1 ?l1 ?c1 ?k1 ?a2 ?l2 ?c2 ?k2 ?a3 ?l3 ?c3 ?k3 ?a4 ?l4 ?c4 ?k4 ?a5 ?l5 ?c5 ?k5 ?a6 ?l6 ?c6 ?k6 ?a7 ?l7 ?c7 ?k7 ?z_ValueError ?z_abs ?z_all ?z_bool ?z_enumerate ?z_int ?z_isinstance ?z_len ?z_list ?z_range ?z_str ?z_tuple ?z_zip ?gC0 ?gC1 ?xL1 ?sa1 ?ga1 ?gg1 ?nb1 ?ha1 ?hn1 ?ht1 ?hm1 ?ix1 ?tx1 ?lx1 ?cx1 ?kx1 ?kC1 ?eC1 ?tC1 ?dC1 ?iC1 ?gC2 ?xL2 ?sa2 ?ga2 ?gg2 ?nb2 ?ha2 ?hn2 ?ht2 ?hm2 ?ix2 ?tx2 ?lx2 ?cx2 ?kx2 ?kC2 ?eC2 ?tC2 ?dC2 ?iC2 ?gC3 ?xL3 ?sa3 ?ga3 ?gg3 ?nb3 ?ha3 ?hn3 ?ht3 ?hm3 ?ix3 ?tx3 ?lx3 ?cx3 ?kx3 ?kC3 ?eC3 ?tC3 ?dC3 ?iC3 ?gC4 ?xL4 ?sa4 ?ga4 ?gg4 ?nb4 ?ha4 ?hn4 ?ht4 ?hm4 ?ix4 ?tx4 ?lx4 ?cx4 ?kx4 ?kC4 ?eC4 ?tC4 ?dC4 ?iC4 ?gC5 ?xL5 ?sa5 ?ga5 ?gg5 ?nb5 ?ha5 ?hn5 ?ht5 ?hm5 ?ix5 ?tx5 ?lx5 ?cx5 ?kx5 ?kC5 ?eC5 ?tC5 ?dC5 ?iC5 ?gC6 ?xL6 ?sa6 ?ga6 ?gg6 ?nb6 ?ha6 ?hn6 ?ht6 ?hm6 ?ix6 ?tx6 ?lx6 ?cx6 ?kx6 ?kC6 ?eC6 ?tC6 ?dC6 ?iC6 ?gC7 ?xL7 ?sa7 ?ga7 ?gg7 ?nb7 ?ha7 ?hn7 ?ht7 ?hm7 ?ix7 ?tx7 ?lx7 ?cx7 ?kx7 ?kC7 ?eC7 ?tC7 ?dC7 ?iC7 ?gC8 ?xL8 ?sa8 ?ga8 ?gg8 ?nb8 ?ha8 ?hn8 ?ht8 ?hm8 ?ix8 ?tx8 ?lx8 ?cx8 ?kx8 ?kC8 ?eC8 ?tC8 ?dC8 ?iC8 ?gC9 ?xL9 ?sa9 ?ga9 ?gg9 ?nb9 ?ha9 ?hn9 ?ht9 ?hm9 ?ix9 ?tx9 ?lx9 ?cx9 ?kx9 ?kC9 ?eC9 ?tC9 ?dC9 ?iC9 ?gC10 ?xL10 ?sa10 ?ga10 ?gg10 ?nb10 ?ha10 ?hn10 ?ht10 ?hm10 ?ix10 ?tx10 ?lx10 ?cx10 ?kx10 ?kC10 ?eC10 ?tC10 ?dC10 ?iC10 ?gC11 ?xL11 ?sa11 ?ga11 ?gg11 ?nb11 ?ha11 ?hn11 ?ht11 ?hm11 ?ix11 ?tx11 ?lx11 ?cx11 ?kx11 ?kC11 ?eC11 ?tC11 ?dC11 ?iC11 ?gC12 ?xL12 ?sa12 ?ga12 ?gg12 ?nb12 ?ha12 ?hn12 ?ht12 ?hm12 ?ix12 ?tx12 ?lx12 ?cx12 ?kx12 ?kC12 ?eC12 ?tC12 ?dC12 ?iC12 ?gC13 ?xL13 ?sa13 ?ga13 ?gg13 ?nb13 ?ha13 ?hn13 ?ht13 ?hm13 ?ix13 ?tx13 ?lx13 ?cx13 ?kx13 ?kC13 ?eC13 ?tC13 ?dC13 ?iC13 ?gC14 ?xL14 ?sa14 ?ga14 ?gg14 ?nb14 ?ha14 ?hn14 ?ht14 ?hm14 ?ix14 ?tx14 ?lx14 ?cx14 ?kx14 ?kC14 ?eC14 ?tC14 ?dC14 ?iC14 ?gC15 ?xL15 ?sa15 ?ga15 ?gg15 ?nb15 ?ha15 ?hn15 ?ht15 ?hm15 ?ix15 ?tx15 ?lx15 ?cx15 ?kx15 ?kC15 ?eC15 ?tC15 ?dC15 ?iC15 ?k_BadLink_AllKnown ?k_BadText_AllKnown ?k_BadLine_AllKnown ?k_BadRows_AllKnown ?k_BadPairs_AllKnown ?k_NoTable_AllKnown ?k_NoLink_AllKnown ?k_NotOne_AllKnown ?k_OtherTables_AllKnown ?k_NothingDone_AllKnown ?k_Known_AllKnown ?k_NoSchema_AllKnown ?k_NoNumber_AllKnown ?k_BadAnswer_AllKnown ?k_AllKnown_AllKnown ?kb_AllKnown_NoneType ?kb_AllKnown_bool ?kb_AllKnown_int ?kb_AllKnown_str ?kb_AllKnown_tuple ?kb_AllKnown_list ?k_BadLink_BadAnswer ?k_BadText_BadAnswer ?k_BadLine_BadAnswer ?k_BadRows_BadAnswer ?k_BadPairs_BadAnswer ?k_NoTable_BadAnswer ?k_NoLink_BadAnswer ?k_NotOne_BadAnswer ?k_OtherTables_BadAnswer ?k_NothingDone_BadAnswer ?k_Known_BadAnswer ?k_NoSchema_BadAnswer ?k_NoNumber_BadAnswer ?k_BadAnswer_BadAnswer ?k_AllKnown_BadAnswer ?kb_BadAnswer_NoneType ?kb_BadAnswer_bool ?kb_BadAnswer_int ?kb_BadAnswer_str ?kb_BadAnswer_tuple ?kb_BadAnswer_list ?k_BadLink_BadLine ?k_BadText_BadLine ?k_BadLine_BadLine ?k_BadRows_BadLine ?k_BadPairs_BadLine ?k_NoTable_BadLine ?k_NoLink_BadLine ?k_NotOne_BadLine ?k_OtherTables_BadLine ?k_NothingDone_BadLine ?k_Known_BadLine ?k_NoSchema_BadLine ?k_NoNumber_BadLine ?k_BadAnswer_BadLine ?k_AllKnown_BadLine ?kb_BadLine_NoneType ?kb_BadLine_bool ?kb_BadLine_int ?kb_BadLine_str ?kb_BadLine_tuple ?kb_BadLine_list ?k_BadLink_BadLink ?k_BadText_BadLink ?k_BadLine_BadLink ?k_BadRows_BadLink ?k_BadPairs_BadLink ?k_NoTable_BadLink ?k_NoLink_BadLink ?k_NotOne_BadLink ?k_OtherTables_BadLink ?k_NothingDone_BadLink ?k_Known_BadLink ?k_NoSchema_BadLink ?k_NoNumber_BadLink ?k_BadAnswer_BadLink ?k_AllKnown_BadLink ?kb_BadLink_NoneType ?kb_BadLink_bool ?kb_BadLink_int ?kb_BadLink_str ?kb_BadLink_tuple ?kb_BadLink_list ?k_BadLink_BadPairs ?k_BadText_BadPairs ?k_BadLine_BadPairs ?k_BadRows_BadPairs ?k_BadPairs_BadPairs ?k_NoTable_BadPairs ?k_NoLink_BadPairs ?k_NotOne_BadPairs ?k_OtherTables_BadPairs ?k_NothingDone_BadPairs ?k_Known_BadPairs ?k_NoSchema_BadPairs ?k_NoNumber_BadPairs ?k_BadAnswer_BadPairs ?k_AllKnown_BadPairs ?kb_BadPairs_NoneType ?kb_BadPairs_bool ?kb_BadPairs_int ?kb_BadPairs_str ?kb_BadPairs_tuple ?kb_BadPairs_list ?k_BadLink_BadRows ?k_BadText_BadRows ?k_BadLine_BadRows ?k_BadRows_BadRows ?k_BadPairs_BadRows ?k_NoTable_BadRows ?k_NoLink_BadRows ?k_NotOne_BadRows ?k_OtherTables_BadRows ?k_NothingDone_BadRows ?k_Known_BadRows ?k_NoSchema_BadRows ?k_NoNumber_BadRows ?k_BadAnswer_BadRows ?k_AllKnown_BadRows ?kb_BadRows_NoneType ?kb_BadRows_bool ?kb_BadRows_int ?kb_BadRows_str ?kb_BadRows_tuple ?kb_BadRows_list ?k_BadLink_BadText ?k_BadText_BadText ?k_BadLine_BadText ?k_BadRows_BadText ?k_BadPairs_BadText ?k_NoTable_BadText ?k_NoLink_BadText ?k_NotOne_BadText ?k_OtherTables_BadText ?k_NothingDone_BadText ?k_Known_BadText ?k_NoSchema_BadText ?k_NoNumber_BadText ?k_BadAnswer_BadText ?k_AllKnown_BadText ?kb_BadText_NoneType ?kb_BadText_bool ?kb_BadText_int ?kb_BadText_str ?kb_BadText_tuple ?kb_BadText_list ?k_BadLink_FanError ?k_BadText_FanError ?k_BadLine_FanError ?k_BadRows_FanError ?k_BadPairs_FanError ?k_NoTable_FanError ?k_NoLink_FanError ?k_NotOne_FanError ?k_OtherTables_FanError ?k_NothingDone_FanError ?k_Known_FanError ?k_NoSchema_FanError ?k_NoNumber_FanError ?k_BadAnswer_FanError ?k_AllKnown_FanError ?kb_FanError_NoneType ?kb_FanError_bool ?kb_FanError_int ?kb_FanError_str ?kb_FanError_tuple ?kb_FanError_list ?k_BadLink_Known ?k_BadText_Known ?k_BadLine_Known ?k_BadRows_Known ?k_BadPairs_Known ?k_NoTable_Known ?k_NoLink_Known ?k_NotOne_Known ?k_OtherTables_Known ?k_NothingDone_Known ?k_Known_Known ?k_NoSchema_Known ?k_NoNumber_Known ?k_BadAnswer_Known ?k_AllKnown_Known ?kb_Known_NoneType ?kb_Known_bool ?kb_Known_int ?kb_Known_str ?kb_Known_tuple ?kb_Known_list ?k_BadLink_NoLink ?k_BadText_NoLink ?k_BadLine_NoLink ?k_BadRows_NoLink ?k_BadPairs_NoLink ?k_NoTable_NoLink ?k_NoLink_NoLink ?k_NotOne_NoLink ?k_OtherTables_NoLink ?k_NothingDone_NoLink ?k_Known_NoLink ?k_NoSchema_NoLink ?k_NoNumber_NoLink ?k_BadAnswer_NoLink ?k_AllKnown_NoLink ?kb_NoLink_NoneType ?kb_NoLink_bool ?kb_NoLink_int ?kb_NoLink_str ?kb_NoLink_tuple ?kb_NoLink_list ?k_BadLink_NoNumber ?k_BadText_NoNumber ?k_BadLine_NoNumber ?k_BadRows_NoNumber ?k_BadPairs_NoNumber ?k_NoTable_NoNumber ?k_NoLink_NoNumber ?k_NotOne_NoNumber ?k_OtherTables_NoNumber ?k_NothingDone_NoNumber ?k_Known_NoNumber ?k_NoSchema_NoNumber ?k_NoNumber_NoNumber ?k_BadAnswer_NoNumber ?k_AllKnown_NoNumber ?kb_NoNumber_NoneType ?kb_NoNumber_bool ?kb_NoNumber_int ?kb_NoNumber_str ?kb_NoNumber_tuple ?kb_NoNumber_list ?k_BadLink_NoSchema ?k_BadText_NoSchema ?k_BadLine_NoSchema ?k_BadRows_NoSchema ?k_BadPairs_NoSchema ?k_NoTable_NoSchema ?k_NoLink_NoSchema ?k_NotOne_NoSchema ?k_OtherTables_NoSchema ?k_NothingDone_NoSchema ?k_Known_NoSchema ?k_NoSchema_NoSchema ?k_NoNumber_NoSchema ?k_BadAnswer_NoSchema ?k_AllKnown_NoSchema ?kb_NoSchema_NoneType ?kb_NoSchema_bool ?kb_NoSchema_int ?kb_NoSchema_str ?kb_NoSchema_tuple ?kb_NoSchema_list ?k_BadLink_NoTable ?k_BadText_NoTable ?k_BadLine_NoTable ?k_BadRows_NoTable ?k_BadPairs_NoTable ?k_NoTable_NoTable ?k_NoLink_NoTable ?k_NotOne_NoTable ?k_OtherTables_NoTable ?k_NothingDone_NoTable ?k_Known_NoTable ?k_NoSchema_NoTable ?k_NoNumber_NoTable ?k_BadAnswer_NoTable ?k_AllKnown_NoTable ?kb_NoTable_NoneType ?kb_NoTable_bool ?kb_NoTable_int ?kb_NoTable_str ?kb_NoTable_tuple ?kb_NoTable_list ?k_BadLink_NotOne ?k_BadText_NotOne ?k_BadLine_NotOne ?k_BadRows_NotOne ?k_BadPairs_NotOne ?k_NoTable_NotOne ?k_NoLink_NotOne ?k_NotOne_NotOne ?k_OtherTables_NotOne ?k_NothingDone_NotOne ?k_Known_NotOne ?k_NoSchema_NotOne ?k_NoNumber_NotOne ?k_BadAnswer_NotOne ?k_AllKnown_NotOne ?kb_NotOne_NoneType ?kb_NotOne_bool ?kb_NotOne_int ?kb_NotOne_str ?kb_NotOne_tuple ?kb_NotOne_list ?k_BadLink_NothingDone ?k_BadText_NothingDone ?k_BadLine_NothingDone ?k_BadRows_NothingDone ?k_BadPairs_NothingDone ?k_NoTable_NothingDone ?k_NoLink_NothingDone ?k_NotOne_NothingDone ?k_OtherTables_NothingDone ?k_NothingDone_NothingDone ?k_Known_NothingDone ?k_NoSchema_NothingDone ?k_NoNumber_NothingDone ?k_BadAnswer_NothingDone ?k_AllKnown_NothingDone ?kb_NothingDone_NoneType ?kb_NothingDone_bool ?kb_NothingDone_int ?kb_NothingDone_str ?kb_NothingDone_tuple ?kb_NothingDone_list ?k_BadLink_OtherTables ?k_BadText_OtherTables ?k_BadLine_OtherTables ?k_BadRows_OtherTables ?k_BadPairs_OtherTables ?k_NoTable_OtherTables ?k_NoLink_OtherTables ?k_NotOne_OtherTables ?k_OtherTables_OtherTables ?k_NothingDone_OtherTables ?k_Known_OtherTables ?k_NoSchema_OtherTables ?k_NoNumber_OtherTables ?k_BadAnswer_OtherTables ?k_AllKnown_OtherTables ?kb_OtherTables_NoneType ?kb_OtherTables_bool ?kb_OtherTables_int ?kb_OtherTables_str ?kb_OtherTables_tuple ?kb_OtherTables_list ?k_BadLink_ValueError ?k_BadText_ValueError ?k_BadLine_ValueError ?k_BadRows_ValueError ?k_BadPairs_ValueError ?k_NoTable_ValueError ?k_NoLink_ValueError ?k_NotOne_ValueError ?k_OtherTables_ValueError ?k_NothingDone_ValueError ?k_Known_ValueError ?k_NoSchema_ValueError ?k_NoNumber_ValueError ?k_BadAnswer_ValueError ?k_AllKnown_ValueError
    (case a0 => k_is)
    (case l0 => k_is)
    (case c0 => k_is)
    (case k0 => k_is)
    (case a1 => k_is)
    (case l1 => k_is)
    (case c1 => k_is)
    (case k1 => k_is)
    (case a2 => k_is)
    (case l2 => k_is)
    (case c2 => k_is)
    (case k2 => k_is)
    (case a3 => k_is)
    (case l3 => k_is)
    (case c3 => k_is)
    (case k3 => k_is)
    (case a4 => k_is)
    (case l4 => k_is)
    (case c4 => k_is)
    (case k4 => k_is)
    (case a5 => k_is)
    (case l5 => k_is)
    (case c5 => k_is)
    (case k5 => k_is)
    (case a6 => k_is)
    (case l6 => k_is)
    (case c6 => k_is)
    (case k6 => k_is)
    (case a7 => k_is)
    (case l7 => k_is)
    (case c7 => k_is)
    (case k7 => k_is)
    (case z_ValueError => k_is)
    (case z_abs => k_is)
    (case z_all => k_is)
    (case z_bool => k_is)
    (case z_enumerate => k_is)
    (case z_int => k_is)
    (case z_isinstance => k_is)
    (case z_len => k_is)
    (case z_list => k_is)
    (case z_range => k_is)
    (case z_str => k_is)
    (case z_tuple => k_is)
    (case z_zip => k_is)
    (case gC0 => k_is)
    (case gC1 => k_is)
    (case xL1 => k_is)
    (case sa1 => k_is)
    (case ga1 => k_is)
    (case gg1 => k_is)
    (case nb1 => k_is)
    (case ha1 => k_is)
    (case hn1 => k_is)
    (case ht1 => k_is)
    (case hm1 => k_is)
    (case ix1 => k_is)
    (case tx1 => k_is)
    (case lx1 => k_is)
    (case cx1 => k_is)
    (case kx1 => k_is)
    (case kC1 => k_is)
    (case eC1 => k_is)
    (case tC1 => k_is)
    (case dC1 => k_is)
    (case iC1 => k_is)
    (case gC2 => k_is)
    (case xL2 => k_is)
    (case sa2 => k_is)
    (case ga2 => k_is)
    (case gg2 => k_is)
    (case nb2 => k_is)
    (case ha2 => k_is)
    (case hn2 => k_is)
    (case ht2 => k_is)
    (case hm2 => k_is)
    (case ix2 => k_is)
    (case tx2 => k_is)
    (case lx2 => k_is)
    (case cx2 => k_is)
    (case kx2 => k_is)
    (case kC2 => k_is)
    (case eC2 => k_is)
    (case tC2 => k_is)
    (case dC2 => k_is)
    (case iC2 => k_is)
    (case gC3 => k_is)
    (case xL3 => k_is)
    (case sa3 => k_is)
    (case ga3 => k_is)
    (case gg3 => k_is)
    (case nb3 => k_is)
    (case ha3 => k_is)
    (case hn3 => k_is)
    (case ht3 => k_is)
    (case hm3 => k_is)
    (case ix3 => k_is)
    (case tx3 => k_is)
    (case lx3 => k_is)
    (case cx3 => k_is)
    (case kx3 => k_is)
    (case kC3 => k_is)
    (case eC3 => k_is)
    (case tC3 => k_is)
    (case dC3 => k_is)
    (case iC3 => k_is)
    (case gC4 => k_is)
    (case xL4 => k_is)
    (case sa4 => k_is)
    (case ga4 => k_is)
    (case gg4 => k_is)
    (case nb4 => k_is)
    (case ha4 => k_is)
    (case hn4 => k_is)
    (case ht4 => k_is)
    (case hm4 => k_is)
    (case ix4 => k_is)
    (case tx4 => k_is)
    (case lx4 => k_is)
    (case cx4 => k_is)
    (case kx4 => k_is)
    (case kC4 => k_is)
    (case eC4 => k_is)
    (case tC4 => k_is)
    (case dC4 => k_is)
    (case iC4 => k_is)
    (case gC5 => k_is)
    (case xL5 => k_is)
    (case sa5 => k_is)
    (case ga5 => k_is)
    (case gg5 => k_is)
    (case nb5 => k_is)
    (case ha5 => k_is)
    (case hn5 => k_is)
    (case ht5 => k_is)
    (case hm5 => k_is)
    (case ix5 => k_is)
    (case tx5 => k_is)
    (case lx5 => k_is)
    (case cx5 => k_is)
    (case kx5 => k_is)
    (case kC5 => k_is)
    (case eC5 => k_is)
    (case tC5 => k_is)
    (case dC5 => k_is)
    (case iC5 => k_is)
    (case gC6 => k_is)
    (case xL6 => k_is)
    (case sa6 => k_is)
    (case ga6 => k_is)
    (case gg6 => k_is)
    (case nb6 => k_is)
    (case ha6 => k_is)
    (case hn6 => k_is)
    (case ht6 => k_is)
    (case hm6 => k_is)
    (case ix6 => k_is)
    (case tx6 => k_is)
    (case lx6 => k_is)
    (case cx6 => k_is)
    (case kx6 => k_is)
    (case kC6 => k_is)
    (case eC6 => k_is)
    (case tC6 => k_is)
    (case dC6 => k_is)
    (case iC6 => k_is)
    (case gC7 => k_is)
    (case xL7 => k_is)
    (case sa7 => k_is)
    (case ga7 => k_is)
    (case gg7 => k_is)
    (case nb7 => k_is)
    (case ha7 => k_is)
    (case hn7 => k_is)
    (case ht7 => k_is)
    (case hm7 => k_is)
    (case ix7 => k_is)
    (case tx7 => k_is)
    (case lx7 => k_is)
    (case cx7 => k_is)
    (case kx7 => k_is)
    (case kC7 => k_is)
    (case eC7 => k_is)
    (case tC7 => k_is)
    (case dC7 => k_is)
    (case iC7 => k_is)
    (case gC8 => k_is)
    (case xL8 => k_is)
    (case sa8 => k_is)
    (case ga8 => k_is)
    (case gg8 => k_is)
    (case nb8 => k_is)
    (case ha8 => k_is)
    (case hn8 => k_is)
    (case ht8 => k_is)
    (case hm8 => k_is)
    (case ix8 => k_is)
    (case tx8 => k_is)
    (case lx8 => k_is)
    (case cx8 => k_is)
    (case kx8 => k_is)
    (case kC8 => k_is)
    (case eC8 => k_is)
    (case tC8 => k_is)
    (case dC8 => k_is)
    (case iC8 => k_is)
    (case gC9 => k_is)
    (case xL9 => k_is)
    (case sa9 => k_is)
    (case ga9 => k_is)
    (case gg9 => k_is)
    (case nb9 => k_is)
    (case ha9 => k_is)
    (case hn9 => k_is)
    (case ht9 => k_is)
    (case hm9 => k_is)
    (case ix9 => k_is)
    (case tx9 => k_is)
    (case lx9 => k_is)
    (case cx9 => k_is)
    (case kx9 => k_is)
    (case kC9 => k_is)
    (case eC9 => k_is)
    (case tC9 => k_is)
    (case dC9 => k_is)
    (case iC9 => k_is)
    (case gC10 => k_is)
    (case xL10 => k_is)
    (case sa10 => k_is)
    (case ga10 => k_is)
    (case gg10 => k_is)
    (case nb10 => k_is)
    (case ha10 => k_is)
    (case hn10 => k_is)
    (case ht10 => k_is)
    (case hm10 => k_is)
    (case ix10 => k_is)
    (case tx10 => k_is)
    (case lx10 => k_is)
    (case cx10 => k_is)
    (case kx10 => k_is)
    (case kC10 => k_is)
    (case eC10 => k_is)
    (case tC10 => k_is)
    (case dC10 => k_is)
    (case iC10 => k_is)
    (case gC11 => k_is)
    (case xL11 => k_is)
    (case sa11 => k_is)
    (case ga11 => k_is)
    (case gg11 => k_is)
    (case nb11 => k_is)
    (case ha11 => k_is)
    (case hn11 => k_is)
    (case ht11 => k_is)
    (case hm11 => k_is)
    (case ix11 => k_is)
    (case tx11 => k_is)
    (case lx11 => k_is)
    (case cx11 => k_is)
    (case kx11 => k_is)
    (case kC11 => k_is)
    (case eC11 => k_is)
    (case tC11 => k_is)
    (case dC11 => k_is)
    (case iC11 => k_is)
    (case gC12 => k_is)
    (case xL12 => k_is)
    (case sa12 => k_is)
    (case ga12 => k_is)
    (case gg12 => k_is)
    (case nb12 => k_is)
    (case ha12 => k_is)
    (case hn12 => k_is)
    (case ht12 => k_is)
    (case hm12 => k_is)
    (case ix12 => k_is)
    (case tx12 => k_is)
    (case lx12 => k_is)
    (case cx12 => k_is)
    (case kx12 => k_is)
    (case kC12 => k_is)
    (case eC12 => k_is)
    (case tC12 => k_is)
    (case dC12 => k_is)
    (case iC12 => k_is)
    (case gC13 => k_is)
    (case xL13 => k_is)
    (case sa13 => k_is)
    (case ga13 => k_is)
    (case gg13 => k_is)
    (case nb13 => k_is)
    (case ha13 => k_is)
    (case hn13 => k_is)
    (case ht13 => k_is)
    (case hm13 => k_is)
    (case ix13 => k_is)
    (case tx13 => k_is)
    (case lx13 => k_is)
    (case cx13 => k_is)
    (case kx13 => k_is)
    (case kC13 => k_is)
    (case eC13 => k_is)
    (case tC13 => k_is)
    (case dC13 => k_is)
    (case iC13 => k_is)
    (case gC14 => k_is)
    (case xL14 => k_is)
    (case sa14 => k_is)
    (case ga14 => k_is)
    (case gg14 => k_is)
    (case nb14 => k_is)
    (case ha14 => k_is)
    (case hn14 => k_is)
    (case ht14 => k_is)
    (case hm14 => k_is)
    (case ix14 => k_is)
    (case tx14 => k_is)
    (case lx14 => k_is)
    (case cx14 => k_is)
    (case kx14 => k_is)
    (case kC14 => k_is)
    (case eC14 => k_is)
    (case tC14 => k_is)
    (case dC14 => k_is)
    (case iC14 => k_is)
    (case gC15 => k_is)
    (case xL15 => k_is)
    (case sa15 => k_is)
    (case ga15 => k_is)
    (case gg15 => k_is)
    (case nb15 => k_is)
    (case ha15 => k_is)
    (case hn15 => k_is)
    (case ht15 => k_is)
    (case hm15 => k_is)
    (case ix15 => k_is)
    (case tx15 => k_is)
    (case lx15 => k_is)
    (case cx15 => k_is)
    (case kx15 => k_is)
    (case kC15 => k_is)
    (case eC15 => k_is)
    (case tC15 => k_is)
    (case dC15 => k_is)
    (case iC15 => k_is)
    (case k_BadLink_AllKnown => kit_is)
    (case k_BadText_AllKnown => kit_is)
    (case k_BadLine_AllKnown => kit_is)
    (case k_BadRows_AllKnown => kit_is)
    (case k_BadPairs_AllKnown => kit_is)
    (case k_NoTable_AllKnown => kit_is)
    (case k_NoLink_AllKnown => kit_is)
    (case k_NotOne_AllKnown => kit_is)
    (case k_OtherTables_AllKnown => kit_is)
    (case k_NothingDone_AllKnown => kit_is)
    (case k_Known_AllKnown => kit_is)
    (case k_NoSchema_AllKnown => kit_is)
    (case k_NoNumber_AllKnown => kit_is)
    (case k_BadAnswer_AllKnown => kit_is)
    (case k_AllKnown_AllKnown => kit_is)
    (case kb_AllKnown_NoneType => kit_is)
    (case kb_AllKnown_bool => kit_is)
    (case kb_AllKnown_int => kit_is)
    (case kb_AllKnown_str => kit_is)
    (case kb_AllKnown_tuple => kit_is)
    (case kb_AllKnown_list => kit_is)
    (case k_BadLink_BadAnswer => kit_is)
    (case k_BadText_BadAnswer => kit_is)
    (case k_BadLine_BadAnswer => kit_is)
    (case k_BadRows_BadAnswer => kit_is)
    (case k_BadPairs_BadAnswer => kit_is)
    (case k_NoTable_BadAnswer => kit_is)
    (case k_NoLink_BadAnswer => kit_is)
    (case k_NotOne_BadAnswer => kit_is)
    (case k_OtherTables_BadAnswer => kit_is)
    (case k_NothingDone_BadAnswer => kit_is)
    (case k_Known_BadAnswer => kit_is)
    (case k_NoSchema_BadAnswer => kit_is)
    (case k_NoNumber_BadAnswer => kit_is)
    (case k_BadAnswer_BadAnswer => kit_is)
    (case k_AllKnown_BadAnswer => kit_is)
    (case kb_BadAnswer_NoneType => kit_is)
    (case kb_BadAnswer_bool => kit_is)
    (case kb_BadAnswer_int => kit_is)
    (case kb_BadAnswer_str => kit_is)
    (case kb_BadAnswer_tuple => kit_is)
    (case kb_BadAnswer_list => kit_is)
    (case k_BadLink_BadLine => kit_is)
    (case k_BadText_BadLine => kit_is)
    (case k_BadLine_BadLine => kit_is)
    (case k_BadRows_BadLine => kit_is)
    (case k_BadPairs_BadLine => kit_is)
    (case k_NoTable_BadLine => kit_is)
    (case k_NoLink_BadLine => kit_is)
    (case k_NotOne_BadLine => kit_is)
    (case k_OtherTables_BadLine => kit_is)
    (case k_NothingDone_BadLine => kit_is)
    (case k_Known_BadLine => kit_is)
    (case k_NoSchema_BadLine => kit_is)
    (case k_NoNumber_BadLine => kit_is)
    (case k_BadAnswer_BadLine => kit_is)
    (case k_AllKnown_BadLine => kit_is)
    (case kb_BadLine_NoneType => kit_is)
    (case kb_BadLine_bool => kit_is)
    (case kb_BadLine_int => kit_is)
    (case kb_BadLine_str => kit_is)
    (case kb_BadLine_tuple => kit_is)
    (case kb_BadLine_list => kit_is)
    (case k_BadLink_BadLink => kit_is)
    (case k_BadText_BadLink => kit_is)
    (case k_BadLine_BadLink => kit_is)
    (case k_BadRows_BadLink => kit_is)
    (case k_BadPairs_BadLink => kit_is)
    (case k_NoTable_BadLink => kit_is)
    (case k_NoLink_BadLink => kit_is)
    (case k_NotOne_BadLink => kit_is)
    (case k_OtherTables_BadLink => kit_is)
    (case k_NothingDone_BadLink => kit_is)
    (case k_Known_BadLink => kit_is)
    (case k_NoSchema_BadLink => kit_is)
    (case k_NoNumber_BadLink => kit_is)
    (case k_BadAnswer_BadLink => kit_is)
    (case k_AllKnown_BadLink => kit_is)
    (case kb_BadLink_NoneType => kit_is)
    (case kb_BadLink_bool => kit_is)
    (case kb_BadLink_int => kit_is)
    (case kb_BadLink_str => kit_is)
    (case kb_BadLink_tuple => kit_is)
    (case kb_BadLink_list => kit_is)
    (case k_BadLink_BadPairs => kit_is)
    (case k_BadText_BadPairs => kit_is)
    (case k_BadLine_BadPairs => kit_is)
    (case k_BadRows_BadPairs => kit_is)
    (case k_BadPairs_BadPairs => kit_is)
    (case k_NoTable_BadPairs => kit_is)
    (case k_NoLink_BadPairs => kit_is)
    (case k_NotOne_BadPairs => kit_is)
    (case k_OtherTables_BadPairs => kit_is)
    (case k_NothingDone_BadPairs => kit_is)
    (case k_Known_BadPairs => kit_is)
    (case k_NoSchema_BadPairs => kit_is)
    (case k_NoNumber_BadPairs => kit_is)
    (case k_BadAnswer_BadPairs => kit_is)
    (case k_AllKnown_BadPairs => kit_is)
    (case kb_BadPairs_NoneType => kit_is)
    (case kb_BadPairs_bool => kit_is)
    (case kb_BadPairs_int => kit_is)
    (case kb_BadPairs_str => kit_is)
    (case kb_BadPairs_tuple => kit_is)
    (case kb_BadPairs_list => kit_is)
    (case k_BadLink_BadRows => kit_is)
    (case k_BadText_BadRows => kit_is)
    (case k_BadLine_BadRows => kit_is)
    (case k_BadRows_BadRows => kit_is)
    (case k_BadPairs_BadRows => kit_is)
    (case k_NoTable_BadRows => kit_is)
    (case k_NoLink_BadRows => kit_is)
    (case k_NotOne_BadRows => kit_is)
    (case k_OtherTables_BadRows => kit_is)
    (case k_NothingDone_BadRows => kit_is)
    (case k_Known_BadRows => kit_is)
    (case k_NoSchema_BadRows => kit_is)
    (case k_NoNumber_BadRows => kit_is)
    (case k_BadAnswer_BadRows => kit_is)
    (case k_AllKnown_BadRows => kit_is)
    (case kb_BadRows_NoneType => kit_is)
    (case kb_BadRows_bool => kit_is)
    (case kb_BadRows_int => kit_is)
    (case kb_BadRows_str => kit_is)
    (case kb_BadRows_tuple => kit_is)
    (case kb_BadRows_list => kit_is)
    (case k_BadLink_BadText => kit_is)
    (case k_BadText_BadText => kit_is)
    (case k_BadLine_BadText => kit_is)
    (case k_BadRows_BadText => kit_is)
    (case k_BadPairs_BadText => kit_is)
    (case k_NoTable_BadText => kit_is)
    (case k_NoLink_BadText => kit_is)
    (case k_NotOne_BadText => kit_is)
    (case k_OtherTables_BadText => kit_is)
    (case k_NothingDone_BadText => kit_is)
    (case k_Known_BadText => kit_is)
    (case k_NoSchema_BadText => kit_is)
    (case k_NoNumber_BadText => kit_is)
    (case k_BadAnswer_BadText => kit_is)
    (case k_AllKnown_BadText => kit_is)
    (case kb_BadText_NoneType => kit_is)
    (case kb_BadText_bool => kit_is)
    (case kb_BadText_int => kit_is)
    (case kb_BadText_str => kit_is)
    (case kb_BadText_tuple => kit_is)
    (case kb_BadText_list => kit_is)
    (case k_BadLink_FanError => kit_is)
    (case k_BadText_FanError => kit_is)
    (case k_BadLine_FanError => kit_is)
    (case k_BadRows_FanError => kit_is)
    (case k_BadPairs_FanError => kit_is)
    (case k_NoTable_FanError => kit_is)
    (case k_NoLink_FanError => kit_is)
    (case k_NotOne_FanError => kit_is)
    (case k_OtherTables_FanError => kit_is)
    (case k_NothingDone_FanError => kit_is)
    (case k_Known_FanError => kit_is)
    (case k_NoSchema_FanError => kit_is)
    (case k_NoNumber_FanError => kit_is)
    (case k_BadAnswer_FanError => kit_is)
    (case k_AllKnown_FanError => kit_is)
    (case kb_FanError_NoneType => kit_is)
    (case kb_FanError_bool => kit_is)
    (case kb_FanError_int => kit_is)
    (case kb_FanError_str => kit_is)
    (case kb_FanError_tuple => kit_is)
    (case kb_FanError_list => kit_is)
    (case k_BadLink_Known => kit_is)
    (case k_BadText_Known => kit_is)
    (case k_BadLine_Known => kit_is)
    (case k_BadRows_Known => kit_is)
    (case k_BadPairs_Known => kit_is)
    (case k_NoTable_Known => kit_is)
    (case k_NoLink_Known => kit_is)
    (case k_NotOne_Known => kit_is)
    (case k_OtherTables_Known => kit_is)
    (case k_NothingDone_Known => kit_is)
    (case k_Known_Known => kit_is)
    (case k_NoSchema_Known => kit_is)
    (case k_NoNumber_Known => kit_is)
    (case k_BadAnswer_Known => kit_is)
    (case k_AllKnown_Known => kit_is)
    (case kb_Known_NoneType => kit_is)
    (case kb_Known_bool => kit_is)
    (case kb_Known_int => kit_is)
    (case kb_Known_str => kit_is)
    (case kb_Known_tuple => kit_is)
    (case kb_Known_list => kit_is)
    (case k_BadLink_NoLink => kit_is)
    (case k_BadText_NoLink => kit_is)
    (case k_BadLine_NoLink => kit_is)
    (case k_BadRows_NoLink => kit_is)
    (case k_BadPairs_NoLink => kit_is)
    (case k_NoTable_NoLink => kit_is)
    (case k_NoLink_NoLink => kit_is)
    (case k_NotOne_NoLink => kit_is)
    (case k_OtherTables_NoLink => kit_is)
    (case k_NothingDone_NoLink => kit_is)
    (case k_Known_NoLink => kit_is)
    (case k_NoSchema_NoLink => kit_is)
    (case k_NoNumber_NoLink => kit_is)
    (case k_BadAnswer_NoLink => kit_is)
    (case k_AllKnown_NoLink => kit_is)
    (case kb_NoLink_NoneType => kit_is)
    (case kb_NoLink_bool => kit_is)
    (case kb_NoLink_int => kit_is)
    (case kb_NoLink_str => kit_is)
    (case kb_NoLink_tuple => kit_is)
    (case kb_NoLink_list => kit_is)
    (case k_BadLink_NoNumber => kit_is)
    (case k_BadText_NoNumber => kit_is)
    (case k_BadLine_NoNumber => kit_is)
    (case k_BadRows_NoNumber => kit_is)
    (case k_BadPairs_NoNumber => kit_is)
    (case k_NoTable_NoNumber => kit_is)
    (case k_NoLink_NoNumber => kit_is)
    (case k_NotOne_NoNumber => kit_is)
    (case k_OtherTables_NoNumber => kit_is)
    (case k_NothingDone_NoNumber => kit_is)
    (case k_Known_NoNumber => kit_is)
    (case k_NoSchema_NoNumber => kit_is)
    (case k_NoNumber_NoNumber => kit_is)
    (case k_BadAnswer_NoNumber => kit_is)
    (case k_AllKnown_NoNumber => kit_is)
    (case kb_NoNumber_NoneType => kit_is)
    (case kb_NoNumber_bool => kit_is)
    (case kb_NoNumber_int => kit_is)
    (case kb_NoNumber_str => kit_is)
    (case kb_NoNumber_tuple => kit_is)
    (case kb_NoNumber_list => kit_is)
    (case k_BadLink_NoSchema => kit_is)
    (case k_BadText_NoSchema => kit_is)
    (case k_BadLine_NoSchema => kit_is)
    (case k_BadRows_NoSchema => kit_is)
    (case k_BadPairs_NoSchema => kit_is)
    (case k_NoTable_NoSchema => kit_is)
    (case k_NoLink_NoSchema => kit_is)
    (case k_NotOne_NoSchema => kit_is)
    (case k_OtherTables_NoSchema => kit_is)
    (case k_NothingDone_NoSchema => kit_is)
    (case k_Known_NoSchema => kit_is)
    (case k_NoSchema_NoSchema => kit_is)
    (case k_NoNumber_NoSchema => kit_is)
    (case k_BadAnswer_NoSchema => kit_is)
    (case k_AllKnown_NoSchema => kit_is)
    (case kb_NoSchema_NoneType => kit_is)
    (case kb_NoSchema_bool => kit_is)
    (case kb_NoSchema_int => kit_is)
    (case kb_NoSchema_str => kit_is)
    (case kb_NoSchema_tuple => kit_is)
    (case kb_NoSchema_list => kit_is)
    (case k_BadLink_NoTable => kit_is)
    (case k_BadText_NoTable => kit_is)
    (case k_BadLine_NoTable => kit_is)
    (case k_BadRows_NoTable => kit_is)
    (case k_BadPairs_NoTable => kit_is)
    (case k_NoTable_NoTable => kit_is)
    (case k_NoLink_NoTable => kit_is)
    (case k_NotOne_NoTable => kit_is)
    (case k_OtherTables_NoTable => kit_is)
    (case k_NothingDone_NoTable => kit_is)
    (case k_Known_NoTable => kit_is)
    (case k_NoSchema_NoTable => kit_is)
    (case k_NoNumber_NoTable => kit_is)
    (case k_BadAnswer_NoTable => kit_is)
    (case k_AllKnown_NoTable => kit_is)
    (case kb_NoTable_NoneType => kit_is)
    (case kb_NoTable_bool => kit_is)
    (case kb_NoTable_int => kit_is)
    (case kb_NoTable_str => kit_is)
    (case kb_NoTable_tuple => kit_is)
    (case kb_NoTable_list => kit_is)
    (case k_BadLink_NotOne => kit_is)
    (case k_BadText_NotOne => kit_is)
    (case k_BadLine_NotOne => kit_is)
    (case k_BadRows_NotOne => kit_is)
    (case k_BadPairs_NotOne => kit_is)
    (case k_NoTable_NotOne => kit_is)
    (case k_NoLink_NotOne => kit_is)
    (case k_NotOne_NotOne => kit_is)
    (case k_OtherTables_NotOne => kit_is)
    (case k_NothingDone_NotOne => kit_is)
    (case k_Known_NotOne => kit_is)
    (case k_NoSchema_NotOne => kit_is)
    (case k_NoNumber_NotOne => kit_is)
    (case k_BadAnswer_NotOne => kit_is)
    (case k_AllKnown_NotOne => kit_is)
    (case kb_NotOne_NoneType => kit_is)
    (case kb_NotOne_bool => kit_is)
    (case kb_NotOne_int => kit_is)
    (case kb_NotOne_str => kit_is)
    (case kb_NotOne_tuple => kit_is)
    (case kb_NotOne_list => kit_is)
    (case k_BadLink_NothingDone => kit_is)
    (case k_BadText_NothingDone => kit_is)
    (case k_BadLine_NothingDone => kit_is)
    (case k_BadRows_NothingDone => kit_is)
    (case k_BadPairs_NothingDone => kit_is)
    (case k_NoTable_NothingDone => kit_is)
    (case k_NoLink_NothingDone => kit_is)
    (case k_NotOne_NothingDone => kit_is)
    (case k_OtherTables_NothingDone => kit_is)
    (case k_NothingDone_NothingDone => kit_is)
    (case k_Known_NothingDone => kit_is)
    (case k_NoSchema_NothingDone => kit_is)
    (case k_NoNumber_NothingDone => kit_is)
    (case k_BadAnswer_NothingDone => kit_is)
    (case k_AllKnown_NothingDone => kit_is)
    (case kb_NothingDone_NoneType => kit_is)
    (case kb_NothingDone_bool => kit_is)
    (case kb_NothingDone_int => kit_is)
    (case kb_NothingDone_str => kit_is)
    (case kb_NothingDone_tuple => kit_is)
    (case kb_NothingDone_list => kit_is)
    (case k_BadLink_OtherTables => kit_is)
    (case k_BadText_OtherTables => kit_is)
    (case k_BadLine_OtherTables => kit_is)
    (case k_BadRows_OtherTables => kit_is)
    (case k_BadPairs_OtherTables => kit_is)
    (case k_NoTable_OtherTables => kit_is)
    (case k_NoLink_OtherTables => kit_is)
    (case k_NotOne_OtherTables => kit_is)
    (case k_OtherTables_OtherTables => kit_is)
    (case k_NothingDone_OtherTables => kit_is)
    (case k_Known_OtherTables => kit_is)
    (case k_NoSchema_OtherTables => kit_is)
    (case k_NoNumber_OtherTables => kit_is)
    (case k_BadAnswer_OtherTables => kit_is)
    (case k_AllKnown_OtherTables => kit_is)
    (case kb_OtherTables_NoneType => kit_is)
    (case kb_OtherTables_bool => kit_is)
    (case kb_OtherTables_int => kit_is)
    (case kb_OtherTables_str => kit_is)
    (case kb_OtherTables_tuple => kit_is)
    (case kb_OtherTables_list => kit_is)
    (case k_BadLink_ValueError => kit_is)
    (case k_BadText_ValueError => kit_is)
    (case k_BadLine_ValueError => kit_is)
    (case k_BadRows_ValueError => kit_is)
    (case k_BadPairs_ValueError => kit_is)
    (case k_NoTable_ValueError => kit_is)
    (case k_NoLink_ValueError => kit_is)
    (case k_NotOne_ValueError => kit_is)
    (case k_OtherTables_ValueError => kit_is)
    (case k_NothingDone_ValueError => kit_is)
    (case k_Known_ValueError => kit_is)
    (case k_NoSchema_ValueError => kit_is)
    (case k_NoNumber_ValueError => kit_is)
    (case k_BadAnswer_ValueError => kit_is)
    (case k_AllKnown_ValueError => kit_is)
#print axioms PySem.Challenge.cw_fanplans_k00_errors_holds

