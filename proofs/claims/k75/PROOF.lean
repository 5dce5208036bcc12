import PyProof.Rows.All
import Wide.All
import OpenK.AllK
import Wide.FinOn
import HandS.ForMost
import HandS.TupAny
import HandS.ForExc
import HandS.Conv
import HandS.IsInst
import HandS.Deep
import HandS.Style
import HandS.Strs
import PyProof.EqKinds
import HandS.Text
import HandS.CallSlots
import HandS.RevRange
import HandS.Zip
import HandS.Defaults
import HandS.Ends
import HandS.HeadEnd
import HandS.Head0
import HandS.Head1
import HandS.Head2
import HandS.HeadHook1
import HandS.HeadHook2
import PySem.Challenge.RW_graftform_k75_ways
set_option Elab.async false
section
set_option Elab.async false
set_option linter.all false
/-! IvCore: a small machine of our own: data, a store of lists, a language of slots, its functions. -/
namespace Iv
open PySem L2

inductive D where
  | non | bl (b : Bool) | int (i : Int) | str (s : Str) | tup (xs : List D) | rol (xs : List D) | ref (r : Nat)

/-- what stands in the store -/
inductive O where
  | lst (xs : List D)
abbrev Store := List O
structure Exc where
  cls : Nat
  args : List D
inductive R (A : Type) where
  | ok (a : A)
  | ex (x : Exc)
abbrev Rs (A : Type) := Option (R A × Store)
abbrev Evn := List (Option D)
/-- what may be written: all from lim on, and those told -/
structure Wr where
  lim : Nat
  ok : List Nat
def Wr.can (w : Wr) (r : Nat) : Bool := decide (w.lim ≤ r) || w.ok.contains r
def bnd {A B : Type} (m : Rs A) (f : A → Store → Rs B) : Rs B := match m with
  | some (.ok a, st) => f a st
  | some (.ex x, st) => some (.ex x, st)
  | none => none

/-! ### the language -/
inductive Bop where
  | add | sub | mul | fdiv | mod | pow | shl | shr | band | bor
inductive Cop where
  | eq | ne | lt | le | gt | ge | is_ | isn | in_ | nin
inductive Bi where
  | len | list | tuple | sorted | max | min | abs | int | str | sum | all | any
inductive Mt where
  | append | extend | pop | index | join | split | partition | strip | startswith
inductive Ty where
  | tup | str | int | bool | list
inductive Tg where
  | name (i : Nat)
  | tup (l : List Nat)
inductive Ik where
  | seq | range | rrange | zip
mutual
inductive E where
  | var (i : Nat) | glb (i : Nat) | cst (d : D)
  | bin (o : Bop) (a b : E) | neg (a : E)
  | cmp (o : Cop) (a b : E) | cmp2 (o1 o2 : Cop) (a b c : E)
  | and (es : Es) | or (es : Es) | not (a : E)
  | ife (c a b : E)
  | tup (es : Es) | lst (es : Es)
  | idx (a b : E) | slc (a : E) (lo hi : Es) | rev (a : E)
  | call (f : Nat) (es : Es)
  | bi (b : Bi) (es : Es)
  | lrg (es : Es)
  | mth (m : Mt) (o : E) (es : Es)
  | isi (e : E) (t : Ty)
  | comp (g : Tg) (k : Ik) (es : Es) (c : Es) (e : E) (own : List Nat)
inductive Es where
  | nil
  | cons (e : E) (es : Es)
end
mutual
inductive S where
  | set (i : Nat) (e : E) | setT (l : List Nat) (e : E) | par (i j : Nat) (a b : E)
  | setI (o i e : E)
  | ife (c : E) (a b : Ss)
  | forS (g : Tg) (k : Ik) (es : Es) (b : Ss)
  | whl (c : E) (b : Ss)
  | ret (e : E) | retN
  | expr (e : E)
  | brk | cont | pass
inductive Ss where
  | nil
  | cons (s : S) (ss : Ss)
end
/-- what a function may change of what it is handed: raw, all that its caller may; mut ps, the lists handed in at the places ps -/
inductive Kind where
  | raw
  | mut (ps : List Nat)
structure Fn where
  np : Nat
  nl : Nat
  kind : Kind
  body : Ss
structure Cfg where
  fns : List Fn
  consts : List D
  wf : Nat

/-! ### data -/
mutual
/-- no reference beyond n -/
def D.lo (n : Nat) : D → Bool
  | .ref r => decide (r < n)
  | .tup xs => D.los n xs
  | .rol xs => D.los n xs
  | _ => true
def D.los (n : Nat) : List D → Bool
  | [] => true
  | x :: xs => D.lo n x && D.los n xs
end
mutual
/-- nothing but None, truths, numbers, texts, tuples -/
def D.pur : D → Bool
  | .ref _ => false
  | .rol _ => false
  | .tup xs => D.purs xs
  | _ => true
def D.purs : List D → Bool
  | [] => true
  | x :: xs => D.pur x && D.purs xs
end
mutual
def D.dep : D → Nat
  | .tup xs => D.deps xs + 1
  | _ => 0
def D.deps : List D → Nat
  | [] => 0
  | x :: xs => max (D.dep x) (D.deps xs)
end
mutual
def D.eqv : D → D → Bool
  | .non, .non => true
  | .bl a, .bl b => a == b
  | .bl a, .int b => (if a then 1 else 0) == b
  | .int a, .bl b => a == (if b then 1 else 0)
  | .int a, .int b => a == b
  | .str a, .str b => a == b
  | .tup xs, .tup ys => D.eqvs xs ys
  | _, _ => false
def D.eqvs : List D → List D → Bool
  | [], [] => true
  | x :: xs, y :: ys => D.eqv x y && D.eqvs xs ys
  | _, _ => false
end
def D.flat : D → Bool
  | .non => true
  | .bl _ => true
  | .int _ => true
  | .str _ => true
  | _ => false
def cut {A : Type} (xs : List A) (lo hi : Option Int) : List A := (xs.drop (HT.sIx xs.length 0 lo)).take (HT.sIx xs.length xs.length hi - HT.sIx xs.length 0 lo)
/-- the items of a list or tuple -/
def items (st : Store) : D → Option (List D)
  | .tup xs => some xs
  | .rol xs => some xs
  | .ref r => match st[r]? with
    | some (.lst xs) => some xs
    | none => none
  | _ => none
def lstAt (st : Store) (r : Nat) : Option (List D) := match st[r]? with
  | some (.lst xs) => some xs
  | none => none
/-- the items of a list -/
def litems (st : Store) : D → Option (List D)
  | .rol xs => some xs
  | .ref r => lstAt st r
  | _ => none
def maxI : List Int → Option Int
  | [] => none
  | x :: xs => some (xs.foldl (fun a b => if b > a then b else a) x)
def minI : List Int → Option Int
  | [] => none
  | x :: xs => some (xs.foldl (fun a b => if b < a then b else a) x)
def oneSign (c : Nat) : Str := ⟨#[c]⟩
def ints? : List D → Option (List Int)
  | [] => some []
  | .int i :: r => match ints? r with
    | some l => some (i :: l)
    | none => none
  | _ :: _ => none
def strs? : List D → Option (List Str)
  | [] => some []
  | .str i :: r => match strs? r with
    | some l => some (i :: l)
    | none => none
  | _ :: _ => none
def bls? : List D → Option (List Bool)
  | [] => some []
  | .bl i :: r => match bls? r with
    | some l => some (i :: l)
    | none => none
  | _ :: _ => none

/-! ### the operations -/
mutual
/-- its texts' signs are below 0x110000 -/
def D.lay : D → Bool
  | .str s => s.cps.all (· < 1114112)
  | .tup xs => D.lays xs
  | _ => true
def D.lays : List D → Bool
  | [] => true
  | x :: xs => D.lay x && D.lays xs
end
def scalD : D → D → Bool
  | .bl _, .int _ => false
  | .int _, .bl _ => false
  | a, b => a.flat && b.flat
/-- ==; ne: asked by != -/
def eqS (ne : Bool) (st : Store) (a b : D) : Option Bool := match a, b with
  | .ref r, .ref q => match lstAt st r, lstAt st q with
    | some xs, some ys => if D.purs xs && D.purs ys && D.lays xs && D.lays ys && decide (min (D.deps xs) (D.deps ys) ≤ 60) then some (D.eqvs xs ys) else none
    | _, _ => none
  | .tup xs, .tup ys => if D.purs xs && D.purs ys && D.lays xs && D.lays ys && decide (min (D.deps xs) (D.deps ys) ≤ 60) then some (D.eqvs xs ys) else none
  | .tup xs, b => if b.flat && (!ne || (D.purs xs && D.lays xs && b.lay)) then some false else none
  | a, .tup ys => if a.flat && (!ne || (D.purs ys && D.lays ys && a.lay)) then some false else none
  | a, b => if scalD a b then some (D.eqv a b) else none
def inS (st : Store) (x y : D) : Option Bool := match y with
  | .str z => match x with
    | .str c => match c.cps.toList with
      | [k] => some (decide (k ∈ z.cps.toList))
      | _ => none
    | _ => none
  | y => match items st y with
    | some ys => if x.flat && ys.all D.flat then some (ys.any fun z => D.eqv z x) else none
    | none => none
def cmpD (o : Cop) (st : Store) (a b : D) : Option Bool := match o with
  | .eq => eqS false st a b
  | .ne => (eqS true st a b).map (!·)
  | .lt => match a, b with
    | .int i, .int j => some (decide (i < j))
    | _, _ => none
  | .le => match a, b with
    | .int i, .int j => some (decide (i ≤ j))
    | _, _ => none
  | .gt => match a, b with
    | .int i, .int j => some (decide (j < i))
    | _, _ => none
  | .ge => match a, b with
    | .int i, .int j => some (decide (j ≤ i))
    | _, _ => none
  | .is_ => match b with
    | .non => match a with
      | .non => some true
      | _ => some false
    | _ => none
  | .isn => match b with
    | .non => match a with
      | .non => some false
      | _ => some true
    | _ => none
  | .in_ => inS st a b
  | .nin => (inS st a b).map (!·)
def small64 (i : Int) : Bool := decide (-18446744073709551616 < i) && decide (i < 18446744073709551616)
def newL (st : Store) (xs : List D) : Rs D := some (.ok (.ref st.length), st ++ [.lst xs])
def binD (o : Bop) (a b : D) (st : Store) : Rs D := match o with
  | .add => match a, b with
    | .int i, .int j => some (.ok (.int (i + j)), st)
    | .str x, .str y => if x.length + y.length ≤ 1000000 then some (.ok (.str (x ++ y)), st) else none
    | .tup xs, .tup ys => if xs.length + ys.length ≤ 1000000 then some (.ok (.tup (xs ++ ys)), st) else none
    | .ref r, .ref q => match lstAt st r, lstAt st q with
      | some xs, some ys => if xs.length + ys.length ≤ 1000000 then newL st (xs ++ ys) else none
      | _, _ => none
    | _, _ => none
  | .sub => match a, b with
    | .int i, .int j => some (.ok (.int (i - j)), st)
    | _, _ => none
  | .mul => match a, b with
    | .int i, .int j => if small64 i || small64 j then some (.ok (.int (i * j)), st) else none
    | _, _ => none
  | .fdiv => match a, b with
    | .int i, .int j => if decide (0 < j) && decide (j < 1073741824) then some (.ok (.int (i / j)), st) else none
    | _, _ => none
  | .mod => match a, b with
    | .int i, .int j => if 0 < j then some (.ok (.int (i % j)), st) else none
    | _, _ => none
  | .pow => match a, b with
    | .int i, .int j => if small64 i && decide (0 ≤ j) && decide (j ≤ 1000000) then some (.ok (.int (i ^ j.toNat)), st) else none
    | _, _ => none
  | .shl => match a, b with
    | .int i, .int j => if small64 i && decide (0 ≤ j) && decide (j ≤ 1000000) then some (.ok (.int (i * 2 ^ j.toNat)), st) else none
    | _, _ => none
  | .shr => match a, b with
    | .int i, .int j => if 0 ≤ j then some (.ok (.int (i / 2 ^ j.toNat)), st) else none
    | _, _ => none
  | .band => match a, b with
    | .int i, .int j => some (.ok (.int (Builtin.bitAnd i j)), st)
    | _, _ => none
  | .bor => match a, b with
    | .int i, .int j => some (.ok (.int (Builtin.bitOr i j)), st)
    | _, _ => none
def idxD (a b : D) (st : Store) : Rs D := match b with
  | .int i => match a with
    | .str z => if z.length ≤ 1000000 then match atI z.cps.toList i with
        | some c => some (.ok (.str (oneSign c)), st)
        | none => none
      else none
    | a => match items st a with
      | some xs => match atI xs i with
        | some d => some (.ok d, st)
        | none => none
      | none => none
  | _ => none
def part? : List D → Option (Option Int)
  | [] => some none
  | [.int i] => some (some i)
  | _ => none
def slcO (a : D) (l h : Option Int) (st : Store) : Rs D := match a with
  | .str z => if z.length ≤ 1000000 then some (.ok (.str (cutS z l h)), st) else none
  | .tup xs => some (.ok (.tup (cut xs l h)), st)
  | .ref r => match lstAt st r with
    | some xs => newL st (cut xs l h)
    | none => none
  | _ => none
def revD (a : D) (st : Store) : Rs D := match a with
  | .ref r => match lstAt st r with
    | some xs => newL st xs.reverse
    | none => none
  | _ => none
def rngI (a b : Int) : List Int := (List.range (b - a).toNat).map fun (k : Nat) => a + (k : Int)
/-- the numbers from a on, below b -/
def rngD (a b : Int) : List D := (List.range (b - a).toNat).map fun (k : Nat) => D.int (a + (k : Int))
def big62 (a : Int) : Bool := decide (-4611686018427387904 ≤ a) && decide (a < 4611686018427387904)
def range? : List D → Option (Int × Int)
  | [.int n] => if big62 n then some (0, n) else none
  | [.int a, .int b] => if big62 a && big62 b then some (a, b) else none
  | _ => none
/-- texts by their signs -/
def sortS (xs : List Str) : List Str := xs.mergeSort fun a b => !decide (b.cps.toList < a.cps.toList)
def sortI (xs : List Int) : List Int := xs.mergeSort fun a b => decide (a ≤ b)
def biD (b : Bi) (as : List D) (st : Store) : Rs D := match b with
  | .len => match as with
    | [.str z] => if z.length ≤ 1000000 then some (.ok (.int z.length), st) else none
    | [a] => match items st a with
      | some xs => some (.ok (.int xs.length), st)
      | none => none
    | _ => none
  | .list => match as with
    | [a] => match items st a with
      | some xs => newL st xs
      | none => none
    | _ => none
  | .tuple => match as with
    | [.tup xs] => some (.ok (.tup xs), st)
    | [.ref r] => match lstAt st r with
      | some xs => some (.ok (.tup xs), st)
      | none => none
    | _ => none
  | .sorted => match as with
    | [a] => match litems st a with
      | some xs => if xs.length < 64 then match strs? xs with
          | some ss => newL st ((sortS ss).map D.str)
          | none => match ints? xs with
            | some ns => newL st ((sortI ns).map D.int)
            | none => none
        else none
      | none => none
    | _ => none
  | .max => match as with
    | [.int i, .int j] => some (.ok (.int (if j > i then j else i)), st)
    | [a] => match litems st a with
      | some xs => match ints? xs with
        | some ns => match maxI ns with
          | some k => some (.ok (.int k), st)
          | none => none
        | none => none
      | none => none
    | _ => none
  | .min => match as with
    | [.int i, .int j] => some (.ok (.int (if j < i then j else i)), st)
    | [a] => match litems st a with
      | some xs => match ints? xs with
        | some ns => match minI ns with
          | some k => some (.ok (.int k), st)
          | none => none
        | none => none
      | none => none
    | _ => none
  | .abs => match as with
    | [.int i] => some (.ok (.int (if i < 0 then -i else i)), st)
    | _ => none
  | .int => match as with
    | [.int i] => some (.ok (.int i), st)
    | [.bl k] => some (.ok (.int (if k then 1 else 0)), st)
    | _ => none
  | .str => none
  | .sum => match as with
    | [a] => match litems st a with
      | some xs => match ints? xs with
        | some ns => some (.ok (.int ns.sum), st)
        | none => none
      | none => none
    | _ => none
  | .all => match as with
    | [a] => match litems st a with
      | some xs => match bls? xs with
        | some ns => some (.ok (.bl (ns.all id)), st)
        | none => none
      | none => none
    | _ => none
  | .any => match as with
    | [a] => match litems st a with
      | some xs => match bls? xs with
        | some ns => some (.ok (.bl (ns.any id)), st)
        | none => none
      | none => none
    | _ => none
def firstAt (x : D) : List D → Nat → Option Nat
  | [], _ => none
  | y :: ys, k => if D.eqv y x then some k else firstAt x ys (k + 1)
def mthD (m : Mt) (w : Wr) (o : D) (as : List D) (st : Store) : Rs D := match m with
  | .append => match o, as with
    | .ref r, [x] => match lstAt st r with
      | some xs => if w.can r && decide (xs.length < 1000000) then some (.ok .non, st.set r (.lst (xs ++ [x]))) else none
      | none => none
    | _, _ => none
  | .extend => match o, as with
    | .ref r, [.ref q] => match lstAt st r, lstAt st q with
      | some xs, some ys => if w.can r && decide (xs.length + ys.length < 1000000) then some (.ok .non, st.set r (.lst (xs ++ ys))) else none
      | _, _ => none
    | _, _ => none
  | .pop => match o, as with
    | .ref r, [] => match lstAt st r with
      | some xs => match xs.getLast? with
        | some x => if w.can r then some (.ok x, st.set r (.lst xs.dropLast)) else none
        | none => none
      | none => none
    | _, _ => none
  | .index => match as with
    | [.str x] => match items st o with
      | some xs => match strs? xs with
        | some _ => match firstAt (.str x) xs 0 with
          | some k => some (.ok (.int k), st)
          | none => none
        | none => none
      | none => none
    | _ => none
  | .join => match o, as with
    | .str z, [a] => match items st a with
      | some xs => match strs? xs with
        | some ss => if z.length * ss.length + (ss.map Str.length).sum ≤ 1000000 then some (.ok (.str (Str.join z ss)), st) else none
        | none => none
      | none => none
    | _, _ => none
  | _ => none
/-- of what kind the receiver has to be -/
def mtRcv (m : Mt) (x : D) : Bool := match m with
  | .append => match x with
    | .ref _ => true
    | _ => false
  | .extend => match x with
    | .ref _ => true
    | _ => false
  | .pop => match x with
    | .ref _ => true
    | _ => false
  | .index => match x with
    | .ref _ => true
    | .tup _ => true
    | _ => false
  | _ => match x with
    | .str _ => true
    | _ => false
def isiD (t : Ty) (st : Store) (d : D) : Option Bool := match t with
  | .tup => match d with
    | .tup _ => some true
    | .rol _ => none
    | .ref r => match lstAt st r with
      | some _ => some false
      | none => none
    | _ => some false
  | .str => match d with
    | .str _ => some true
    | .rol _ => none
    | .ref r => match lstAt st r with
      | some _ => some false
      | none => none
    | _ => some false
  | .int => match d with
    | .int _ => some true
    | .bl _ => some true
    | .rol _ => none
    | .ref r => match lstAt st r with
      | some _ => some false
      | none => none
    | _ => some false
  | .bool => match d with
    | .bl _ => some true
    | .rol _ => none
    | .ref r => match lstAt st r with
      | some _ => some false
      | none => none
    | _ => some false
  | .list => match d with
    | .rol _ => none
    | .ref r => match lstAt st r with
      | some _ => some true
      | none => none
    | _ => some false

/-! ### targets, what is walked -/
def bindL : List Nat → List D → Evn → Option Evn
  | [], [], env => some env
  | i :: is, x :: xs, env => bindL is xs (env.set i (some x))
  | _, _, _ => none
def Tg.bind (g : Tg) (x : D) (env : Evn) : Option Evn := match g with
  | .name i => some (env.set i (some x))
  | .tup is => match x with
    | .tup xs => bindL is xs env
    | _ => none
inductive Src where
  | ds (xs : List D)
  | lr (r : Nat)
def signs (z : Str) : List D := z.cps.toList.map fun c => D.str (oneSign c)
def srcOf (k : Ik) (as : List D) (st : Store) : Option Src := match k with
  | .seq => match as with
    | [.tup xs] => some (.ds xs)
    | [.rol xs] => some (.ds xs)
    | [.str z] => some (.ds (signs z))
    | [.ref r] => match lstAt st r with
      | some _ => some (.lr r)
      | none => none
    | _ => none
  | .range => match range? as with
    | some (a, b) => some (.ds (rngD a b))
    | none => none
  | .rrange => match range? as with
    | some (a, b) => some (.ds (rngD a b).reverse)
    | none => none
  | .zip => match as with
    | [.tup xs, .tup ys] => some (.ds (List.zipWith (fun x y => D.tup [x, y]) xs ys))
    | _ => none
inductive Fl where
  | nx (env : Evn)
  | rt (d : D)
  | bk (env : Evn)
  | ct (env : Evn)
  | ex (x : Exc) (env : Evn)
abbrev Fs := Option (Fl × Store)
def sqn (m : Fs) (f : Evn → Store → Fs) : Fs := match m with
  | some (.nx env, st) => f env st
  | m => m
/-- one turn of a loop, then what comes -/
def turn (m : Fs) (f : Evn → Store → Fs) : Fs := match m with
  | some (.nx env, st) => f env st
  | some (.ct env, st) => f env st
  | some (.bk env, st) => some (.nx env, st)
  | some (.rt d, st) => some (.rt d, st)
  | some (.ex x env, st) => some (.ex x env, st)
  | none => none
def lft (m : Rs D) (env : Evn) (f : D → Store → Fs) : Fs := match m with
  | some (.ok d, st) => f d st
  | some (.ex x, st) => some (.ex x env, st)
  | none => none
def lfts (m : Rs (List D)) (env : Evn) (f : List D → Store → Fs) : Fs := match m with
  | some (.ok d, st) => f d st
  | some (.ex x, st) => some (.ex x env, st)
  | none => none
def forT (body : Evn → Store → Fs) (g : Tg) : List D → Evn → Store → Fs
  | [], env, st => some (.nx env, st)
  | x :: xs, env, st => match g.bind x env with
    | some e1 => turn (body e1 st) (forT body g xs)
    | none => none
def forL (body : Evn → Store → Fs) (g : Tg) (r : Nat) : Nat → Nat → Evn → Store → Fs
  | 0, _, _, _ => none
  | k + 1, i, env, st => match lstAt st r with
    | some xs => match xs[i]? with
      | some x => match g.bind x env with
        | some e1 => turn (body e1 st) (forL body g r k (i + 1))
        | none => none
      | none => some (.nx env, st)
    | none => none
def forSrc (body : Evn → Store → Fs) (g : Tg) (s : Src) (env : Evn) (st : Store) : Fs := match s with
  | .ds xs => forT body g xs env st
  | .lr r => match lstAt st r with
    | some xs => forL body g r (xs.length + 1) 0 env st
    | none => none
def whlN (c : Evn → Store → Rs D) (body : Evn → Store → Fs) : Nat → Evn → Store → Fs
  | 0, _, _ => none
  | k + 1, env, st => lft (c env st) env fun d st1 => match d with
    | .bl true => turn (body env st1) (whlN c body k)
    | .bl false => some (.nx env, st1)
    | _ => none
/-- the comprehension's list at p gets one more item, or none -/
def addTo (p : Nat) (m : Rs (Option D)) (f : Store → Rs D) : Rs D := match m with
  | some (.ok (some y), st) => match lstAt st p with
    | some acc => if acc.length < 1000000 then f (st.set p (.lst (acc ++ [y]))) else none
    | none => none
  | some (.ok none, st) => f st
  | _ => none
def cmpT (f : Evn → Store → Rs (Option D)) (g : Tg) (env : Evn) (p : Nat) : List D → Store → Rs D
  | [], st => some (.ok (.ref p), st)
  | x :: xs, st => match g.bind x env with
    | some e1 => addTo p (f e1 st) (cmpT f g env p xs)
    | none => none
def cmpL (f : Evn → Store → Rs (Option D)) (g : Tg) (env : Evn) (p r : Nat) : Nat → Nat → Store → Rs D
  | 0, _, _ => none
  | k + 1, i, st => match lstAt st r with
    | some xs => match xs[i]? with
      | some x => match g.bind x env with
        | some e1 => addTo p (f e1 st) (cmpL f g env p r k (i + 1))
        | none => none
      | none => some (.ok (.ref p), st)
    | none => none
def cmpSrc (f : Evn → Store → Rs (Option D)) (g : Tg) (env : Evn) (s : Src) (st : Store) : Rs D := match s with
  | .ds xs => cmpT f g env st.length xs (st ++ [.lst []])
  | .lr r => match lstAt st r with
    | some xs => cmpL f g env st.length r (xs.length + 1) 0 (st ++ [.lst []])
    | none => none
def wipeD (env : Evn) : List Nat → Evn
  | [] => env
  | v :: vs => (wipeD env vs).set v none

/-! ### running -/
section
variable (c : Cfg) (cf : Wr → Nat → List D → Store → Rs D) (w : Wr)
mutual
def evE : E → Evn → Store → Rs D
  | .var i, env, st => match env[i]? with
    | some (some d) => some (.ok d, st)
    | _ => none
  | .glb i, _, st => match c.consts[i]? with
    | some d => some (.ok d, st)
    | none => none
  | .cst d, _, st => some (.ok d, st)
  | .bin o a b, env, st => bnd (evE a env st) fun x s1 => bnd (evE b env s1) fun y s2 => binD o x y s2
  | .neg a, env, st => bnd (evE a env st) fun x s1 => match x with
    | .int i => some (.ok (.int (-i)), s1)
    | _ => none
  | .cmp o a b, env, st => bnd (evE a env st) fun x s1 => bnd (evE b env s1) fun y s2 => match cmpD o s2 x y with
    | some k => some (.ok (.bl k), s2)
    | none => none
  | .cmp2 o1 o2 a b e, env, st => bnd (evE a env st) fun x s1 => bnd (evE b env s1) fun y s2 => match cmpD o1 s2 x y with
    | some true => bnd (evE e env s2) fun z s3 => match cmpD o2 s3 y z with
      | some k => some (.ok (.bl k), s3)
      | none => none
    | some false => some (.ok (.bl false), s2)
    | none => none
  | .and es, env, st => evAnd es env st
  | .or es, env, st => evOr es env st
  | .not a, env, st => bnd (evE a env st) fun x s1 => match x with
    | .bl k => some (.ok (.bl (!k)), s1)
    | _ => none
  | .ife e a b, env, st => bnd (evE e env st) fun x s1 => match x with
    | .bl true => evE a env s1
    | .bl false => evE b env s1
    | _ => none
  | .tup es, env, st => bnd (evEs es env st) fun xs s1 => if xs.length ≤ 1000000 then some (.ok (.tup xs), s1) else none
  | .lst es, env, st => bnd (evEs es env st) fun xs s1 => if xs.length ≤ 1000000 then newL s1 xs else none
  | .idx a b, env, st => bnd (evE a env st) fun x s1 => bnd (evE b env s1) fun y s2 => idxD x y s2
  | .slc a lo hi, env, st => bnd (evE a env st) fun x s1 => bnd (evEs lo env s1) fun l s2 => match part? l with
    | some l => bnd (evEs hi env s2) fun h s3 => match part? h with
      | some h => slcO x l h s3
      | none => none
    | none => none
  | .rev a, env, st => bnd (evE a env st) fun x s1 => revD x s1
  | .call f es, env, st => bnd (evEs es env st) fun xs s1 => cf w f xs s1
  | .bi b es, env, st => bnd (evEs es env st) fun xs s1 => biD b xs s1
  | .lrg es, env, st => bnd (evEs es env st) fun xs s1 => match range? xs with
    | some (a, b) => if (b - a).toNat ≤ 1000000 then newL s1 (rngD a b) else none
    | none => none
  | .mth m o es, env, st => bnd (evE o env st) fun x s1 => if mtRcv m x then bnd (evEs es env s1) fun xs s2 => mthD m w x xs s2 else none
  | .isi e t, env, st => bnd (evE e env st) fun x s1 => match isiD t s1 x with
    | some k => some (.ok (.bl k), s1)
    | none => none
  | .comp g k es cs e own, env, st => bnd (evEs es env st) fun xs s1 => match srcOf k xs s1 with
    | some s => cmpSrc (fun e1 s2 => match cs with
        | .nil => bnd (evE e e1 s2) fun d s3 => some (.ok (some d), s3)
        | .cons t .nil => bnd (evE t e1 s2) fun k s3 => match k with
          | .bl true => bnd (evE e e1 s3) fun d s4 => some (.ok (some d), s4)
          | .bl false => some (.ok none, s3)
          | _ => none
        | _ => none) g (wipeD env own) s s1
    | none => none
def evEs : Es → Evn → Store → Rs (List D)
  | .nil, _, st => some (.ok [], st)
  | .cons e es, env, st => bnd (evE e env st) fun x s1 => bnd (evEs es env s1) fun xs s2 => some (.ok (x :: xs), s2)
def evAnd : Es → Evn → Store → Rs D
  | .nil, _, _ => none
  | .cons e .nil, env, st => evE e env st
  | .cons e es, env, st => bnd (evE e env st) fun x s1 => match x with
    | .bl true => evAnd es env s1
    | .bl false => some (.ok (.bl false), s1)
    | _ => none
def evOr : Es → Evn → Store → Rs D
  | .nil, _, _ => none
  | .cons e .nil, env, st => evE e env st
  | .cons e es, env, st => bnd (evE e env st) fun x s1 => match x with
    | .bl false => evOr es env s1
    | .bl true => some (.ok (.bl true), s1)
    | _ => none
end
mutual
def exS : S → Evn → Store → Fs
  | .set i e, env, st => lft (evE c cf w e env st) env fun d s1 => some (.nx (env.set i (some d)), s1)
  | .setT l e, env, st => lft (evE c cf w e env st) env fun d s1 => match (Tg.tup l).bind d env with
    | some e1 => some (.nx e1, s1)
    | none => none
  | .par i j a b, env, st => lft (evE c cf w a env st) env fun x s1 => lft (evE c cf w b env s1) env fun y s2 => some (.nx ((env.set i (some x)).set j (some y)), s2)
  | .setI o i e, env, st => lft (evE c cf w e env st) env fun v s1 => lft (evE c cf w o env s1) env fun x s2 => lft (evE c cf w i env s2) env fun y s3 => match x, y with
    | .ref r, .int k => match lstAt s3 r with
      | some xs => match ixN xs.length k with
        | some j => if w.can r then some (.nx env, s3.set r (.lst (xs.set j v))) else none
        | none => none
      | none => none
    | _, _ => none
  | .ife e a b, env, st => lft (evE c cf w e env st) env fun d s1 => match d with
    | .bl true => exSs a env s1
    | .bl false => exSs b env s1
    | _ => none
  | .forS g k es b, env, st => lfts (evEs c cf w es env st) env fun xs s1 => match srcOf k xs s1 with
    | some s => forSrc (exSs b) g s env s1
    | none => none
  | .whl e b, env, st => whlN (evE c cf w e) (exSs b) c.wf env st
  | .ret e, env, st => lft (evE c cf w e env st) env fun d s1 => some (.rt d, s1)
  | .retN, _, st => some (.rt .non, st)
  | .expr e, env, st => lft (evE c cf w e env st) env fun _ s1 => some (.nx env, s1)
  | .brk, env, st => some (.bk env, st)
  | .cont, env, st => some (.ct env, st)
  | .pass, env, st => some (.nx env, st)
def exSs : Ss → Evn → Store → Fs
  | .nil, env, st => some (.nx env, st)
  | .cons s ss, env, st => sqn (exS s env st) (exSs ss)
end
end
def loO (n : Nat) : O → Bool
  | .lst xs => D.los n xs
/-- of what was handed in, what may have changed -/
def upds (st st1 : Store) : List Nat → Option Store
  | [] => some st
  | r :: rs => match st1[r]? with
    | some o => if loO st.length o then upds (st.set r o) st1 rs else none
    | none => none
/-- what a function hands back; what it laid besides goes -/
def leave (st : Store) (oks : List Nat) : Fs → Rs D
  | some (.nx _, st1) => match upds st st1 oks with
    | some s2 => some (.ok .non, s2)
    | none => none
  | some (.rt d, st1) => match upds st st1 oks with
    | some s2 => if d.lo st.length then some (.ok d, s2) else match d with
      | .ref r => match st1[r]? with
        | some o => if loO st.length o then some (.ok (.ref st.length), s2 ++ [o]) else none
        | none => none
      | _ => none
    | none => none
  | some (.ex x _, st1) => match upds st st1 oks with
    | some s2 => if D.los st.length x.args then some (.ex x, s2) else none
    | none => none
  | _ => none
def leaveR : Fs → Rs D
  | some (.nx _, st1) => some (.ok .non, st1)
  | some (.rt d, st1) => some (.ok d, st1)
  | some (.ex x _, st1) => some (.ex x, st1)
  | _ => none
def refsAt (as : List D) : List Nat → Option (List Nat)
  | [] => some []
  | p :: ps => match as[p]? with
    | some (.ref r) => match refsAt as ps with
      | some l => some (r :: l)
      | none => none
    | _ => none
def envOf (fn : Fn) (as : List D) : Evn := as.map some ++ List.replicate (fn.nl - fn.np) none
def callI (c : Cfg) : Nat → Wr → Nat → List D → Store → Rs D
  | 0, _, _, _, _ => none
  | n + 1, w, f, as, st => match c.fns[f]? with
    | none => none
    | some fn => if as.length = fn.np then match fn.kind with
        | .raw => leaveR (exSs c (callI c n) w fn.body (envOf fn as) st)
        | .mut ps => match refsAt as ps with
          | some oks => if oks.all w.can && oks.all (fun r => decide (r < st.length)) then leave st oks (exSs c (callI c n) ⟨st.length, oks⟩ fn.body (envOf fn as) st) else none
          | none => none
      else none
end Iv
end
section
set_option Elab.async false
set_option linter.all false
set_option maxRecDepth 100000
/-! IvRel: how our data lie in the hand layer's abstract heap. -/
namespace Iv
open PySem PySem.Spec PyProof.Rows L2

/-- where the store's objects lie -/
abbrev Mp := List Addr
/-- a tuple that is known to its object -/
def TupZ (K : PySem.W.Frag) (H : Hp) (a : Addr) (vs : List V) : Prop :=
  (∃ o : Obj, H a = some (.frz o (.tup vs)) ∧ o.cls = .type "tuple" ∧ o.dict = none) ∨
    ∃ (o : Obj) (its : Array Value) (n : Nat), K.lookup a = some o ∧ o.cls = .type "tuple" ∧ o.dict = none ∧ o.data = .seq its n ∧ its.size ≤ sizeLine ∧ Vals vs its.toList
def RolZ (K : PySem.W.Frag) (H : Hp) (a : Addr) (vs : List V) : Prop :=
  (∃ o : Obj, H a = some (.frz o (.lst vs))) ∨
    ∃ (o : Obj) (its : Array Value) (n : Nat), K.lookup a = some o ∧ o.cls = .type "list" ∧ o.dict = none ∧ o.data = .seq its n ∧ its.size ≤ sizeLine ∧ Vals vs its.toList
theorem TupZ.sq {K : PySem.W.Frag} {H : Hp} {a : Addr} {vs : List V} (h : TupZ K H a vs) : SqT K H a vs := by
  rcases h with ⟨o, e, _⟩ | ⟨o, its, n, k, c, d, e, z, r⟩
  · exact .inl (.inr ⟨o, e⟩)
  · exact .inr ⟨o, its, n, k, c, e, z, r⟩
theorem RolZ.sq {K : PySem.W.Frag} {H : Hp} {a : Addr} {vs : List V} (h : RolZ K H a vs) : SqL K H a vs := by
  rcases h with ⟨o, e⟩ | ⟨o, its, n, k, c, d, e, z, r⟩
  · exact .inl (.inr ⟨o, e⟩)
  · exact .inr ⟨o, its, n, k, c, d, e, z, r⟩
mutual
inductive RD (K : PySem.W.Frag) (m : Mp) (H : Hp) : V → D → Prop
  | non : RD K m H .non .non
  | bl (b : Bool) : RD K m H (.bl b) (.bl b)
  | int (i : Int) : RD K m H (.int i) (.int i)
  | str (s : Str) : RD K m H (.str s) (.str s)
  | tup {a : Addr} {vs : List V} {xs : List D} : TupZ K H a vs → RDs K m H vs xs → RD K m H (.ref a) (.tup xs)
  | rol {a : Addr} {vs : List V} {xs : List D} : RolZ K H a vs → RDs K m H vs xs → RD K m H (.ref a) (.rol xs)
  | ref {r : Nat} {a : Addr} : m[r]? = some a → RD K m H (.ref a) (.ref r)
inductive RDs (K : PySem.W.Frag) (m : Mp) (H : Hp) : List V → List D → Prop
  | nil : RDs K m H [] []
  | cons {v : V} {d : D} {vs : List V} {ds : List D} : RD K m H v d → RDs K m H vs ds → RDs K m H (v :: vs) (d :: ds)
end
def RO (K : PySem.W.Frag) (m : Mp) (H : Hp) (a : Addr) : O → Prop
  | .lst xs => ∃ vs, H a = some (.lst vs) ∧ RDs K m H vs xs
structure RSt (K : PySem.W.Frag) (m : Mp) (st : Store) (H : Hp) : Prop where
  len : m.length = st.length
  nd : m.Nodup
  at_ : ∀ (r : Nat) (a : Addr) (o : O), m[r]? = some a → st[r]? = some o → RO K m H a o
/-- what stays through all that runs -/
def Tx (H H' : Hp) : Prop := ∀ b o u, H b = some (.frz o u) → H' b = some (.frz o u)
def Ext (m m' : Mp) : Prop := ∀ (r : Nat) (a : Addr), m[r]? = some a → m'[r]? = some a
theorem Tx.refl (H : Hp) : Tx H H := fun _ _ _ h => h
theorem Tx.trans {H H1 H2 : Hp} (a : Tx H H1) (b : Tx H1 H2) : Tx H H2 := fun c o u h => b c o u (a c o u h)
theorem Ext.refl (m : Mp) : Ext m m := fun _ _ h => h
theorem Ext.trans {m m1 m2 : Mp} (a : Ext m m1) (b : Ext m1 m2) : Ext m m2 := fun r c h => b r c (a r c h)
theorem Ext.app (m l : Mp) : Ext m (m ++ l) := fun r a h => by
  obtain ⟨hr, _⟩ := List.getElem?_eq_some_iff.mp h
  rw [List.getElem?_append_left hr]
  exact h
theorem Tx.new {H : Hp} {p : Addr} {o : HO} (h : H p = none) : Tx H (upd H p o) := fun b ob u e => by
  rw [upd_ne (ne_of_none e h)]
  exact e
theorem Tx.lst {H : Hp} {p : Addr} {vs : List V} {o : HO} (h : H p = some (.lst vs)) : Tx H (upd H p o) := fun b ob u e => by
  rw [upd_ne (ne_of e h (by intro z; cases z))]
  exact e
section
variable {K : PySem.W.Frag} {m m' : Mp} {H H' : Hp} {st st' : Store}
theorem TupZ.mono {a : Addr} {vs : List V} (t : Tx H H') (h : TupZ K H a vs) : TupZ K H' a vs := by
  rcases h with ⟨o, e, r⟩ | h
  · exact .inl ⟨o, t _ _ _ e, r⟩
  · exact .inr h
theorem RolZ.mono {a : Addr} {vs : List V} (t : Tx H H') (h : RolZ K H a vs) : RolZ K H' a vs := by
  rcases h with ⟨o, e⟩ | h
  · exact .inl ⟨o, t _ _ _ e⟩
  · exact .inr h
mutual
theorem RD.mono (x : Ext m m') (t : Tx H H') : ∀ {v : V} {d : D}, RD K m H v d → RD K m' H' v d
  | _, _, .non => .non
  | _, _, .bl b => .bl b
  | _, _, .int i => .int i
  | _, _, .str s => .str s
  | _, _, .tup h r => .tup (h.mono t) (RDs.mono x t r)
  | _, _, .rol h r => .rol (h.mono t) (RDs.mono x t r)
  | _, _, .ref h => .ref (x _ _ h)
theorem RDs.mono (x : Ext m m') (t : Tx H H') : ∀ {vs : List V} {ds : List D}, RDs K m H vs ds → RDs K m' H' vs ds
  | _, _, .nil => .nil
  | _, _, .cons h r => .cons (RD.mono x t h) (RDs.mono x t r)
end
theorem RDs.length : ∀ {vs : List V} {ds : List D}, RDs K m H vs ds → vs.length = ds.length
  | _, _, .nil => rfl
  | _, _, .cons _ r => congrArg (· + 1) (RDs.length r)
theorem RDs.append : ∀ {vs ws : List V} {ds es : List D}, RDs K m H vs ds → RDs K m H ws es → RDs K m H (vs ++ ws) (ds ++ es)
  | _, _, _, _, .nil, s => s
  | _, _, _, _, .cons h r, s => .cons h (RDs.append r s)
theorem RDs.get : ∀ {vs : List V} {ds : List D} {i : Nat} {d : D}, RDs K m H vs ds → ds[i]? = some d → ∃ v, vs[i]? = some v ∧ RD K m H v d
  | _, _, _, _, .nil, e => by simp at e
  | _, _, 0, _, .cons h _, e => by
    simp at e
    subst e
    exact ⟨_, rfl, h⟩
  | _, _, i + 1, d, .cons _ r, e => by
    obtain ⟨v, h1, h2⟩ := RDs.get (i := i) r (by simpa using e)
    exact ⟨v, by simpa using h1, h2⟩
theorem RDs.getV : ∀ {vs : List V} {ds : List D} {i : Nat} {v : V}, RDs K m H vs ds → vs[i]? = some v → ∃ d, ds[i]? = some d ∧ RD K m H v d
  | _, _, _, _, .nil, e => by simp at e
  | _, _, 0, _, .cons h _, e => by
    simp at e
    subst e
    exact ⟨_, rfl, h⟩
  | _, _, i + 1, d, .cons _ r, e => by
    obtain ⟨v, h1, h2⟩ := RDs.getV (i := i) r (by simpa using e)
    exact ⟨v, by simpa using h1, h2⟩
theorem RDs.take : ∀ {vs : List V} {ds : List D} (n : Nat), RDs K m H vs ds → RDs K m H (vs.take n) (ds.take n)
  | _, _, 0, _ => .nil
  | _, _, _ + 1, .nil => .nil
  | _, _, n + 1, .cons h r => .cons h (RDs.take n r)
theorem RDs.drop : ∀ {vs : List V} {ds : List D} (n : Nat), RDs K m H vs ds → RDs K m H (vs.drop n) (ds.drop n)
  | _, _, 0, r => r
  | _, _, n + 1, .nil => .nil
  | _, _, n + 1, .cons _ r => RDs.drop n r
theorem RDs.set : ∀ {vs : List V} {ds : List D} {v : V} {d : D} (i : Nat), RDs K m H vs ds → RD K m H v d → RDs K m H (vs.set i v) (ds.set i d)
  | _, _, _, _, _, .nil, _ => .nil
  | _, _, _, _, 0, .cons _ r, h => .cons h r
  | _, _, _, _, i + 1, .cons h r, k => .cons h (RDs.set i r k)
theorem RDs.dropLast {vs : List V} {ds : List D} (r : RDs K m H vs ds) : RDs K m H vs.dropLast ds.dropLast := by
  rw [List.dropLast_eq_take, List.dropLast_eq_take, r.length]
  exact r.take _
theorem RDs.one {v : V} {d : D} (h : RD K m H v d) : RDs K m H [v] [d] := .cons h .nil
theorem RDs.reverse : ∀ {vs : List V} {ds : List D}, RDs K m H vs ds → RDs K m H vs.reverse ds.reverse
  | _, _, .nil => .nil
  | _, _, .cons h r => by
    rw [List.reverse_cons, List.reverse_cons]
    exact (RDs.reverse r).append (.one h)
theorem RDs.ints : ∀ ns : List Int, RDs K m H (ns.map V.int) (ns.map D.int)
  | [] => .nil
  | n :: ns => .cons (.int n) (RDs.ints ns)
theorem RDs.strs : ∀ ns : List Str, RDs K m H (ns.map V.str) (ns.map D.str)
  | [] => .nil
  | n :: ns => .cons (.str n) (RDs.strs ns)
theorem RDs.intsV : ∀ {vs : List V} {ds : List D} {ns : List Int}, RDs K m H vs ds → ints? ds = some ns → vs = ns.map V.int
  | _, _, _, .nil, e => by
    cases e
    rfl
  | _, _, _, .cons h r, e => by
    cases h <;> simp only [ints?] at e <;> try cases e
    split at e
    · cases e
      rename_i l hl
      rw [RDs.intsV r hl]
      rfl
    · cases e
theorem RDs.strsV : ∀ {vs : List V} {ds : List D} {ns : List Str}, RDs K m H vs ds → strs? ds = some ns → vs = ns.map V.str
  | _, _, _, .nil, e => by
    cases e
    rfl
  | _, _, _, .cons h r, e => by
    cases h <;> simp only [strs?] at e <;> try cases e
    split at e
    · cases e
      rename_i l hl
      rw [RDs.strsV r hl]
      rfl
    · cases e
theorem RDs.blsV : ∀ {vs : List V} {ds : List D} {ns : List Bool}, RDs K m H vs ds → bls? ds = some ns → vs = ns.map V.bl
  | _, _, _, .nil, e => by
    cases e
    rfl
  | _, _, _, .cons h r, e => by
    cases h <;> simp only [bls?] at e <;> try cases e
    split at e
    · cases e
      rename_i l hl
      rw [RDs.blsV r hl]
      rfl
    · cases e
mutual
theorem RD.lo (h : m.length = n) : ∀ {v : V} {d : D}, RD K m H v d → d.lo n = true
  | _, _, .non => rfl
  | _, _, .bl b => rfl
  | _, _, .int i => rfl
  | _, _, .str s => rfl
  | _, _, .tup _ r => RDs.lo h r
  | _, _, .rol _ r => RDs.lo h r
  | _, _, .ref e => by
    obtain ⟨hr, _⟩ := List.getElem?_eq_some_iff.mp e
    exact decide_eq_true (h ▸ hr)
theorem RDs.lo (h : m.length = n) : ∀ {vs : List V} {ds : List D}, RDs K m H vs ds → D.los n ds = true
  | _, _, .nil => rfl
  | _, _, .cons a r => by
    show (_ && _) = true
    rw [RD.lo h a, RDs.lo h r]
    rfl
end
mutual
/-- a datum without references beyond n stands as well by any other map that is alike up to n -/
theorem RD.cut {n : Nat} (h : ∀ r, r < n → m'[r]? = m[r]?) : ∀ {v : V} {d : D}, RD K m H v d → d.lo n = true → RD K m' H v d
  | _, _, .non, _ => .non
  | _, _, .bl b, _ => .bl b
  | _, _, .int i, _ => .int i
  | _, _, .str s, _ => .str s
  | _, _, .tup t r, l => .tup t (RDs.cut h r l)
  | _, _, .rol t r, l => .rol t (RDs.cut h r l)
  | _, _, .ref e, l => .ref (by rw [h _ (of_decide_eq_true l)]; exact e)
theorem RDs.cut {n : Nat} (h : ∀ r, r < n → m'[r]? = m[r]?) : ∀ {vs : List V} {ds : List D}, RDs K m H vs ds → D.los n ds = true → RDs K m' H vs ds
  | _, _, .nil, _ => .nil
  | _, _, .cons a r, l => by
    have l' := Bool.and_eq_true_iff.mp (show (_ && _) = true from l)
    exact .cons (RD.cut h a l'.1) (RDs.cut h r l'.2)
end
theorem RO.mono {a : Addr} {o : O} (x : Ext m m') (t : Tx H H') (k : ∀ vs, H a = some (.lst vs) → H' a = some (.lst vs)) (h : RO K m H a o) : RO K m' H' a o := by
  cases o with
  | lst xs =>
    obtain ⟨vs, e, r⟩ := h
    exact ⟨vs, k _ e, r.mono x t⟩
theorem RSt.there (R : RSt K m st H) {r : Nat} {o : O} (h : st[r]? = some o) : ∃ a, m[r]? = some a ∧ RO K m H a o := by
  obtain ⟨hr, _⟩ := List.getElem?_eq_some_iff.mp h
  have hm : r < m.length := by rw [R.len]; exact hr
  exact ⟨m[r], List.getElem?_eq_getElem hm, R.at_ r _ o (List.getElem?_eq_getElem hm) h⟩
theorem RSt.lst (R : RSt K m st H) {r : Nat} {a : Addr} {xs : List D} (h : lstAt st r = some xs) (ha : m[r]? = some a) : ∃ vs, H a = some (.lst vs) ∧ RDs K m H vs xs := by
  unfold lstAt at h
  split at h
  · rename_i ys e
    cases h
    exact R.at_ r a _ ha e
  · cases h
theorem lstAt_some {r : Nat} {xs : List D} (h : lstAt st r = some xs) : st[r]? = some (.lst xs) := by
  unfold lstAt at h
  split at h
  · rename_i ys e
    cases h
    exact e
  · cases h
theorem RSt.tracked (R : RSt K m st H) {a : Addr} (h : a ∈ m) : ∃ vs, H a = some (.lst vs) := by
  obtain ⟨r, hr, e⟩ := List.mem_iff_getElem.mp h
  have hs : r < st.length := by rw [← R.len]; exact hr
  have z := R.at_ r a st[r] (by rw [List.getElem?_eq_getElem hr, e]) (List.getElem?_eq_getElem hs)
  cases q : st[r] with
  | lst xs =>
    rw [q] at z
    obtain ⟨vs, e, _⟩ := z
    exact ⟨vs, e⟩
theorem RSt.fresh (R : RSt K m st H) {p : Addr} (h : H p = none) : p ∉ m := fun hm => by
  obtain ⟨vs, e⟩ := R.tracked hm
  rw [h] at e
  cases e
/-- the heap grows by a tuple, or by what isn't the store's -/
theorem RSt.grow (R : RSt K m st H) (t : Tx H H') (k : ∀ a vs, H a = some (.lst vs) → a ∈ m → H' a = some (.lst vs)) : RSt K m st H' :=
  ⟨R.len, R.nd, fun r a o ha ho => (R.at_ r a o ha ho).mono (Ext.refl m) t fun vs e => k a vs e (List.mem_of_getElem? ha)⟩
theorem RSt.new_other (R : RSt K m st H) {p : Addr} {o : HO} (h : H p = none) : RSt K m st (upd H p o) :=
  R.grow (Tx.new h) fun a vs e _ => by
    rw [upd_ne (ne_of_none e h)]
    exact e
/-- a new list -/
theorem RSt.new (R : RSt K m st H) {p : Addr} {vs : List V} {xs : List D} (h : H p = none) (r : RDs K m H vs xs) : RSt K (m ++ [p]) (st ++ [.lst xs]) (upd H p (.lst vs)) := by
  have x := Ext.app m [p]
  have t : Tx H (upd H p (.lst vs)) := Tx.new h
  refine ⟨by rw [List.length_append, List.length_append, R.len] <;> rfl, ?_, fun i a o ha ho => ?_⟩
  · rw [List.nodup_append]
    refine ⟨R.nd, by simp, fun a ha b hb e => ?_⟩
    have hb' : b = p := by simpa using hb
    subst hb' e
    exact R.fresh h ha
  · by_cases hi : i < m.length
    · rw [List.getElem?_append_left hi] at ha
      rw [List.getElem?_append_left (by rw [← R.len]; exact hi)] at ho
      refine (R.at_ i a o ha ho).mono x t fun ws e => ?_
      rw [upd_ne (ne_of_none e h)]
      exact e
    · have hi2 : m.length ≤ i := Nat.le_of_not_lt hi
      rw [List.getElem?_append_right hi2] at ha
      rw [List.getElem?_append_right (by rw [← R.len]; exact hi2), ← R.len] at ho
      have e0 : i - m.length = 0 := by
        have := (List.getElem?_eq_some_iff.mp ha).1
        simp only [List.length_cons, List.length_nil] at this
        omega
      rw [e0] at ha ho
      have ea : p = a := by simpa using ha
      have eo : O.lst xs = o := by simpa using ho
      subst ea eo
      exact ⟨vs, upd_same, r.mono x t⟩
/-- a list changed -/
theorem RSt.set (R : RSt K m st H) {r : Nat} {a : Addr} {ws vs : List V} {xs : List D} (ha : m[r]? = some a) (hw : H a = some (.lst ws)) (q : RDs K m H vs xs) : RSt K m (st.set r (.lst xs)) (upd H a (.lst vs)) := by
  have t : Tx H (upd H a (.lst vs)) := Tx.lst hw
  refine ⟨by rw [List.length_set]; exact R.len, R.nd, fun i b o hb ho => ?_⟩
  by_cases hi : i = r
  · subst hi
    rw [ha] at hb
    cases hb
    have hs : i < st.length := by
      rw [← R.len]
      exact (List.getElem?_eq_some_iff.mp ha).1
    rw [List.getElem?_set_self hs] at ho
    cases ho
    exact ⟨vs, upd_same, q.mono (Ext.refl m) t⟩
  · rw [List.getElem?_set_ne (Ne.symm hi)] at ho
    have ne : b ≠ a := fun e => by
      subst e
      obtain ⟨h1, e1⟩ := List.getElem?_eq_some_iff.mp ha
      obtain ⟨h2, e2⟩ := List.getElem?_eq_some_iff.mp hb
      exact hi ((List.getElem_inj R.nd).mp (e2.trans e1.symm))
    refine (R.at_ i b o hb ho).mono (Ext.refl m) t fun us e => ?_
    rw [upd_ne ne]
    exact e
theorem RD.inv_ref {v : V} {r : Nat} (h : RD K m H v (.ref r)) : ∃ a, v = .ref a ∧ m[r]? = some a := by
  cases h with
  | ref e => exact ⟨_, rfl, e⟩
/-- the items of a datum that is a list or tuple -/
theorem RD.items (R : RSt K m st H) {v : V} {d : D} {xs : List D} (h : RD K m H v d) (e : items st d = some xs) :
    ∃ a vs, v = .ref a ∧ RDs K m H vs xs ∧ (SqL K H a vs ∨ TupZ K H a vs) := by
  cases h with
  | non => cases e
  | bl => cases e
  | int => cases e
  | str => cases e
  | @tup a vs ys t r =>
    have e' : ys = xs := Option.some.inj e
    subst e'
    exact ⟨a, vs, rfl, r, .inr t⟩
  | @rol a vs ys t r =>
    have e' : ys = xs := Option.some.inj e
    subst e'
    exact ⟨a, vs, rfl, r, .inl t.sq⟩
  | @ref r a ha =>
    obtain ⟨vs, h1, h2⟩ := R.lst (r := r) (xs := xs) e ha
    exact ⟨a, vs, rfl, h2, .inl (SqL.of h1)⟩
end
/-! ### from our data to the kit's, for == -/
mutual
def D.pd : D → PyData
  | .non => .none
  | .bl b => .bool b
  | .int i => .int i
  | .str s => .str s
  | .tup xs => .tuple (D.pds xs)
  | .rol _ => .none
  | .ref _ => .none
def D.pds : List D → List PyData
  | [] => []
  | x :: xs => D.pd x :: D.pds xs
end
section
variable {K : PySem.W.Frag} {m m' : Mp} {H H' : Hp} {st st' : Store}
mutual
theorem RD.dp : ∀ {v : V} {d : D}, RD K m H v d → d.pur = true → Dp K H v d.pd
  | _, _, .non, _ => .non
  | _, _, .bl b, _ => .bl b
  | _, _, .int i, _ => .int i
  | _, _, .str s, _ => .str s
  | _, _, .tup t r, l => .tup t.sq (RDs.dp r l)
  | _, _, .rol t r, l => nomatch l
  | _, _, .ref e, l => nomatch l
theorem RDs.dp : ∀ {vs : List V} {ds : List D}, RDs K m H vs ds → D.purs ds = true → DpAll K H vs (D.pds ds)
  | _, _, .nil, _ => .nil
  | _, _, .cons a r, l => by
    have l' := Bool.and_eq_true_iff.mp (show (_ && _) = true from l)
    exact .cons (RD.dp a l'.1) (RDs.dp r l'.2)
end
end
end Iv
end
section
set_option Elab.async false
set_option linter.all false
set_option maxRecDepth 100000
/-! IvOps: the operations by values. -/
namespace Iv
open PySem PySem.Spec PyProof.Rows L2

def PostD (K : PySem.W.Frag) (m : Mp) (H : Hp) (st' : Store) (d : D) (Q : VK) : Prop :=
  ∀ (v : V) (H' : Hp) (m' : Mp), Ext m m' → Tx H H' → RSt K m' st' H' → RD K m' H' v d → Q v H'
def rD2 (K : PySem.W.Frag) (f : D → D → Store → Rs D) : R2 := fun vx vy H Q =>
  ∃ (m : Mp) (st : Store) (x y d : D) (st' : Store), RSt K m st H ∧ RD K m H vx x ∧ RD K m H vy y ∧ f x y st = some (.ok d, st') ∧ PostD K m H st' d Q
def rDn (K : PySem.W.Frag) (f : List D → Store → Rs D) : List V → Hp → VK → Prop := fun vs H Q =>
  ∃ (m : Mp) (st : Store) (xs : List D) (d : D) (st' : Store), RSt K m st H ∧ RDs K m H vs xs ∧ f xs st = some (.ok d, st') ∧ PostD K m H st' d Q
def rDm (K : PySem.W.Frag) (f : D → List D → Store → Rs D) : V → List V → Hp → VK → Prop := fun vx vs H Q =>
  ∃ (m : Mp) (st : Store) (x : D) (xs : List D) (d : D) (st' : Store), RSt K m st H ∧ RD K m H vx x ∧ RDs K m H vs xs ∧ f x xs st = some (.ok d, st') ∧ PostD K m H st' d Q
section
variable {K : PySem.W.Frag} {m : Mp} {H : Hp} {st st' : Store} {d : D} {Q : VK}
theorem PostD.now (q : PostD K m H st d Q) (R : RSt K m st H) {v : V} (r : RD K m H v d) : Q v H := q v H m (Ext.refl m) (Tx.refl H) R r
/-- a new list -/
theorem PostD.newL (R : RSt K m st H) {xs : List D} {vs : List V} (r : RDs K m H vs xs) (e : Iv.newL st xs = some (.ok d, st')) (q : PostD K m H st' d Q) : ∀ p, H p = none → Q (.ref p) (upd H p (.lst vs)) := fun p hp => by
  cases e
  refine q _ _ (m ++ [p]) (Ext.app m [p]) (Tx.new hp) (R.new hp r) (.ref ?_)
  rw [← R.len, List.getElem?_append_right (Nat.le_refl _), Nat.sub_self]
  rfl
/-- a new tuple -/
theorem PostD.newT (R : RSt K m st H) {xs : List D} {vs : List V} (r : RDs K m H vs xs) (q : PostD K m H st (.tup xs) Q) : ∀ (p : Addr) (o : Obj), H p = none → o.cls = .type "tuple" → o.dict = none → Q (.ref p) (upd H p (.frz o (.tup vs))) := fun p o hp hc hd => by
  have t : Tx H (upd H p (.frz o (.tup vs))) := Tx.new hp
  exact q _ _ m (Ext.refl m) t (R.new_other hp) (.tup (.inl ⟨o, upd_same, hc, hd⟩) (r.mono (Ext.refl m) t))
end
section
variable {X : Cx}
/-! ### tuples, known to their objects -/
theorem laidZ {pins : List (Addr × Obj)} {σ : L2.St} {H : Hp} {s : Shared} {vs : List V} {its : List Value} {k : Nat} (I : Inv X pins σ H s) (r : Vals vs its) (hz : vs.length ≤ sizeLine) :
    Inv X pins σ (upd H s.heap.objs.size (.frz { cls := .type "tuple", data := .seq its.toArray } (.tup vs))) { s with heap := s.heap.push { cls := .type "tuple", data := .seq its.toArray }, toks := k } :=
  I.laid (t' := k) (o := .frz { cls := .type "tuple", data := .seq its.toArray } (.tup vs)) (fun b ob q => Heap.get?_push_of_some _ q) (Nat.le_refl _)
    ⟨Heap.get?_push_size _ rfl, hz, its, r, IsTup.new _ _⟩
def NewZ (H : Hp) (vs : List V) (Q : VK) : Prop := ∀ (p : Addr) (o : Obj), H p = none → o.cls = .type "tuple" → o.dict = none → Q (.ref p) (upd H p (.frz o (.tup vs)))
def tTupZ (t : TA) : TE := fun σ H Q => t σ H fun vs H1 => vs.length ≤ sizeLine ∧ NewZ H1 vs Q
theorem pe_tupZ {es : List Expr} {t : TA} {pos : Pos} {x1} (h : PA X es t) : PE X (.Tuple es x1 pos) (tTupZ t) := by
  refine ⟨fun pins s σ H Q I hq => ?_⟩
  refine wpAny_Tuple_spliced (L2.thn (h.run pos pins s σ H _ I hq) fun us s1 ⟨xs, H1, I1, r, z, q⟩ => ⟨by rw [← r.length]; exact z, ?_⟩)
  exact ⟨.ref s1.heap.objs.size, _, laidZ (k := s1.toks) I1 r z, rfl, q _ _ (I1.hok.fresh (Nat.le_refl _)) rfl rfl⟩
theorem call_tupleZ : CallR X (.type "tuple") (fun xs H Q => ∃ p ys, xs = [.ref p] ∧ ((SqL X.K H p ys ∧ NewZ H ys Q) ∨ (SqT X.K H p ys ∧ Q (.ref p) H))) := by
  intro pins s σ H xs us Q I r h
  obtain ⟨p, ys, rfl, h⟩ := h
  obtain ⟨u, rfl, rx⟩ := vals1 r
  cases rx
  rcases h with ⟨hq, q⟩ | ⟨hq, q⟩
  · obtain ⟨its, r', pl, hz⟩ := I.list hq
    have hlen := r'.length
    refine call_tuple_list pl.isList (fun h' kp => ?_) (by simp only [List.size_toArray] <;> omega)
    have I1 : Inv X pins σ H { s with heap := h' } := I.kept (t' := s.toks) kp
    exact ⟨.ref h'.objs.size, _, laidZ (k := s.toks) I1 r' hz, rfl, q _ _ (I1.hok.fresh (Nat.le_refl _)) rfl rfl⟩
  · obtain ⟨its, r', pl, hz⟩ := I.tuple hq
    exact call_tuple_same pl ⟨.ref p, H, I, rfl, q⟩
theorem op_catZ : OpR X (binaryOp .Add) (fun x y H Q => ∃ a b xs ys, x = .ref a ∧ y = .ref b ∧ SqT X.K H a xs ∧ SqT X.K H b ys ∧ xs.length + ys.length ≤ sizeLine ∧
    (xs = [] → Q (.ref b) H) ∧ (xs ≠ [] → ys = [] → Q (.ref a) H) ∧ (xs ≠ [] → ys ≠ [] → NewZ H (xs ++ ys) Q)) := by
  intro pins s σ H x y v u Q I rx ry h
  obtain ⟨a, b, xs, ys, rfl, rfl, ha, hb, hz, q0, q1, q2⟩ := h
  cases rx
  cases ry
  obtain ⟨its, r1, p1, _⟩ := I.tuple ha
  obtain ⟨its2, r2, p2, _⟩ := I.tuple hb
  by_cases hx : xs = []
  · subst hx
    cases r1
    exact cat_tup0 p1 p2 ⟨.ref b, H, I, rfl, q0 rfl⟩
  · refine HT.cat_tup p1 p2 (fun z => hx (r1.nil_iff.mp z)) (fun z => ⟨.ref a, H, I, rfl, q1 hx (r2.nil_iff.mp z)⟩) (fun z => ?_) (by rw [← r1.length, ← r2.length]; exact hz)
    exact ⟨.ref s.heap.objs.size, _, laidZ (k := s.toks) I (r1.append r2) (by rw [List.length_append]; exact hz), rfl, q2 hx (fun w => z (r2.nil_iff.mpr w)) _ _ (I.hok.fresh (Nat.le_refl _)) rfl rfl⟩
theorem sl_tupZ : SlR X (fun x lo hi H Q => ∃ a xs, x = .ref a ∧ SqT X.K H a xs ∧
    (HT.sIx xs.length 0 lo = 0 ∧ HT.sIx xs.length xs.length hi = xs.length → Q (.ref a) H) ∧ (¬ (HT.sIx xs.length 0 lo = 0 ∧ HT.sIx xs.length xs.length hi = xs.length) → NewZ H (cutV xs lo hi) Q)) := by
  intro pins s σ H x v vl vu lo hi sl Q I rx hs pl pu h
  obtain ⟨a, xs, rfl, hx, q1, q2⟩ := h
  cases rx
  obtain ⟨its, r, ht, hz⟩ := I.tuple hx
  have hlen : its.toArray.size = xs.length := by rw [List.size_toArray]; exact r.length.symm
  by_cases hw : HT.sIx xs.length 0 lo = 0 ∧ HT.sIx xs.length xs.length hi = xs.length
  · refine ⟨"tuple", _, PyProof.Rows.slot_tuple_getitem.lookup, ht.typeIs, ?_⟩
    exact getItem_tuple_whole ht hs pl pu (by rw [hlen]; exact hw) ⟨.ref a, H, I, rfl, q1 hw⟩
  · refine ⟨"tuple", _, PyProof.Rows.slot_tuple_getitem.lookup, ht.typeIs, ?_⟩
    refine HT.getItem_tuple_cut ht hs pl pu (by rw [hlen]; exact hw) ?_ (by rw [hlen]; exact hz)
    rw [hlen]
    exact ⟨.ref s.heap.objs.size, _, laidZ (k := s.toks) I ((r.drop (HT.sIx xs.length 0 lo)).take (HT.sIx xs.length xs.length hi - HT.sIx xs.length 0 lo)) (Nat.le_trans (cutV_length xs lo hi) hz), rfl, q2 hw _ _ (I.hok.fresh (Nat.le_refl _)) rfl rfl⟩

/-! ### binary operations -/
def bop : Bop → Operator
  | .add => .Add | .sub => .Sub | .mul => .Mult | .fdiv => .FloorDiv | .mod => .Mod | .pow => .Pow | .shl => .LShift | .shr => .RShift | .band => .BitAnd | .bor => .BitOr
theorem sz1 {n : Nat} (h : n ≤ 1000000) : n ≤ sizeLine := Nat.le_trans h (by decide)
theorem small64_of {i : Int} (h : small64 i = true) : -(2 ^ 64) < i ∧ i < 2 ^ 64 := by
  unfold small64 at h
  rw [Bool.and_eq_true, decide_eq_true_eq, decide_eq_true_eq] at h
  omega
theorem natAbs64 {i : Int} (h : small64 i = true) : i.natAbs < 2 ^ 64 := by
  have z := small64_of h
  omega
theorem op_bin (o : Bop) : OpR X (binaryOp (bop o)) (rD2 X.K (binD o)) := by
  intro pins s σ H vx vy v u Q I rx ry h
  obtain ⟨m, st, x, y, d, st', R, hx, hy, e, q⟩ := h
  cases o with
  | add =>
    cases hx with
    | int i =>
      cases hy with
      | int j =>
        cases e
        exact op_add pins s σ H _ _ v u Q I rx ry ⟨i, j, rfl, rfl, q.now R (.int _)⟩
      | _ => cases e
    | str a =>
      cases hy with
      | str b =>
        simp only [binD] at e
        split at e
        · rename_i hz
          cases e
          exact op_add_str pins s σ H _ _ v u Q I rx ry ⟨a, b, rfl, rfl, sz1 hz, q.now R (.str _)⟩
        · cases e
      | _ => cases e
    | @tup a vs xs ta ra =>
      cases hy with
      | @tup b ws ys tb rb =>
        simp only [binD] at e
        split at e
        · rename_i hz
          cases e
          refine op_catZ pins s σ H _ _ v u Q I rx ry ⟨a, b, vs, ws, rfl, rfl, ta.sq, tb.sq, sz1 (by rw [ra.length, rb.length]; exact hz), fun z => ?_, fun _ z => ?_, fun _ _ => ?_⟩
          · subst z
            cases ra
            exact q.now R (.tup tb rb)
          · subst z
            cases rb
            exact q.now R (.tup ta (by rw [List.append_nil]; exact ra))
          · exact q.newT R (ra.append rb)
        · cases e
      | _ => cases e
    | @ref r a ha =>
      cases hy with
      | @ref r2 b hb =>
        simp only [binD] at e
        split at e
        · rename_i xs ys h1 h2
          split at e
          · rename_i hz
            obtain ⟨vs, e1, r1⟩ := R.lst h1 ha
            obtain ⟨ws, e2, r2⟩ := R.lst h2 hb
            exact op_cat pins s σ H _ _ v u Q I rx ry ⟨a, b, vs, ws, rfl, rfl, e1, e2, sz1 (by rw [r1.length, r2.length]; exact hz), q.newL R (r1.append r2) e⟩
          · cases e
        · cases e
      | _ => cases e
    | _ => cases e
  | sub =>
    cases hx with
    | int i =>
      cases hy with
      | int j =>
        cases e
        exact op_sub pins s σ H _ _ v u Q I rx ry ⟨i, j, rfl, rfl, q.now R (.int _)⟩
      | _ => cases e
    | _ => cases e
  | mul =>
    cases hx with
    | int i =>
      cases hy with
      | int j =>
        simp only [binD] at e
        split at e
        · rename_i hz
          cases e
          refine op_mul pins s σ H _ _ v u Q I rx ry ⟨i, j, rfl, rfl, ?_, q.now R (.int _)⟩
          rw [Bool.or_eq_true] at hz
          rcases hz with hz | hz
          · exact .inl (small64_of hz)
          · exact .inr (small64_of hz)
        · cases e
      | _ => cases e
    | _ => cases e
  | fdiv =>
    cases hx with
    | int i =>
      cases hy with
      | int j =>
        simp only [binD] at e
        split at e
        · rename_i hz
          cases e
          rw [Bool.and_eq_true, decide_eq_true_eq, decide_eq_true_eq] at hz
          exact op_fdiv pins s σ H _ _ v u Q I rx ry ⟨i, j, rfl, rfl, hz, q.now R (.int _)⟩
        · cases e
      | _ => cases e
    | _ => cases e
  | mod =>
    cases hx with
    | int i =>
      cases hy with
      | int j =>
        simp only [binD] at e
        split at e
        · rename_i hz
          cases e
          exact op_mod pins s σ H _ _ v u Q I rx ry ⟨i, j, rfl, rfl, hz, q.now R (.int _)⟩
        · cases e
      | _ => cases e
    | _ => cases e
  | pow =>
    cases hx with
    | int i =>
      cases hy with
      | int j =>
        simp only [binD] at e
        split at e
        · rename_i hz
          cases e
          rw [Bool.and_eq_true, Bool.and_eq_true, decide_eq_true_eq, decide_eq_true_eq] at hz
          exact op_pow pins s σ H _ _ v u Q I rx ry ⟨i, j, rfl, rfl, ⟨hz.1.2, hz.2, natAbs64 hz.1.1⟩, q.now R (.int _)⟩
        · cases e
      | _ => cases e
    | _ => cases e
  | shl =>
    cases hx with
    | int i =>
      cases hy with
      | int j =>
        simp only [binD] at e
        split at e
        · rename_i hz
          cases e
          rw [Bool.and_eq_true, Bool.and_eq_true, decide_eq_true_eq, decide_eq_true_eq] at hz
          exact op_shl pins s σ H _ _ v u Q I rx ry ⟨i, j, rfl, rfl, ⟨hz.1.2, hz.2, natAbs64 hz.1.1⟩, q.now R (.int _)⟩
        · cases e
      | _ => cases e
    | _ => cases e
  | shr =>
    cases hx with
    | int i =>
      cases hy with
      | int j =>
        simp only [binD] at e
        split at e
        · rename_i hz
          cases e
          exact op_shr pins s σ H _ _ v u Q I rx ry ⟨i, j, rfl, rfl, hz, q.now R (.int _)⟩
        · cases e
      | _ => cases e
    | _ => cases e
  | band =>
    cases hx with
    | int i =>
      cases hy with
      | int j =>
        cases e
        exact op_and pins s σ H _ _ v u Q I rx ry ⟨i, j, rfl, rfl, q.now R (.int _)⟩
      | _ => cases e
    | _ => cases e
  | bor =>
    cases hx with
    | int i =>
      cases hy with
      | int j =>
        cases e
        exact op_or pins s σ H _ _ v u Q I rx ry ⟨i, j, rfl, rfl, q.now R (.int _)⟩
      | _ => cases e
    | _ => cases e
end
end Iv
end
section
set_option Elab.async false
set_option linter.all false
set_option maxRecDepth 100000
/-! IvOps2: comparisons, subscripts, slices, built-ins. -/
namespace Iv
open PySem PySem.Spec PyProof.Rows L2
mutual
theorem pd_eqv : ∀ a b : D, a.pur = true → b.pur = true → PyData.eqv a.pd b.pd = D.eqv a b
  | .non, .non, _, _ | .non, .bl _, _, _ | .non, .int _, _, _ | .non, .str _, _, _ | .non, .tup _, _, _
  | .bl _, .non, _, _ | .bl _, .bl _, _, _ | .bl _, .int _, _, _ | .bl _, .str _, _, _ | .bl _, .tup _, _, _
  | .int _, .non, _, _ | .int _, .bl _, _, _ | .int _, .int _, _, _ | .int _, .str _, _, _ | .int _, .tup _, _, _
  | .str _, .non, _, _ | .str _, .bl _, _, _ | .str _, .int _, _, _ | .str _, .str _, _, _ | .str _, .tup _, _, _
  | .tup _, .non, _, _ | .tup _, .bl _, _, _ | .tup _, .int _, _, _ | .tup _, .str _, _, _ => rfl
  | .tup xs, .tup ys, h1, h2 => pds_eqv xs ys h1 h2
  | .rol _, _, h, _ => nomatch h
  | .ref _, _, h, _ => nomatch h
  | .non, .rol _, _, h | .bl _, .rol _, _, h | .int _, .rol _, _, h | .str _, .rol _, _, h | .tup _, .rol _, _, h => nomatch h
  | .non, .ref _, _, h | .bl _, .ref _, _, h | .int _, .ref _, _, h | .str _, .ref _, _, h | .tup _, .ref _, _, h => nomatch h
theorem pds_eqv : ∀ as bs : List D, D.purs as = true → D.purs bs = true → PyData.eqvAll (D.pds as) (D.pds bs) = D.eqvs as bs
  | [], [], _, _ => rfl
  | [], _ :: _, _, _ => rfl
  | _ :: _, [], _, _ => rfl
  | a :: as, b :: bs, h1, h2 => by
    have l1 := Bool.and_eq_true_iff.mp (show (_ && _) = true from h1)
    have l2 := Bool.and_eq_true_iff.mp (show (_ && _) = true from h2)
    show (_ && _) = (_ && _)
    rw [pd_eqv a b l1.1 l2.1, pds_eqv as bs l1.2 l2.2]
end
mutual
theorem pd_lay : ∀ a : D, a.pur = true → a.lay = true → a.pd.canLay0 = true
  | .non, _, _ => rfl
  | .bl _, _, _ => rfl
  | .int _, _, _ => rfl
  | .str s, _, h => h
  | .tup xs, h1, h2 => pds_lay xs h1 h2
  | .rol _, h, _ => nomatch h
  | .ref _, h, _ => nomatch h
theorem pds_lay : ∀ as : List D, D.purs as = true → D.lays as = true → PyData.canLayAll0 (D.pds as) = true
  | [], _, _ => rfl
  | a :: as, h1, h2 => by
    have l1 := Bool.and_eq_true_iff.mp (show (_ && _) = true from h1)
    have l2 := Bool.and_eq_true_iff.mp (show (_ && _) = true from h2)
    show (_ && _) = true
    rw [pd_lay a l1.1 l2.1, pds_lay as l1.2 l2.2]
    rfl
end
mutual
theorem pd_dep : ∀ a : D, a.pur = true → a.pd.depth = a.dep
  | .non, _ => rfl
  | .bl _, _ => rfl
  | .int _, _ => rfl
  | .str s, _ => rfl
  | .tup xs, h1 => congrArg (· + 1) (pds_dep xs h1)
  | .rol _, h => nomatch h
  | .ref _, h => nomatch h
theorem pds_dep : ∀ as : List D, D.purs as = true → PyData.depthAll (D.pds as) = D.deps as
  | [], _ => rfl
  | a :: as, h1 => by
    have l1 := Bool.and_eq_true_iff.mp (show (_ && _) = true from h1)
    show max _ _ = max _ _
    rw [pd_dep a l1.1, pds_dep as l1.2]
end
section
variable {X : Cx}
/-! ### comparisons -/
def cop : Cop → CmpOp
  | .eq => .Eq | .ne => .NotEq | .lt => .Lt | .le => .LtE | .gt => .Gt | .ge => .GtE | .is_ => .Is | .isn => .IsNot | .in_ => .In | .nin => .NotIn
def rDc (K : PySem.W.Frag) (f : Store → D → D → Option Bool) : R2 := fun vx vy H Q =>
  ∃ (m : Mp) (st : Store) (x y : D) (k : Bool), RSt K m st H ∧ RD K m H vx x ∧ RD K m H vy y ∧ f st x y = some k ∧ Q (.bl k) H
/-- two data of any depth -/
def rDeep (K : PySem.W.Frag) (f : Bool → Bool) : R2 := fun vx vy H Q => ∃ d e, Dp K H vx d ∧ Dp K H vy e ∧ d.canLay0 = true ∧ e.canLay0 = true ∧ min d.depth e.depth ≤ 61 ∧ Q (.bl (f (PyData.eqv d e))) H
theorem op_deepEq (hu : X.A.units + 64 < cLine) : OpR X (compareOp .Eq) (rDeep X.K id) := by
  intro pins s σ H x y v u Q I rx ry h
  obtain ⟨d, e, hd, he, sd, se, hz, q⟩ := h
  obtain ⟨as, r1⟩ := Dp.reads I d x v hd rx
  obtain ⟨bs, r2⟩ := Dp.reads I e y u he ry
  exact SeqAt.compareEq_reads r1 r2 sd se (by omega) ⟨.bl _, H, I, rfl, q⟩
theorem op_deepNe (hu : X.A.units + 64 < cLine) : OpR X (compareOp .NotEq) (rDeep X.K (!·)) := by
  intro pins s σ H x y v u Q I rx ry h
  obtain ⟨d, e, hd, he, sd, se, hz, q⟩ := h
  obtain ⟨as, r1⟩ := Dp.reads I d x v hd rx
  obtain ⟨bs, r2⟩ := Dp.reads I e y u he ry
  exact SeqAt.compareNe_reads r1 r2 sd se (by omega) ⟨.bl _, H, I, rfl, q⟩
theorem flatV_of {K : PySem.W.Frag} {m : Mp} {H : Hp} {v : V} {d : D} (h : RD K m H v d) (f : d.flat = true) : flatV v = true := by
  cases h <;> first | rfl | cases f
theorem eqV_of {K : PySem.W.Frag} {m : Mp} {H : Hp} {v w : V} {d e : D} (h : RD K m H v d) (h' : RD K m H w e) (f : d.flat = true) (f' : e.flat = true) : eqV v w = D.eqv d e := by
  cases h <;> cases h' <;> first | rfl | cases f | cases f'
theorem flatV_all {K : PySem.W.Frag} {m : Mp} {H : Hp} : ∀ {vs : List V} {ds : List D}, RDs K m H vs ds → ds.all D.flat = true → vs.all flatV = true
  | _, _, .nil, _ => rfl
  | _, _, .cons a r, h => by
    have l := Bool.and_eq_true_iff.mp (show (_ && _) = true from h)
    show (_ && _) = true
    rw [flatV_of a l.1, flatV_all r l.2]
    rfl
theorem inV_of {K : PySem.W.Frag} {m : Mp} {H : Hp} {v : V} {d : D} (h : RD K m H v d) (f : d.flat = true) : ∀ {vs : List V} {ds : List D}, RDs K m H vs ds → ds.all D.flat = true → inV v vs = ds.any fun z => D.eqv z d
  | _, _, .nil, _ => rfl
  | _, _, .cons a r, hf => by
    have l := Bool.and_eq_true_iff.mp (show (_ && _) = true from hf)
    have z := inV_of h f r l.2
    show (eqV _ v || inV v _) = (D.eqv _ d || _)
    rw [eqV_of a h l.1 f, z]
theorem scal_of {K : PySem.W.Frag} {m : Mp} {H : Hp} {v w : V} {d e : D} (h : RD K m H v d) (h' : RD K m H w e) (s : scalD d e = true) : scal v w = true ∧ decide (v = w) = D.eqv d e := by
  cases h <;> cases h' <;> first
    | exact ⟨rfl, decide_eq_true rfl⟩
    | exact ⟨rfl, dec_bl⟩
    | exact ⟨rfl, dec_int⟩
    | exact ⟨rfl, dec_str⟩
    | exact ⟨rfl, decide_eq_false (fun z => by cases z)⟩
    | cases s
theorem tup_flat_eq {pins : List (Addr × Obj)} {σ : L2.St} {H : Hp} {s : Shared} {m : Mp} {a : Addr} {vs : List V} {w : V} {e : D} {u : Value} {Q : VK} (hu : X.A.units + 64 < cLine) (I : Inv X pins σ H s) (t : SqT X.K H a vs) (h' : RD X.K m H w e) (f : e.flat = true) (ry : RelV w u) (q : Q (.bl false) H) :
    wpAny (model X.prog X.w) X.A (compareOp .Eq (.ref a) u) (EP X pins σ Q) X.xe s := by
  have hu0 : X.A.units < cLine := by omega
  obtain ⟨its, r, p, _⟩ := I.tuple t
  have fin : EP X pins σ Q (.bool false) s := ⟨.bl false, H, I, rfl, q⟩
  cases h' with
  | non =>
    cases ry
    exact SeqAt.RcAt.tuple_none p hu0 _ _ _ _ fin
  | bl b =>
    cases ry
    exact SeqAt.RcAt.tuple_bool b p hu0 _ _ _ _ fin
  | int i =>
    obtain ⟨t, rfl⟩ := ry
    exact SeqAt.RcAt.tuple_int i t p hu0 _ _ _ _ fin
  | str z =>
    obtain ⟨t, rfl⟩ := ry
    exact SeqAt.RcAt.tuple_str z t p hu0 _ _ _ _ fin
  | _ => cases f
theorem flat_tup_eq {pins : List (Addr × Obj)} {σ : L2.St} {H : Hp} {s : Shared} {m : Mp} {a : Addr} {vs : List V} {w : V} {e : D} {u : Value} {Q : VK} (hu : X.A.units + 64 < cLine) (I : Inv X pins σ H s) (t : SqT X.K H a vs) (h' : RD X.K m H w e) (f : e.flat = true) (ry : RelV w u) (q : Q (.bl false) H) :
    wpAny (model X.prog X.w) X.A (compareOp .Eq u (.ref a)) (EP X pins σ Q) X.xe s := by
  have hu0 : X.A.units < cLine := by omega
  obtain ⟨its, r, p, _⟩ := I.tuple t
  have fin : EP X pins σ Q (.bool false) s := ⟨.bl false, H, I, rfl, q⟩
  cases h' with
  | non =>
    cases ry
    exact SeqAt.RcAt.none_tuple p hu0 _ _ _ _ fin
  | bl b =>
    cases ry
    exact SeqAt.RcAt.bool_tuple b p hu0 _ _ _ _ fin
  | int i =>
    obtain ⟨t, rfl⟩ := ry
    exact SeqAt.RcAt.int_tuple i t p hu0 _ _ _ _ fin
  | str z =>
    obtain ⟨t, rfl⟩ := ry
    exact SeqAt.RcAt.str_tuple z t p hu0 _ _ _ _ fin
  | _ => cases f
theorem and3 {a b : Bool} (h : (a && b) = true) : a = true ∧ b = true := Bool.and_eq_true_iff.mp h
theorem pur_flat : ∀ {d : D}, d.flat = true → d.pur = true ∧ d.dep = 0
  | .non, _ => ⟨rfl, rfl⟩
  | .bl _, _ => ⟨rfl, rfl⟩
  | .int _, _ => ⟨rfl, rfl⟩
  | .str _, _ => ⟨rfl, rfl⟩
  | .tup _, h => nomatch h
  | .rol _, h => nomatch h
  | .ref _, h => nomatch h
/-- == and != by one theorem: f what is made of the answer -/
theorem eq_run {neg : Bool} (hu : X.A.units + 64 < cLine) : OpR X (compareOp (if neg then .NotEq else .Eq)) (rDc X.K fun st a b => (eqS neg st a b).map (fun k => if neg then !k else k)) := by
  intro pins s σ H vx vy v u Q I rx ry h
  obtain ⟨m, st, x, y, k0, R, hx, hy, e0, q⟩ := h
  obtain ⟨k, e, rfl⟩ := Option.map_eq_some_iff.mp e0
  clear e0
  -- data of any depth
  have deep : ∀ (d e : PyData), Dp X.K H vx d → Dp X.K H vy e → d.canLay0 = true → e.canLay0 = true → min d.depth e.depth ≤ 61 → PyData.eqv d e = k → wpAny (model X.prog X.w) X.A (compareOp (if neg then .NotEq else .Eq) v u) (EP X pins σ Q) X.xe s := fun d1 d2 h1 h2 h3 h4 h5 h6 => by
    subst h6
    cases neg with
    | true => exact op_deepNe hu pins s σ H vx vy v u Q I rx ry ⟨d1, d2, h1, h2, h3, h4, h5, q⟩
    | false => exact op_deepEq hu pins s σ H vx vy v u Q I rx ry ⟨d1, d2, h1, h2, h3, h4, h5, q⟩
  have flat : scalD x y = true → k = D.eqv x y → wpAny (model X.prog X.w) X.A (compareOp (if neg then .NotEq else .Eq) v u) (EP X pins σ Q) X.xe s := fun h1 h2 => by
    obtain ⟨s1, s2⟩ := scal_of hx hy h1
    subst h2
    cases neg with
    | true => exact op_ne pins s σ H vx vy v u Q I rx ry ⟨s1, by rw [s2]; exact q⟩
    | false => exact op_eq pins s σ H vx vy v u Q I rx ry ⟨s1, by rw [s2]; exact q⟩
  -- a tuple against a flat one
  have tf : ∀ {a : Addr} {vs : List V} {xs : List D}, vx = .ref a → x = .tup xs → TupZ X.K H a vs → RDs X.K m H vs xs → y.flat = true → (!neg || (D.purs xs && D.lays xs && y.lay)) = true → k = false →
      wpAny (model X.prog X.w) X.A (compareOp (if neg then .NotEq else .Eq) v u) (EP X pins σ Q) X.xe s := fun {a vs xs} e1 e2 t r hf hn hk => by
    subst e1 e2 hk
    cases neg with
    | false =>
      cases rx
      exact tup_flat_eq hu I t.sq hy hf ry q
    | true =>
      have z : (D.purs xs && D.lays xs && y.lay) = true := hn
      obtain ⟨z1, z3⟩ := and3 z
      obtain ⟨z1, z2⟩ := and3 z1
      obtain ⟨p1, p2⟩ := pur_flat hf
      refine deep (D.tup xs).pd y.pd ((RD.tup t r).dp z1) (hy.dp p1) (pd_lay (.tup xs) z1 z2) (pd_lay y p1 z3) (by rw [pd_dep y p1, p2]; omega) ?_
      rw [pd_eqv (.tup xs) y z1 p1]
      cases y <;> first | rfl | cases hf
  have ft : ∀ {a : Addr} {vs : List V} {xs : List D}, vy = .ref a → y = .tup xs → TupZ X.K H a vs → RDs X.K m H vs xs → x.flat = true → (!neg || (D.purs xs && D.lays xs && x.lay)) = true → k = false →
      wpAny (model X.prog X.w) X.A (compareOp (if neg then .NotEq else .Eq) v u) (EP X pins σ Q) X.xe s := fun {a vs xs} e1 e2 t r hf hn hk => by
    subst e1 e2 hk
    cases neg with
    | false =>
      cases ry
      exact flat_tup_eq hu I t.sq hx hf rx q
    | true =>
      have z : (D.purs xs && D.lays xs && x.lay) = true := hn
      obtain ⟨z1, z3⟩ := and3 z
      obtain ⟨z1, z2⟩ := and3 z1
      obtain ⟨p1, p2⟩ := pur_flat hf
      refine deep x.pd (D.tup xs).pd (hx.dp p1) ((RD.tup t r).dp z1) (pd_lay x p1 z3) (pd_lay (.tup xs) z1 z2) (by rw [pd_dep x p1, p2]; omega) ?_
      rw [pd_eqv x (.tup xs) p1 z1]
      cases x <;> first | rfl | cases hf
  unfold eqS at e
  split at e
  · split at e
    · rename_i xs ys h1 h2
      split at e
      · rename_i z
        cases e
        obtain ⟨z, z5⟩ := and3 z
        obtain ⟨z, z4⟩ := and3 z
        obtain ⟨z, z3⟩ := and3 z
        obtain ⟨z1, z2⟩ := and3 z
        obtain ⟨a, rfl, ha⟩ := hx.inv_ref
        obtain ⟨b, rfl, hb⟩ := hy.inv_ref
        obtain ⟨vs, e1, r1⟩ := R.lst h1 ha
        obtain ⟨ws, e2, r2⟩ := R.lst h2 hb
        refine deep (.list (D.pds xs)) (.list (D.pds ys)) (.lst (SqL.of e1) (r1.dp z1)) (.lst (SqL.of e2) (r2.dp z2)) (pds_lay xs z1 z3) (pds_lay ys z2 z4) ?_ (pds_eqv xs ys z1 z2)
        have z5' := of_decide_eq_true z5
        show min (PyData.depthAll (D.pds xs) + 1) (PyData.depthAll (D.pds ys) + 1) ≤ 61
        rw [pds_dep xs z1, pds_dep ys z2]
        omega
      · cases e
    · cases e
  · rename_i xs ys
    split at e
    · rename_i z
      cases e
      obtain ⟨z, z5⟩ := and3 z
      obtain ⟨z, z4⟩ := and3 z
      obtain ⟨z, z3⟩ := and3 z
      obtain ⟨z1, z2⟩ := and3 z
      refine deep (D.tup xs).pd (D.tup ys).pd (hx.dp z1) (hy.dp z2) (pds_lay xs z1 z3) (pds_lay ys z2 z4) ?_ (pds_eqv xs ys z1 z2)
      have z5' := of_decide_eq_true z5
      show min (PyData.depthAll (D.pds xs) + 1) (PyData.depthAll (D.pds ys) + 1) ≤ 61
      rw [pds_dep xs z1, pds_dep ys z2]
      omega
    · cases e
  · rename_i xs b _
    split at e
    · rename_i z
      cases e
      obtain ⟨z1, z2⟩ := and3 z
      cases hx with
      | tup t r => exact tf rfl rfl t r z1 z2 rfl
    · cases e
  · rename_i a ys _ _
    split at e
    · rename_i z
      cases e
      obtain ⟨z1, z2⟩ := and3 z
      cases hy with
      | tup t r => exact ft rfl rfl t r z1 z2 rfl
    · cases e
  · split at e
    · rename_i z
      cases e
      exact flat z rfl
    · cases e

/-! ### all comparisons -/
theorem in_run {neg : Bool} : OpR X (compareOp (if neg then .NotIn else .In)) (rDc X.K fun st a b => (inS st a b).map (fun k => if neg then !k else k)) := by
  intro pins s σ H vx vy v u Q I rx ry h
  obtain ⟨m, st, x, y, k0, R, hx, hy, e0, q⟩ := h
  obtain ⟨k, e, rfl⟩ := Option.map_eq_some_iff.mp e0
  clear e0
  have seqc : ∀ ys, items st y = some ys → (if (x.flat && ys.all D.flat) = true then some (ys.any fun z => D.eqv z x) else none) = some k → wpAny (model X.prog X.w) X.A (compareOp (if neg then .NotIn else .In) v u) (EP X pins σ Q) X.xe s := fun ys hi e => by
    split at e
    · rename_i z
      cases e
      obtain ⟨z1, z2⟩ := and3 z
      obtain ⟨a, vs, rfl, r, hs⟩ := hy.items R hi
      have hs' : SqL X.K H a vs ∨ SqT X.K H a vs := hs.elim .inl (fun t => .inr t.sq)
      have ein := inV_of hx z1 r z2
      cases neg with
      | true => exact op_notIn_seq pins s σ H _ _ v u Q I rx ry ⟨a, vs, rfl, hs', flatV_of hx z1, flatV_all r z2, by rw [ein]; exact q⟩
      | false => exact op_in_seq pins s σ H _ _ v u Q I rx ry ⟨a, vs, rfl, hs', flatV_of hx z1, flatV_all r z2, by rw [ein]; exact q⟩
    · cases e
  cases hy with
  | str z =>
    cases hx with
    | str c =>
      simp only [inS] at e
      split at e
      · rename_i k1 hc
        cases e
        have ec : c = ⟨#[k1]⟩ := by
          obtain ⟨l⟩ := c
          have : l = #[k1] := by
            rw [← Array.toList_inj]
            exact hc
          rw [this]
        subst ec
        cases neg with
        | true => exact op_notIn_sign pins s σ H _ _ v u Q I rx ry ⟨k1, z, rfl, rfl, q⟩
        | false => exact op_in_sign pins s σ H _ _ v u Q I rx ry ⟨k1, z, rfl, rfl, q⟩
      · cases e
    | _ => cases e
  | non => cases e
  | bl => cases e
  | int => cases e
  | @tup a vs xs t r => exact seqc xs rfl e
  | @rol a vs xs t r => exact seqc xs rfl e
  | @ref r a ha =>
    have e' : (match items st (.ref r) with
      | some ys => if (x.flat && ys.all D.flat) = true then some (ys.any fun z => D.eqv z x) else none
      | none => none) = some k := e
    split at e'
    · rename_i ys hi
      exact seqc ys hi e'
    · cases e'
theorem op_cmp (hu : X.A.units + 64 < cLine) (o : Cop) : OpR X (compareOp (cop o)) (rDc X.K (cmpD o)) := by
  intro pins s σ H vx vy v u Q I rx ry h
  cases o with
  | eq =>
    obtain ⟨m, st, x, y, k, R, hx, hy, e, q⟩ := h
    exact eq_run (neg := false) hu pins s σ H vx vy v u Q I rx ry ⟨m, st, x, y, k, R, hx, hy, congrArg (Option.map fun k => k) (show eqS false st x y = some k from e), q⟩
  | ne => exact eq_run (neg := true) hu pins s σ H vx vy v u Q I rx ry h
  | in_ =>
    obtain ⟨m, st, x, y, k, R, hx, hy, e, q⟩ := h
    exact in_run (neg := false) pins s σ H vx vy v u Q I rx ry ⟨m, st, x, y, k, R, hx, hy, congrArg (Option.map fun k => k) (show inS st x y = some k from e), q⟩
  | nin => exact in_run (neg := true) pins s σ H vx vy v u Q I rx ry h
  | lt =>
    obtain ⟨m, st, x, y, k, R, hx, hy, e, q⟩ := h
    cases hx with
    | int i =>
      cases hy with
      | int j =>
        cases e
        exact op_lt pins s σ H _ _ v u Q I rx ry ⟨i, j, rfl, rfl, q⟩
      | _ => cases e
    | _ => cases e
  | le =>
    obtain ⟨m, st, x, y, k, R, hx, hy, e, q⟩ := h
    cases hx with
    | int i =>
      cases hy with
      | int j =>
        cases e
        exact op_le pins s σ H _ _ v u Q I rx ry ⟨i, j, rfl, rfl, q⟩
      | _ => cases e
    | _ => cases e
  | gt =>
    obtain ⟨m, st, x, y, k, R, hx, hy, e, q⟩ := h
    cases hx with
    | int i =>
      cases hy with
      | int j =>
        cases e
        exact op_gt pins s σ H _ _ v u Q I rx ry ⟨i, j, rfl, rfl, q⟩
      | _ => cases e
    | _ => cases e
  | ge =>
    obtain ⟨m, st, x, y, k, R, hx, hy, e, q⟩ := h
    cases hx with
    | int i =>
      cases hy with
      | int j =>
        cases e
        exact op_ge pins s σ H _ _ v u Q I rx ry ⟨i, j, rfl, rfl, q⟩
      | _ => cases e
    | _ => cases e
  | is_ =>
    obtain ⟨m, st, x, y, k, R, hx, hy, e, q⟩ := h
    cases hy with
    | non =>
      refine op_isN pins s σ H _ _ v u Q I rx ry ⟨rfl, ?_⟩
      cases hx <;> cases e <;> exact q
    | _ => cases e
  | isn =>
    obtain ⟨m, st, x, y, k, R, hx, hy, e, q⟩ := h
    cases hy with
    | non =>
      refine op_notN pins s σ H _ _ v u Q I rx ry ⟨rfl, ?_⟩
      cases hx <;> cases e <;> exact q
    | _ => cases e
/-! ### subscripts, slices -/
theorem atI_of {K : PySem.W.Frag} {m : Mp} {H : Hp} {vs : List V} {ds : List D} (r : RDs K m H vs ds) {i : Int} {d : D} (e : atI ds i = some d) : ∃ v, atI vs i = some v ∧ RD K m H v d := by
  unfold atI at e ⊢
  rw [r.length]
  cases hj : ixN ds.length i with
  | none =>
    rw [hj] at e
    cases e
  | some j =>
    rw [hj] at e
    exact r.get e
theorem ix_run : IxR X (rD2 X.K idxD) := by
  have L := ix_list (X := X)
  have T := ix_tup (X := X)
  have Sx := ix_str (X := X)
  have A := L.or (T.or Sx)
  refine fun e1 e2 pins s σ H vx vy v u Q I rx ry h hsub => A e1 e2 pins s σ H vx vy v u Q I rx ry ?_ hsub
  obtain ⟨m, st, x, y, d, st', R, hx, hy, e, q⟩ := h
  cases hy with
  | int i =>
    have seqc : ∀ xs, items st x = some xs → (match atI xs i with
        | some d => some (Iv.R.ok d, st)
        | none => none) = some (Iv.R.ok d, st') → (rIxL X.K vx (.int i) H Q ∨ rIxT X.K vx (.int i) H Q ∨ rIxS vx (.int i) H Q) := fun xs hi e => by
      split at e
      · rename_i d1 h1
        cases e
        obtain ⟨a, vs, rfl, r, hs⟩ := hx.items R hi
        obtain ⟨w, hw, rw'⟩ := atI_of r h1
        rcases hs with hs | hs
        · exact .inl ⟨a, vs, i, w, rfl, rfl, hs, hw, q.now R rw'⟩
        · exact .inr (.inl ⟨a, vs, i, w, rfl, rfl, hs.sq, hw, q.now R rw'⟩)
      · cases e
    cases hx with
    | non => cases e
    | bl => cases e
    | int => cases e
    | str z =>
      simp only [idxD] at e
      split at e
      · rename_i hz
        split at e
        · rename_i c hc
          cases e
          exact .inr (.inr ⟨z, i, c, rfl, rfl, sz1 hz, hc, q.now R (.str _)⟩)
        · cases e
      · cases e
    | tup t r => exact seqc _ rfl e
    | rol t r => exact seqc _ rfl e
    | @ref r a ha =>
      have e' : (match items st (.ref r) with
        | some xs => match atI xs i with
          | some d => some (Iv.R.ok d, st)
          | none => none
        | none => none) = some (Iv.R.ok d, st') := e
      split at e'
      · rename_i xs hi
        exact seqc xs hi e'
      · cases e'
  | _ => cases e

theorem cutV_of {K : PySem.W.Frag} {m : Mp} {H : Hp} {vs : List V} {ds : List D} (r : RDs K m H vs ds) (l h : Option Int) : RDs K m H (cutV vs l h) (cut ds l h) := by
  unfold cutV cut
  rw [r.length]
  exact (r.drop _).take _
theorem cut_whole {xs : List V} {l h : Option Int} (e : HT.sIx xs.length 0 l = 0 ∧ HT.sIx xs.length xs.length h = xs.length) : cutV xs l h = xs := by
  unfold cutV
  rw [e.1, e.2, List.drop_zero, Nat.sub_zero, List.take_length]
theorem sl_run : SlR X (fun vx l h H Q => ∃ (m : Mp) (st : Store) (x d : D) (st' : Store), RSt X.K m st H ∧ RD X.K m H vx x ∧ slcO x l h st = some (.ok d, st') ∧ PostD X.K m H st' d Q) := by
  have A := (sl_str (X := X)).or ((sl_tupZ (X := X)).or (sl_list (X := X)))
  refine fun pins s σ H vx v vl vu lo hi sl Q I rx hs pl pu hq => A pins s σ H vx v vl vu lo hi sl Q I rx hs pl pu ?_
  obtain ⟨m, st, x, d, st', R, hx, e, q⟩ := hq
  cases hx with
  | non => cases e
  | bl => cases e
  | int => cases e
  | str z =>
    simp only [slcO] at e
    split at e
    · rename_i hz
      cases e
      exact .inl ⟨z, rfl, sz1 hz, q.now R (.str _)⟩
    · cases e
  | @tup a vs xs t r =>
    cases e
    refine .inr (.inl ⟨a, vs, rfl, t.sq, fun w => ?_, fun _ => q.newT R (cutV_of r lo hi)⟩)
    refine q.now R (.tup t ?_)
    have z := cutV_of r lo hi
    rw [cut_whole w] at z
    exact z
  | rol => cases e
  | @ref r a ha =>
    simp only [slcO] at e
    split at e
    · rename_i xs h1
      obtain ⟨vs, e1, r1⟩ := R.lst h1 ha
      exact .inr (.inr ⟨a, vs, rfl, SqL.of e1, q.newL R (cutV_of r1 lo hi) e⟩)
    · cases e
/-! ### built-ins called -/
def biV : Bi → Value
  | .len => .builtin "len" | .list => .type "list" | .tuple => .type "tuple" | .sorted => .builtin "sorted" | .max => .builtin "max" | .min => .builtin "min"
  | .abs => .builtin "abs" | .int => .type "int" | .str => .type "str" | .sum => .builtin "sum" | .all => .builtin "all" | .any => .builtin "any"
theorem one_of {K : PySem.W.Frag} {m : Mp} {H : Hp} {vs : List V} {d : D} (r : RDs K m H vs [d]) : ∃ v, vs = [v] ∧ RD K m H v d := by
  cases r with
  | cons a b =>
    cases b
    exact ⟨_, rfl, a⟩
theorem litems_of {K : PySem.W.Frag} {m : Mp} {H : Hp} {st : Store} (R : RSt K m st H) {v : V} {d : D} {xs : List D} (h : RD K m H v d) (e : litems st d = some xs) : ∃ a vs, v = .ref a ∧ RDs K m H vs xs ∧ SqL K H a vs := by
  cases h with
  | non => cases e
  | bl => cases e
  | int => cases e
  | str => cases e
  | tup => cases e
  | @rol a vs ys t r =>
    cases e
    exact ⟨a, vs, rfl, r, t.sq⟩
  | @ref r a ha =>
    obtain ⟨vs, h1, h2⟩ := R.lst (r := r) (xs := xs) e ha
    exact ⟨a, vs, rfl, h2, SqL.of h1⟩
/-- the order of texts -/
def leS (a b : Str) : Bool := !decide (b.cps.toList < a.cps.toList)
theorem leS_trans (a b c : Str) (h1 : leS a b = true) (h2 : leS b c = true) : leS a c = true := by
  unfold leS at *
  simp only [Bool.not_eq_true', decide_eq_false_iff_not, List.not_lt] at *
  exact List.le_trans h1 h2
theorem leS_total (a b : Str) : (leS a b || leS b a) = true := by
  unfold leS
  by_cases h : b.cps.toList < a.cps.toList
  · have h2 : ¬ a.cps.toList < b.cps.toList := fun z => List.lt_irrefl _ (List.lt_trans h z)
    rw [decide_eq_false h2, Bool.or_comm]
    rfl
  · rw [decide_eq_false h]
    rfl
theorem leS_anti {a b : Str} (h1 : leS a b = true) (h2 : leS b a = true) : a = b := by
  unfold leS at *
  simp only [Bool.not_eq_true', decide_eq_false_iff_not, List.not_lt] at *
  have e := List.le_antisymm h1 h2
  obtain ⟨a⟩ := a
  obtain ⟨b⟩ := b
  have : a = b := by
    rw [← Array.toList_inj]
    exact e
  rw [this]
theorem risingS_pw : ∀ (r : List Str) (p : Str), risingS p r = true → (∀ x ∈ r, leS p x = true) ∧ r.Pairwise fun a b => leS a b = true
  | [], _, _ => ⟨fun x hx => (nomatch hx), List.Pairwise.nil⟩
  | x :: r, p, h => by
    have l := and3 (show (_ && _) = true from h)
    obtain ⟨h1, h2⟩ := risingS_pw r x l.2
    have h3 : leS p x = true := by
      have := l.1
      rw [PyProof.Rows.ltCps_eq] at this
      exact this
    refine ⟨fun y hy => ?_, List.Pairwise.cons h1 h2⟩
    rcases List.mem_cons.mp hy with e | hy
    · rw [e]
      exact h3
    · exact leS_trans p x y h3 (h1 y hy)
theorem sortedS_pw : ∀ {r : List Str}, sortedS r = true → r.Pairwise fun a b => leS a b = true
  | [], _ => List.Pairwise.nil
  | x :: r, h => by
    obtain ⟨h1, h2⟩ := risingS_pw r x h
    exact List.Pairwise.cons h1 h2
theorem sortS_is {ys xs : List Str} (p : ys.Perm xs) (s : sortedS ys = true) : ys = sortS xs := by
  refine List.Perm.eq_of_pairwise (le := fun a b => leS a b = true) (fun a b _ _ h1 h2 => leS_anti h1 h2) (sortedS_pw s) ?_ (p.trans (List.mergeSort_perm xs _).symm)
  exact List.pairwise_mergeSort (le := leS) leS_trans leS_total xs
theorem sortI_is {ys xs : List Int} (p : ys.Perm xs) (s : ys.Pairwise (· ≤ ·)) : ys = sortI xs := by
  refine List.Perm.eq_of_pairwise (le := fun a b => decide (a ≤ b) = true) (fun a b _ _ h1 h2 => Int.le_antisymm (of_decide_eq_true h1) (of_decide_eq_true h2)) (s.imp fun h => decide_eq_true h) ?_ (p.trans (List.mergeSort_perm xs _).symm)
  refine List.pairwise_mergeSort (le := fun a b : Int => decide (a ≤ b)) (fun a b c h1 h2 => decide_eq_true (Int.le_trans (of_decide_eq_true h1) (of_decide_eq_true h2))) (fun a b => ?_) xs
  simp only [Bool.or_eq_true, decide_eq_true_eq]
  exact Int.le_total a b
theorem foldmax : ∀ (xs : List Int) (x : Int), (xs.foldl (fun a b => if b > a then b else a) x = x ∨ xs.foldl (fun a b => if b > a then b else a) x ∈ xs) ∧ x ≤ xs.foldl (fun a b => if b > a then b else a) x ∧ ∀ y ∈ xs, y ≤ xs.foldl (fun a b => if b > a then b else a) x
  | [], x => ⟨.inl rfl, Int.le_refl x, fun y hy => by cases hy⟩
  | z :: xs, x => by
    rw [List.foldl_cons]
    by_cases hz : z > x
    · rw [if_pos hz]
      obtain ⟨h1, h2, h3⟩ := foldmax xs z
      refine ⟨.inr ?_, by omega, fun y hy => ?_⟩
      · rcases h1 with h1 | h1
        · rw [h1]
          exact List.mem_cons_self
        · exact List.mem_cons_of_mem _ h1
      · rcases List.mem_cons.mp hy with e | hy
        · rw [e]
          exact h2
        · exact h3 y hy
    · rw [if_neg hz]
      obtain ⟨h1, h2, h3⟩ := foldmax xs x
      refine ⟨?_, h2, fun y hy => ?_⟩
      · rcases h1 with h1 | h1
        · exact .inl h1
        · exact .inr (List.mem_cons_of_mem _ h1)
      · rcases List.mem_cons.mp hy with e | hy
        · rw [e]
          omega
        · exact h3 y hy
theorem foldmin : ∀ (xs : List Int) (x : Int), (xs.foldl (fun a b => if b < a then b else a) x = x ∨ xs.foldl (fun a b => if b < a then b else a) x ∈ xs) ∧ xs.foldl (fun a b => if b < a then b else a) x ≤ x ∧ ∀ y ∈ xs, xs.foldl (fun a b => if b < a then b else a) x ≤ y
  | [], x => ⟨.inl rfl, Int.le_refl x, fun y hy => by cases hy⟩
  | z :: xs, x => by
    rw [List.foldl_cons]
    by_cases hz : z < x
    · rw [if_pos hz]
      obtain ⟨h1, h2, h3⟩ := foldmin xs z
      refine ⟨.inr ?_, by omega, fun y hy => ?_⟩
      · rcases h1 with h1 | h1
        · rw [h1]
          exact List.mem_cons_self
        · exact List.mem_cons_of_mem _ h1
      · rcases List.mem_cons.mp hy with e | hy
        · rw [e]
          exact h2
        · exact h3 y hy
    · rw [if_neg hz]
      obtain ⟨h1, h2, h3⟩ := foldmin xs x
      refine ⟨?_, h2, fun y hy => ?_⟩
      · rcases h1 with h1 | h1
        · exact .inl h1
        · exact .inr (List.mem_cons_of_mem _ h1)
      · rcases List.mem_cons.mp hy with e | hy
        · rw [e]
          omega
        · exact h3 y hy
theorem maxI_is {ns : List Int} {k m : Int} (e : maxI ns = some k) (hm : m ∈ ns) (hle : ∀ y, y ∈ ns → y ≤ m) : m = k := by
  cases ns with
  | nil => cases e
  | cons x xs =>
    cases e
    obtain ⟨h1, h2, h3⟩ := foldmax xs x
    have a : xs.foldl (fun a b => if b > a then b else a) x ≤ m := by
      rcases h1 with h1 | h1
      · rw [h1]
        exact hle x List.mem_cons_self
      · exact hle _ (List.mem_cons_of_mem _ h1)
    have b : m ≤ xs.foldl (fun a b => if b > a then b else a) x := by
      rcases List.mem_cons.mp hm with e | hm
      · rw [e]
        exact h2
      · exact h3 m hm
    omega
theorem minI_is {ns : List Int} {k m : Int} (e : minI ns = some k) (hm : m ∈ ns) (hle : ∀ y, y ∈ ns → m ≤ y) : m = k := by
  cases ns with
  | nil => cases e
  | cons x xs =>
    cases e
    obtain ⟨h1, h2, h3⟩ := foldmin xs x
    have a : m ≤ xs.foldl (fun a b => if b < a then b else a) x := by
      rcases h1 with h1 | h1
      · rw [h1]
        exact hle x List.mem_cons_self
      · exact hle _ (List.mem_cons_of_mem _ h1)
    have b : xs.foldl (fun a b => if b < a then b else a) x ≤ m := by
      rcases List.mem_cons.mp hm with e | hm
      · rw [e]
        exact h2
      · exact h3 m hm
    omega
theorem ne_of_max {ns : List Int} {k : Int} (e : maxI ns = some k) : 0 < ns.length := by
  cases ns with
  | nil => cases e
  | cons x xs => exact Nat.succ_pos _
theorem ne_of_min {ns : List Int} {k : Int} (e : minI ns = some k) : 0 < ns.length := by
  cases ns with
  | nil => cases e
  | cons x xs => exact Nat.succ_pos _
theorem call_bi (hc : X.calm = true) (b : Bi) : CallR X (biV b) (rDn X.K (biD b)) := by
  intro pins s σ H vs us Q I r h
  obtain ⟨m, st, xs, d, st', R, hx, e, q⟩ := h
  cases b with
  | len =>
    simp only [biD] at e
    split at e
    · rename_i z
      split at e
      · rename_i hz
        cases e
        obtain ⟨v, rfl, h1⟩ := one_of hx
        cases h1
        exact call_len_str pins s σ H _ us Q I r ⟨z, rfl, sz1 hz, q.now R (.int _)⟩
      · cases e
    · split at e
      · rename_i a _ ys hi
        cases e
        obtain ⟨v, rfl, h1⟩ := one_of hx
        obtain ⟨p, ws, rfl, r1, hs⟩ := h1.items R hi
        refine call_len_seq pins s σ H _ us Q I r ⟨p, ws, rfl, hs.elim .inl (fun t => .inr t.sq), ?_⟩
        rw [r1.length]
        exact q.now R (.int _)
      · cases e
    · cases e
  | list =>
    simp only [biD] at e
    split at e
    · split at e
      · rename_i a ys hi
        obtain ⟨v, rfl, h1⟩ := one_of hx
        obtain ⟨p, ws, rfl, r1, hs⟩ := h1.items R hi
        exact call_list_of pins s σ H _ us Q I r ⟨p, ws, rfl, hs.elim .inl (fun t => .inr t.sq), q.newL R r1 e⟩
      · cases e
    · cases e
  | tuple =>
    simp only [biD] at e
    split at e
    · cases e
      obtain ⟨v, rfl, h1⟩ := one_of hx
      cases h1 with
      | @tup p ws ys t r1 => exact call_tupleZ pins s σ H _ us Q I r ⟨p, ws, rfl, .inr ⟨t.sq, q.now R (.tup t r1)⟩⟩
    · split at e
      · rename_i ys h0
        cases e
        obtain ⟨v, rfl, h1⟩ := one_of hx
        obtain ⟨p, rfl, hp⟩ := h1.inv_ref
        obtain ⟨ws, e1, r1⟩ := R.lst h0 hp
        exact call_tupleZ pins s σ H _ us Q I r ⟨p, ws, rfl, .inl ⟨SqL.of e1, q.newT R r1⟩⟩
      · cases e
    · cases e
  | sorted =>
    simp only [biD] at e
    split at e
    · split at e
      · rename_i a ys hi
        obtain ⟨v, rfl, h1⟩ := one_of hx
        obtain ⟨p, ws, rfl, r1, hs⟩ := litems_of R h1 hi
        split at e
        · rename_i h64
          split at e
          · rename_i ss hss
            have ew := r1.strsV hss
            subst ew
            have hl : ss.length < 64 := by
              have := r1.length
              rw [List.length_map] at this
              omega
            refine cr_sortedS pins s σ H _ us Q I r ⟨p, ss, rfl, hs, hl, fun zs p2 hp hsd hn => ?_⟩
            have ez := sortS_is hp hsd
            subst ez
            exact q.newL R (RDs.strs _) e p2 hn
          · split at e
            · rename_i ns hns
              have ew := r1.intsV hns
              subst ew
              have hl : ns.length < 64 := by
                have := r1.length
                rw [List.length_map] at this
                omega
              refine cr_sorted pins s σ H _ us Q I r ⟨p, ns, rfl, hs, hl, fun zs p2 hp hsd hn => ?_⟩
              have ez := sortI_is hp hsd
              subst ez
              exact q.newL R (RDs.ints _) e p2 hn
            · cases e
        · cases e
      · cases e
    · cases e
  | max =>
    simp only [biD] at e
    split at e
    · rename_i i j
      cases e
      cases hx with
      | cons a b =>
        cases a
        cases b with
        | cons a b =>
          cases a
          cases b
          exact call_max2 hc pins s σ H _ us Q I r ⟨i, j, rfl, q.now R (.int _)⟩
    · split at e
      · rename_i a ys hi
        split at e
        · rename_i ns hns
          split at e
          · rename_i k hk
            cases e
            obtain ⟨v, rfl, h1⟩ := one_of hx
            obtain ⟨p, ws, rfl, r1, hs⟩ := litems_of R h1 hi
            have ew := r1.intsV hns
            subst ew
            refine cr_max hc pins s σ H _ us Q I r ⟨p, ns, rfl, hs, ne_of_max hk, fun m0 hm hle => ?_⟩
            rw [maxI_is hk hm hle]
            exact q.now R (.int _)
          · cases e
        · cases e
      · cases e
    · cases e
  | min =>
    simp only [biD] at e
    split at e
    · rename_i i j
      cases e
      cases hx with
      | cons a b =>
        cases a
        cases b with
        | cons a b =>
          cases a
          cases b
          exact call_min2 hc pins s σ H _ us Q I r ⟨i, j, rfl, q.now R (.int _)⟩
    · split at e
      · rename_i a ys hi
        split at e
        · rename_i ns hns
          split at e
          · rename_i k hk
            cases e
            obtain ⟨v, rfl, h1⟩ := one_of hx
            obtain ⟨p, ws, rfl, r1, hs⟩ := litems_of R h1 hi
            have ew := r1.intsV hns
            subst ew
            refine cr_min hc pins s σ H _ us Q I r ⟨p, ns, rfl, hs, ne_of_min hk, fun m0 hm hle => ?_⟩
            rw [minI_is hk hm hle]
            exact q.now R (.int _)
          · cases e
        · cases e
      · cases e
    · cases e
  | abs =>
    simp only [biD] at e
    split at e
    · rename_i i
      cases e
      obtain ⟨v, rfl, h1⟩ := one_of hx
      cases h1
      exact call_abs pins s σ H _ us Q I r ⟨i, rfl, q.now R (.int _)⟩
    · cases e
  | int =>
    simp only [biD] at e
    split at e
    · rename_i i
      cases e
      obtain ⟨v, rfl, h1⟩ := one_of hx
      cases h1
      exact call_int1 pins s σ H _ us Q I r (.inl ⟨i, rfl, q.now R (.int _)⟩)
    · rename_i k
      cases e
      obtain ⟨v, rfl, h1⟩ := one_of hx
      cases h1
      exact call_int1 pins s σ H _ us Q I r (.inr ⟨k, rfl, q.now R (.int _)⟩)
    · cases e
  | str => cases e
  | sum =>
    simp only [biD] at e
    split at e
    · split at e
      · rename_i a ys hi
        split at e
        · rename_i ns hns
          cases e
          obtain ⟨v, rfl, h1⟩ := one_of hx
          obtain ⟨p, ws, rfl, r1, hs⟩ := litems_of R h1 hi
          have ew := r1.intsV hns
          subst ew
          exact cr_sum hc pins s σ H _ us Q I r ⟨p, ns, rfl, hs, q.now R (.int _)⟩
        · cases e
      · cases e
    · cases e
  | all =>
    simp only [biD] at e
    split at e
    · split at e
      · rename_i a ys hi
        split at e
        · rename_i ns hns
          cases e
          obtain ⟨v, rfl, h1⟩ := one_of hx
          obtain ⟨p, ws, rfl, r1, hs⟩ := litems_of R h1 hi
          have ew := r1.blsV hns
          subst ew
          exact cr_all hc pins s σ H _ us Q I r ⟨p, ns, rfl, hs, q.now R (.bl _)⟩
        · cases e
      · cases e
    · cases e
  | any =>
    simp only [biD] at e
    split at e
    · split at e
      · rename_i a ys hi
        split at e
        · rename_i ns hns
          cases e
          obtain ⟨v, rfl, h1⟩ := one_of hx
          obtain ⟨p, ws, rfl, r1, hs⟩ := litems_of R h1 hi
          have ew := r1.blsV hns
          subst ew
          exact cr_any hc pins s σ H _ us Q I r ⟨p, ns, rfl, hs, q.now R (.bl _)⟩
        · cases e
      · cases e
    · cases e
end
end Iv
end
section
set_option Elab.async false
set_option linter.all false
set_option maxRecDepth 100000
/-! IvOps3: methods, isinstance. -/
namespace Iv
open PySem PySem.Spec PyProof.Rows L2
section
variable {X : Cx}
theorem nil_of {K : PySem.W.Frag} {m : Mp} {H : Hp} {vs : List V} (r : RDs K m H vs []) : vs = [] := by
  cases r
  rfl
theorem PostD.setL {K : PySem.W.Frag} {m : Mp} {H : Hp} {st : Store} {d : D} {Q : VK} (R : RSt K m st H) {r : Nat} {a : Addr} {ws vs : List V} {xs : List D} (ha : m[r]? = some a) (hw : H a = some (.lst ws)) (q : RDs K m H vs xs)
    (p : PostD K m H (st.set r (.lst xs)) d Q) {v : V} (rd : RD K m H v d) : Q v (upd H a (.lst vs)) := by
  have t : Tx H (upd H a (.lst vs)) := Tx.lst hw
  exact p v _ m (Ext.refl m) t (R.set ha hw q) (rd.mono (Ext.refl m) t)
theorem mt_appendD (w : Wr) : MtR X "list.append" (rDm X.K (mthD .append w)) := by
  intro pins s σ H vx vs v us Q I rx rs h
  obtain ⟨m, st, x, xs, d, st', R, hx, hxs, e, q⟩ := h
  simp only [mthD] at e
  split at e
  · rename_i r y
    split at e
    · rename_i ys hl
      split at e
      · rename_i hz
        cases e
        obtain ⟨a, rfl, ha⟩ := hx.inv_ref
        obtain ⟨vy, rfl, hy⟩ := one_of hxs
        obtain ⟨ws, e1, r1⟩ := R.lst hl ha
        have z := of_decide_eq_true (and3 hz).2
        exact mt_append pins s σ H _ _ v us Q I rx rs ⟨a, ws, vy, rfl, rfl, e1, by rw [r1.length]; exact Nat.lt_of_lt_of_le z (by decide), q.setL R ha e1 (r1.append (.one hy)) .non⟩
      · cases e
    · cases e
  · cases e
theorem mt_extendD (w : Wr) : MtR X "list.extend" (rDm X.K (mthD .extend w)) := by
  intro pins s σ H vx vs v us Q I rx rs h
  obtain ⟨m, st, x, xs, d, st', R, hx, hxs, e, q⟩ := h
  simp only [mthD] at e
  split at e
  · rename_i r y
    split at e
    · rename_i ys zs hl hl2
      split at e
      · rename_i hz
        cases e
        obtain ⟨a, rfl, ha⟩ := hx.inv_ref
        obtain ⟨vy, rfl, hy⟩ := one_of hxs
        obtain ⟨b, rfl, hb⟩ := hy.inv_ref
        obtain ⟨ws, e1, r1⟩ := R.lst hl ha
        obtain ⟨us2, e2, r2⟩ := R.lst hl2 hb
        have z := of_decide_eq_true (and3 hz).2
        exact mt_extend pins s σ H _ _ v us Q I rx rs ⟨a, b, ws, us2, rfl, rfl, e1, e2, by rw [r1.length, r2.length]; exact sz1 (by omega), q.setL R ha e1 (r1.append r2) .non⟩
      · cases e
    · cases e
  · cases e
theorem mt_popD (w : Wr) : MtR X "list.pop" (rDm X.K (mthD .pop w)) := by
  intro pins s σ H vx vs v us Q I rx rs h
  obtain ⟨m, st, x, xs, d, st', R, hx, hxs, e, q⟩ := h
  simp only [mthD] at e
  split at e
  · rename_i r
    split at e
    · rename_i ys hl
      split at e
      · rename_i y hy
        split at e
        · rename_i hz
          cases e
          obtain ⟨a, rfl, ha⟩ := hx.inv_ref
          have e0 := nil_of hxs
          subst e0
          obtain ⟨ws, e1, r1⟩ := R.lst hl ha
          rw [List.getLast?_eq_getElem?] at hy
          obtain ⟨w1, h1, h2⟩ := r1.get hy
          exact mt_pop pins s σ H _ _ v us Q I rx rs ⟨a, ws, w1, rfl, rfl, e1, by rw [r1.length]; exact h1, q.setL R ha e1 r1.dropLast h2⟩
        · cases e
      · cases e
    · cases e
  · cases e
theorem firstAt_spec {x : D} : ∀ {xs : List D} {k j : Nat}, firstAt x xs k = some j → ∃ i, j = k + i ∧ (∃ z, xs[i]? = some z ∧ D.eqv z x = true) ∧ ∀ i' z', i' < i → xs[i']? = some z' → D.eqv z' x = false
  | [], _, _, h => by cases h
  | y :: ys, k, j, h => by
    unfold firstAt at h
    split at h
    · rename_i hy
      cases h
      exact ⟨0, rfl, ⟨y, rfl, hy⟩, fun i' _ hi => absurd hi (Nat.not_lt_zero _)⟩
    · rename_i hy
      obtain ⟨i, e, ⟨z, h1, h2⟩, h3⟩ := firstAt_spec h
      refine ⟨i + 1, by omega, ⟨z, by simpa using h1, h2⟩, fun i' z' hi hz => ?_⟩
      cases i' with
      | zero =>
        have : y = z' := by simpa using hz
        rw [← this]
        exact Bool.eq_false_iff.mpr hy
      | succ i' => exact h3 i' z' (by omega) (by simpa using hz)
theorem strs_map {K : PySem.W.Frag} {m : Mp} {H : Hp} : ∀ {xs : List D} {ss : List Str}, strs? xs = some ss → xs = ss.map D.str
  | [], ss, h => by
    cases h
    rfl
  | .str i :: r, ss, h => by
    simp only [strs?] at h
    split at h
    · rename_i l hl
      cases h
      rw [strs_map (K := K) (m := m) (H := H) hl]
      rfl
    · cases h
  | .non :: _, _, h => by cases h
  | .bl _ :: _, _, h => by cases h
  | .int _ :: _, _, h => by cases h
  | .tup _ :: _, _, h => by cases h
  | .rol _ :: _, _, h => by cases h
  | .ref _ :: _, _, h => by cases h
theorem index_read {w : Wr} {vx : V} {vs : List V} {H : Hp} {Q : VK} (h : rDm X.K (mthD .index w) vx vs H Q) :
    ∃ (a : Addr) (ss : List Str) (z : Str) (j : Nat), vx = .ref a ∧ vs = [.str z] ∧ (SqL X.K H a (ss.map V.str) ∨ TupZ X.K H a (ss.map V.str)) ∧ ss[j]? = some z ∧ (∀ i, i < j → ss[i]? ≠ some z) ∧ Q (.int (j : Nat)) H := by
  obtain ⟨m, st, x, xs, d, st', R, hx, hxs, e, q⟩ := h
  simp only [mthD] at e
  split at e
  · rename_i z
    split at e
    · rename_i ys hi
      split at e
      · rename_i ss hss
        split at e
        · rename_i j hj
          cases e
          obtain ⟨a, ws, rfl, r1, hs⟩ := hx.items R hi
          obtain ⟨vz, rfl, hz⟩ := one_of hxs
          cases hz
          have ew := r1.strsV hss
          subst ew
          have em := strs_map (K := X.K) (m := m) (H := H) hss
          subst em
          obtain ⟨i, e0, ⟨y, h1, h2⟩, h3⟩ := firstAt_spec hj
          have e0' : j = i := by omega
          subst e0'
          rw [List.getElem?_map] at h1
          obtain ⟨s1, hs1, rfl⟩ := Option.map_eq_some_iff.mp h1
          have es : s1 = z := by
            have : (s1 == z) = true := h2
            simpa using this
          subst es
          refine ⟨a, ss, s1, j, rfl, rfl, hs, hs1, fun i hi hq => ?_, q.now R (.int _)⟩
          have h4 := h3 i (.str s1) hi (by rw [List.getElem?_map, hq]; rfl)
          have h5 : (s1 == s1) = false := h4
          simp at h5
        · cases e
      · cases e
    · cases e
  · cases e
theorem flat_strsV (ys : List Str) : (ys.map V.str).all flatV = true := by
  rw [List.all_map]
  exact List.all_eq_true.mpr fun _ _ => rfl
/-- list.index of a text in a list of texts -/
theorem mt_indexL (w : Wr) : MtR X "list.index" (fun vx vs H Q => (∃ a ss, vx = .ref a ∧ SqL X.K H a ss) ∧ rDm X.K (mthD .index w) vx vs H Q) := by
  intro pins s σ H vx vs v us Q I rx rs h
  obtain ⟨⟨a0, ss0, ea0, hs0⟩, h⟩ := h
  obtain ⟨a, ss, z, j, rfl, rfl, hs, h1, h2, q⟩ := index_read h
  obtain rfl := V.ref.inj ea0
  have hs' : SqL X.K H a (ss.map V.str) := by
    rcases hs with hs | hs
    · exact hs
    · obtain ⟨_, _, p1, _⟩ := I.list hs0
      obtain ⟨_, _, p2, _⟩ := I.tuple hs.sq
      obtain ⟨o1, _, e1, c1, _⟩ := p1
      obtain ⟨o2, e2, c2, _⟩ := p2
      rw [e1] at e2
      cases e2
      rw [c1] at c2
      exact absurd c2 (by decide)
  refine mt_index pins s σ H _ _ v us Q I rx rs ⟨a, _, .str z, j, .str z, rfl, rfl, hs', rfl, flat_strsV ss, by rw [List.getElem?_map, h1]; rfl, by show (z == z) = true; simp, fun i z' hi hz => ?_, q⟩
  rw [List.getElem?_map] at hz
  obtain ⟨s1, hs1, rfl⟩ := Option.map_eq_some_iff.mp hz
  show (s1 == z) = false
  have : s1 ≠ z := fun e => h2 i hi (by rw [hs1, e])
  simp [this]
theorem mt_indexT (w : Wr) : MtR X "tuple.index" (fun vx vs H Q => (∃ a ss, vx = .ref a ∧ TupZ X.K H a ss) ∧ rDm X.K (mthD .index w) vx vs H Q) := by
  intro pins s σ H vx vs v us Q I rx rs h
  obtain ⟨⟨a0, ss0, ea0, hs0⟩, h⟩ := h
  obtain ⟨a, ss, z, j, rfl, rfl, hs, h1, h2, q⟩ := index_read h
  obtain rfl := V.ref.inj ea0
  have hs' : SqT X.K H a (ss.map V.str) := by
    rcases hs with hs | hs
    · obtain ⟨_, _, p1, _⟩ := I.list hs
      obtain ⟨_, _, p2, _⟩ := I.tuple hs0.sq
      obtain ⟨o1, _, e1, c1, _⟩ := p1
      obtain ⟨o2, e2, c2, _⟩ := p2
      rw [e1] at e2
      cases e2
      rw [c1] at c2
      exact absurd c2 (by decide)
    · exact hs.sq
  exact mt_tup_index pins s σ H _ _ v us Q I rx rs ⟨a, ss, z, j, rfl, rfl, hs', h1, h2, q⟩
theorem mt_joinD (w : Wr) : MtR X "str.join" (rDm X.K (mthD .join w)) := by
  intro pins s σ H vx vs v us Q I rx rs h
  obtain ⟨m, st, x, xs, d, st', R, hx, hxs, e, q⟩ := h
  simp only [mthD] at e
  split at e
  · rename_i z y
    split at e
    · rename_i ys hi
      split at e
      · rename_i ss hss
        split at e
        · rename_i hz
          cases e
          cases hx
          obtain ⟨vy, rfl, hy⟩ := one_of hxs
          obtain ⟨a, ws, rfl, r1, hs⟩ := hy.items R hi
          have ew := r1.strsV hss
          subst ew
          refine mt_join pins s σ H _ _ v us Q I rx rs ⟨z, a, ss, rfl, rfl, hs.elim .inl (fun t => .inr t.sq), ?_, ?_⟩
          · have e1 : ss.map (·.length) = ss.map Str.length := rfl
            rw [e1, Nat.mul_comm ss.length]
            omega
          · rw [TL.join_eq]
            exact q.now R (.str _)
        · cases e
      · cases e
    · cases e
  · cases e
/-- o.m(..), o a tuple known to its object -/
theorem pe_bmT {o e : Expr} {es : List Expr} {to : TE} {t : TA} {name : Str} {apos cpos : Pos} {id : String} {r : V → List V → Hp → VK → Prop} (slot : Slot "tuple" name id) (hty : typeOf (.builtin id) = pure (.type "method_descriptor")) (hm : MtR X id r) (ho : PE X o to) (ha : PA X (e :: es) t)
    (hbase : attributeBase o name X.env (eval o X.env) = eval o X.env)
    (hfew : ((backTo cpos (starEach (e :: es) X.env)).all (fun x => !x.1) && (backToKw cpos (keywordEach [] X.env)).all (fun x => x.1.isSome)
      && decide ((e :: es).length + ([] : List Keyword).length + (if ([] : List Keyword).isEmpty then 0 else 1) < 30)) = true)
    (hline : (apos.endLine == cpos.line) = true) (hs : starEach (e :: es) X.env = (false, eval e X.env) :: starEach es X.env) (hplain : (backTo cpos (starEach es X.env)).any (·.1) = false) :
    PE X (.Call (.Attribute o name apos) (e :: es) [] cpos) (fun σ H Q => to σ H fun x H1 => (∃ a vs, x = .ref a ∧ TupZ X.K H1 a vs) ∧ t σ H1 fun xs H2 => r x xs H2 Q) := by
  refine ⟨fun pins s σ H Q I h => ?_⟩
  refine wpAny_Call_method_late hbase hfew hline rfl (L2.thn (ho.run pins s σ H _ I h) fun v s1 ⟨x, H1, I1, r1, ty, q1⟩ => ?_)
  obtain ⟨a, vs, rfl, tz⟩ := ty
  cases r1
  obtain ⟨its, _, p, _⟩ := I1.tuple tz.sq
  refine ⟨"tuple", id, PySem.F.plainAttrs_tuple, slot, hty, p.typeIs, fun b eb => ?_, ?_⟩
  · cases eb
    rcases tz with ⟨ob, e1, _, d1⟩ | ⟨ob, _, _, k1, _, d1, _⟩
    · exact ⟨ob, (I1.hok _ _ e1).1, d1⟩
    · exact ⟨ob, I1.kIn _ ob k1, d1⟩
  · have hA := ha.run cpos pins s1 σ H1 _ I1 q1
    rw [hs] at hA ⊢
    refine Calls.callWith_builtin (by show (false || (backTo cpos (starEach es X.env)).any (·.1)) = false; rw [hplain] <;> rfl) (Calls.evalArgs_plain ?_)
    exact L2.thn hA fun us s2 ⟨vs2, H2, I2, r2, q2⟩ => hm pins s2 σ H2 (.ref a) vs2 (.ref a) us Q I2 rfl r2 q2
/-! ### isinstance -/
def tyS : Ty → String
  | .tup => "tuple" | .str => "str" | .int => "int" | .bool => "bool" | .list => "list"
theorem isi_run : CallR X (.builtin "isinstance") (fun vs H Q => ∃ (m : Mp) (st : Store) (x : D) (vx : V) (t : Ty) (k : Bool), vs = [vx, .ty (tyS t)] ∧ RSt X.K m st H ∧ RD X.K m H vx x ∧ isiD t st x = some k ∧ Q (.bl k) H) := by
  refine fun pins s σ H vs us Q I rv h => call_isi pins s σ H vs us Q I rv ?_
  obtain ⟨m, st, x, vx, t, k, rfl, R, hx, e, q⟩ := h
  cases hx with
  | non =>
    refine ⟨_, _, _, _, k, rfl, .ty _, .base .non, ?_, q⟩
    cases t <;> cases e <;> exact kit_ty (by decide +kernel)
  | bl b =>
    refine ⟨_, _, _, _, k, rfl, .ty _, .base (.bl _), ?_, q⟩
    cases t <;> cases e <;> exact kit_ty (by decide +kernel)
  | int i =>
    refine ⟨_, _, _, _, k, rfl, .ty _, .base (.int _), ?_, q⟩
    cases t <;> cases e <;> exact kit_ty (by decide +kernel)
  | str z =>
    refine ⟨_, _, _, _, k, rfl, .ty _, .base (.str _), ?_, q⟩
    cases t <;> cases e <;> exact kit_ty (by decide +kernel)
  | @tup a vs xs tz r =>
    have ty : TyX X.K H (.ref a) (.type "tuple") := by
      rcases tz with ⟨o, e1, _⟩ | ⟨o, _, _, k1, c1, _⟩
      · exact .fTuple e1
      · exact .kTuple k1 c1
    refine ⟨_, _, _, _, k, rfl, .ty _, ty, ?_, q⟩
    cases t <;> cases e <;> exact kit_ty (by decide +kernel)
  | rol => cases t <;> cases e
  | @ref r a ha =>
    have go : ∀ xs, lstAt st r = some xs → TyX X.K H (.ref a) (.type "list") := fun xs hl => by
      obtain ⟨ws, e1, _⟩ := R.lst hl ha
      exact .base (.lst e1)
    cases hl : lstAt st r with
    | none =>
      cases t <;> simp only [isiD, hl] at e <;> cases e
    | some xs =>
      refine ⟨_, _, _, _, k, rfl, .ty _, go xs hl, ?_, q⟩
      cases t <;> simp only [isiD, hl] at e <;> cases e <;> exact kit_ty (by decide +kernel)
end
end Iv
end
section
set_option Elab.async false
set_option linter.all false
set_option maxRecDepth 100000
/-! IvFr: what a run leaves as it was. -/
namespace Iv
open PySem L2
def Fr (w : Wr) (st st' : Store) : Prop := st.length ≤ st'.length ∧ ∀ r, w.can r = false → st'[r]? = st[r]?
theorem Fr.refl (w : Wr) (st : Store) : Fr w st st := ⟨Nat.le_refl _, fun _ _ => rfl⟩
theorem Fr.trans {w : Wr} {a b c : Store} (x : Fr w a b) (y : Fr w b c) : Fr w a c := ⟨Nat.le_trans x.1 y.1, fun r h => (y.2 r h).trans (x.2 r h)⟩
theorem can_lt {w : Wr} {r : Nat} (h : w.can r = false) : r < w.lim := by
  unfold Wr.can at h
  have := (Bool.or_eq_false_iff.mp h).1
  exact Nat.lt_of_not_le (of_decide_eq_false this)
theorem Fr.app {w : Wr} {st : Store} (hl : w.lim ≤ st.length) (l : Store) : Fr w st (st ++ l) := ⟨by rw [List.length_append]; omega, fun r h => by
  have := can_lt h
  rw [List.getElem?_append_left (by omega)]⟩
theorem Fr.set {w : Wr} {st : Store} {r : Nat} (hr : w.can r = true) (o : O) : Fr w st (st.set r o) := ⟨by rw [List.length_set]; exact Nat.le_refl _, fun q h => by
  have : q ≠ r := fun e => by
    rw [e, hr] at h
    cases h
  rw [List.getElem?_set_ne (Ne.symm this)]⟩
def OkF {A : Type} (w : Wr) (st : Store) (m : Option (A × Store)) : Prop := w.lim ≤ st.length → ∀ a st', m = some (a, st') → Fr w st st'
section
variable {A B : Type} {w : Wr} {st : Store}
theorem OkF.none : OkF (A := A) w st none := fun _ _ _ e => by cases e
theorem OkF.now {a : A} : OkF w st (some (a, st)) := fun _ _ _ e => by
  cases e
  exact Fr.refl w _
theorem OkF.step {m : Option (A × Store)} {f : A → Store → Option (B × Store)} {g : Option (B × Store)} (h : OkF w st m) (hf : ∀ a s1, m = some (a, s1) → OkF w s1 g) (hn : m = .none → OkF w st g) : OkF w st g := fun hl b st' e => by
  cases hm : m with
  | none => exact hn hm hl b st' e
  | some p =>
    have x := h hl p.1 p.2 (by rw [hm])
    exact x.trans (hf p.1 p.2 (by rw [hm]) (Nat.le_trans hl x.1) b st' e)
theorem OkF.bnd {m : Rs A} {f : A → Store → Rs B} (h : OkF w st m) (hf : ∀ a s1, OkF w s1 (f a s1)) : OkF w st (bnd m f) := fun hl b st' e => by
  unfold Iv.bnd at e
  split at e
  · rename_i a s1
    have x := h hl _ _ rfl
    exact x.trans (hf a s1 (Nat.le_trans hl x.1) b st' e)
  · cases e
    exact h hl _ _ rfl
  · cases e
theorem OkF.newL {xs : List D} : OkF w st (newL st xs) := fun hl _ _ e => by
  cases e
  exact Fr.app hl _
theorem OkF.ite {c : Prop} [Decidable c] {a b : Option (A × Store)} (ha : c → OkF w st a) (hb : ¬ c → OkF w st b) : OkF w st (if c then a else b) := by
  split
  · rename_i h
    exact ha h
  · rename_i h
    exact hb h
end
section
variable {w : Wr} {st : Store}
theorem ok_bin (o : Bop) (a b : D) : OkF w st (binD o a b st) := by
  unfold binD
  repeat' split
  all_goals first | exact OkF.now | exact OkF.newL | exact OkF.none
theorem ok_idx (a b : D) : OkF w st (idxD a b st) := by
  unfold idxD
  repeat' split
  all_goals first | exact OkF.now | exact OkF.newL | exact OkF.none
theorem ok_slc (a : D) (b c : Option Int) : OkF w st (slcO a b c st) := by
  unfold slcO
  repeat' split
  all_goals first | exact OkF.now | exact OkF.newL | exact OkF.none
theorem ok_rev (a : D) : OkF w st (revD a st) := by
  unfold revD
  repeat' split
  all_goals first | exact OkF.now | exact OkF.newL | exact OkF.none
theorem ok_bi (b : Bi) (as : List D) : OkF w st (biD b as st) := by
  unfold biD
  repeat' split
  all_goals first | exact OkF.now | exact OkF.newL | exact OkF.none
theorem OkF.setr {A : Type} {r : Nat} {o : O} {a : A} {c : Bool} (h : (w.can r && c) = true) : OkF w st (some (a, st.set r o)) := fun _ _ _ e => by
  cases e
  exact Fr.set (Bool.and_eq_true_iff.mp h).1 o
theorem OkF.setr1 {A : Type} {r : Nat} {o : O} {a : A} (h : w.can r = true) : OkF w st (some (a, st.set r o)) := fun _ _ _ e => by
  cases e
  exact Fr.set h o
theorem ok_mth (m : Mt) (o : D) (as : List D) : OkF w st (mthD m w o as st) := by
  unfold mthD
  repeat' split
  all_goals first | exact OkF.now | exact OkF.newL | exact OkF.none | exact OkF.setr (by assumption) | exact OkF.setr1 (by assumption)
/-! ### loops -/
theorem OkF.lft {m : Rs D} {env : Evn} {f : D → Store → Fs} (h : OkF w st m) (hf : ∀ d s1, OkF w s1 (f d s1)) : OkF w st (lft m env f) := fun hl b st' e => by
  unfold Iv.lft at e
  split at e
  · rename_i a s1
    have x := h hl _ _ rfl
    exact x.trans (hf a s1 (Nat.le_trans hl x.1) b st' e)
  · cases e
    exact h hl _ _ rfl
  · cases e
theorem OkF.lfts {m : Rs (List D)} {env : Evn} {f : List D → Store → Fs} (h : OkF w st m) (hf : ∀ d s1, OkF w s1 (f d s1)) : OkF w st (lfts m env f) := fun hl b st' e => by
  unfold Iv.lfts at e
  split at e
  · rename_i a s1
    have x := h hl _ _ rfl
    exact x.trans (hf a s1 (Nat.le_trans hl x.1) b st' e)
  · cases e
    exact h hl _ _ rfl
  · cases e
theorem OkF.sqn {m : Fs} {f : Evn → Store → Fs} (h : OkF w st m) (hf : ∀ d s1, OkF w s1 (f d s1)) : OkF w st (sqn m f) := fun hl b st' e => by
  unfold Iv.sqn at e
  split at e
  · rename_i a s1
    have x := h hl _ _ rfl
    exact x.trans (hf a s1 (Nat.le_trans hl x.1) b st' e)
  · exact h hl _ _ e
theorem OkF.turn {m : Fs} {f : Evn → Store → Fs} (h : OkF w st m) (hf : ∀ d s1, OkF w s1 (f d s1)) : OkF w st (turn m f) := fun hl b st' e => by
  unfold Iv.turn at e
  split at e
  · rename_i a s1
    have x := h hl _ _ rfl
    exact x.trans (hf a s1 (Nat.le_trans hl x.1) b st' e)
  · rename_i a s1
    have x := h hl _ _ rfl
    exact x.trans (hf a s1 (Nat.le_trans hl x.1) b st' e)
  · cases e
    exact h hl _ _ rfl
  · cases e
    exact h hl _ _ rfl
  · cases e
    exact h hl _ _ rfl
  · cases e
theorem ok_forT {body : Evn → Store → Fs} {g : Tg} (hb : ∀ e s, OkF w s (body e s)) : ∀ (xs : List D) (env : Evn) (st : Store), OkF w st (forT body g xs env st)
  | [], _, _ => OkF.now
  | x :: xs, env, st => by
    unfold forT
    split
    · exact OkF.turn (hb _ _) fun e s => ok_forT hb xs e s
    · exact OkF.none
theorem ok_forL {body : Evn → Store → Fs} {g : Tg} {r : Nat} (hb : ∀ e s, OkF w s (body e s)) : ∀ (k i : Nat) (env : Evn) (st : Store), OkF w st (forL body g r k i env st)
  | 0, _, _, _ => OkF.none
  | k + 1, i, env, st => by
    unfold forL
    repeat' split
    · exact OkF.turn (hb _ _) fun e s => ok_forL hb k (i + 1) e s
    · exact OkF.none
    · exact OkF.now
    · exact OkF.none
theorem ok_forSrc {body : Evn → Store → Fs} {g : Tg} (hb : ∀ e s, OkF w s (body e s)) (s : Src) (env : Evn) (st : Store) : OkF w st (forSrc body g s env st) := by
  unfold forSrc
  repeat' split
  · exact ok_forT hb _ _ _
  · exact ok_forL hb _ _ _ _
  · exact OkF.none
theorem ok_whl {c : Evn → Store → Rs D} {body : Evn → Store → Fs} (hc : ∀ e s, OkF w s (c e s)) (hb : ∀ e s, OkF w s (body e s)) : ∀ (k : Nat) (env : Evn) (st : Store), OkF w st (whlN c body k env st)
  | 0, _, _ => OkF.none
  | k + 1, env, st => by
    unfold whlN
    refine OkF.lft (hc _ _) fun d s => ?_
    repeat' split
    · exact OkF.turn (hb _ _) fun e s => ok_whl hc hb k e s
    · exact OkF.now
    · exact OkF.none
theorem ok_addTo {p : Nat} {m : Rs (Option D)} {f : Store → Rs D} (hp : w.can p = true) (h : OkF w st m) (hf : ∀ s1, OkF w s1 (f s1)) : OkF w st (addTo p m f) := fun hl b st' e => by
  unfold addTo at e
  split at e
  · rename_i y s1
    have x := h hl _ _ rfl
    split at e
    · split at e
      · have z := Fr.set (w := w) (st := s1) hp (.lst (by assumption ++ [y]))
        refine x.trans (Fr.trans (Fr.set hp _) (hf _ ?_ b st' e))
        rw [List.length_set]
        exact Nat.le_trans hl x.1
      · cases e
    · cases e
  · rename_i s1
    have x := h hl _ _ rfl
    exact x.trans (hf s1 (Nat.le_trans hl x.1) b st' e)
  · cases e
theorem ok_cmpT {f : Evn → Store → Rs (Option D)} {g : Tg} {env : Evn} {p : Nat} (hp : w.can p = true) (hf : ∀ e s, OkF w s (f e s)) : ∀ (xs : List D) (st : Store), OkF w st (cmpT f g env p xs st)
  | [], _ => OkF.now
  | x :: xs, st => by
    unfold cmpT
    split
    · exact ok_addTo hp (hf _ _) fun s => ok_cmpT hp hf xs s
    · exact OkF.none
theorem ok_cmpL {f : Evn → Store → Rs (Option D)} {g : Tg} {env : Evn} {p r : Nat} (hp : w.can p = true) (hf : ∀ e s, OkF w s (f e s)) : ∀ (k i : Nat) (st : Store), OkF w st (cmpL f g env p r k i st)
  | 0, _, _ => OkF.none
  | k + 1, i, st => by
    unfold cmpL
    repeat' split
    · exact ok_addTo hp (hf _ _) fun s => ok_cmpL hp hf k (i + 1) s
    · exact OkF.none
    · exact OkF.now
    · exact OkF.none
theorem ok_cmpSrc {f : Evn → Store → Rs (Option D)} {g : Tg} {env : Evn} (hf : ∀ e s, OkF w s (f e s)) (s : Src) (st : Store) : OkF w st (cmpSrc f g env s st) := fun hl b st' e => by
  have hp : w.can st.length = true := by
    unfold Wr.can
    rw [decide_eq_true hl]
    rfl
  have hl2 : w.lim ≤ (st ++ [O.lst []]).length := by
    rw [List.length_append]
    omega
  unfold cmpSrc at e
  split at e
  · exact (Fr.app hl _).trans (ok_cmpT hp hf _ _ hl2 _ _ e)
  · split at e
    · exact (Fr.app hl _).trans (ok_cmpL hp hf _ _ _ hl2 _ _ e)
    · cases e
end
/-! ### the evaluator -/
section
variable {c : Cfg} {cf : Wr → Nat → List D → Store → Rs D} {w : Wr}
variable (hcf : ∀ (w : Wr) (f : Nat) (as : List D) (st : Store), OkF w st (cf w f as st))
include hcf
mutual
theorem ok_evE : ∀ (e : E) (env : Evn) (st : Store), OkF w st (evE c cf w e env st)
  | .var i, env, st => by
    unfold evE
    split
    · exact OkF.now
    · exact OkF.none
  | .glb i, env, st => by
    unfold evE
    split
    · exact OkF.now
    · exact OkF.none
  | .cst d, env, st => by
    unfold evE
    exact OkF.now
  | .bin o a b, env, st => by
    unfold evE
    exact OkF.bnd (ok_evE a env st) fun x s1 => OkF.bnd (ok_evE b env s1) fun y s2 => ok_bin o x y
  | .neg a, env, st => by
    unfold evE
    refine OkF.bnd (ok_evE a env st) fun x s1 => ?_
    split
    · exact OkF.now
    · exact OkF.none
  | .cmp o a b, env, st => by
    unfold evE
    refine OkF.bnd (ok_evE a env st) fun x s1 => OkF.bnd (ok_evE b env s1) fun y s2 => ?_
    split
    · exact OkF.now
    · exact OkF.none
  | .cmp2 o1 o2 a b e, env, st => by
    unfold evE
    refine OkF.bnd (ok_evE a env st) fun x s1 => OkF.bnd (ok_evE b env s1) fun y s2 => ?_
    split
    · refine OkF.bnd (ok_evE e env s2) fun z s3 => ?_
      split
      · exact OkF.now
      · exact OkF.none
    · exact OkF.now
    · exact OkF.none
  | .and es, env, st => by
    unfold evE
    exact ok_evAnd es env st
  | .or es, env, st => by
    unfold evE
    exact ok_evOr es env st
  | .not a, env, st => by
    unfold evE
    refine OkF.bnd (ok_evE a env st) fun x s1 => ?_
    split
    · exact OkF.now
    · exact OkF.none
  | .ife e a b, env, st => by
    unfold evE
    refine OkF.bnd (ok_evE e env st) fun x s1 => ?_
    split
    · exact ok_evE a env s1
    · exact ok_evE b env s1
    · exact OkF.none
  | .tup es, env, st => by
    unfold evE
    refine OkF.bnd (ok_evEs es env st) fun x s1 => ?_
    split
    · exact OkF.now
    · exact OkF.none
  | .lst es, env, st => by
    unfold evE
    refine OkF.bnd (ok_evEs es env st) fun x s1 => ?_
    split
    · exact OkF.newL
    · exact OkF.none
  | .idx a b, env, st => by
    unfold evE
    exact OkF.bnd (ok_evE a env st) fun x s1 => OkF.bnd (ok_evE b env s1) fun y s2 => ok_idx x y
  | .slc a lo hi, env, st => by
    unfold evE
    refine OkF.bnd (ok_evE a env st) fun x s1 => OkF.bnd (ok_evEs lo env s1) fun y s2 => ?_
    split
    · refine OkF.bnd (ok_evEs hi env s2) fun z s3 => ?_
      split
      · exact ok_slc x _ _
      · exact OkF.none
    · exact OkF.none
  | .rev a, env, st => by
    unfold evE
    exact OkF.bnd (ok_evE a env st) fun x s1 => ok_rev x
  | .call f es, env, st => by
    unfold evE
    exact OkF.bnd (ok_evEs es env st) fun x s1 => hcf w f x s1
  | .bi b es, env, st => by
    unfold evE
    exact OkF.bnd (ok_evEs es env st) fun x s1 => ok_bi b x
  | .lrg es, env, st => by
    unfold evE
    refine OkF.bnd (ok_evEs es env st) fun x s1 => ?_
    repeat' split
    · exact OkF.newL
    · exact OkF.none
    · exact OkF.none
  | .mth m o es, env, st => by
    unfold evE
    exact OkF.bnd (ok_evE o env st) fun x s1 => OkF.ite (fun _ => OkF.bnd (ok_evEs es env s1) fun y s2 => ok_mth m x y) fun _ => OkF.none
  | .isi e t, env, st => by
    unfold evE
    refine OkF.bnd (ok_evE e env st) fun x s1 => ?_
    split
    · exact OkF.now
    · exact OkF.none
  | .comp g k es cs e own, env, st => by
    unfold evE
    refine OkF.bnd (ok_evEs es env st) fun x s1 => ?_
    split
    · refine ok_cmpSrc (fun e1 s2 => ?_) _ _
      split
      · exact OkF.bnd (ok_evE e e1 s2) fun _ _ => OkF.now
      · rename_i t
        refine OkF.bnd (ok_evE t e1 s2) fun k s3 => ?_
        split
        · exact OkF.bnd (ok_evE e e1 s3) fun _ _ => OkF.now
        · exact OkF.now
        · exact OkF.none
      · exact OkF.none
    · exact OkF.none
theorem ok_evEs : ∀ (es : Es) (env : Evn) (st : Store), OkF w st (evEs c cf w es env st)
  | .nil, _, _ => by
    unfold evEs
    exact OkF.now
  | .cons e es, env, st => by
    unfold evEs
    exact OkF.bnd (ok_evE e env st) fun x s1 => OkF.bnd (ok_evEs es env s1) fun y s2 => OkF.now
theorem ok_evAnd : ∀ (es : Es) (env : Evn) (st : Store), OkF w st (evAnd c cf w es env st)
  | .nil, _, _ => by
    unfold evAnd
    exact OkF.none
  | .cons e .nil, env, st => by
    unfold evAnd
    exact ok_evE e env st
  | .cons e (.cons e2 es), env, st => by
    unfold evAnd
    refine OkF.bnd (ok_evE e env st) fun x s1 => ?_
    split
    · exact ok_evAnd (.cons e2 es) env s1
    · exact OkF.now
    · exact OkF.none
theorem ok_evOr : ∀ (es : Es) (env : Evn) (st : Store), OkF w st (evOr c cf w es env st)
  | .nil, _, _ => by
    unfold evOr
    exact OkF.none
  | .cons e .nil, env, st => by
    unfold evOr
    exact ok_evE e env st
  | .cons e (.cons e2 es), env, st => by
    unfold evOr
    refine OkF.bnd (ok_evE e env st) fun x s1 => ?_
    split
    · exact ok_evOr (.cons e2 es) env s1
    · exact OkF.now
    · exact OkF.none
end
mutual
theorem ok_exS : ∀ (s : S) (env : Evn) (st : Store), OkF w st (exS c cf w s env st)
  | .set i e, env, st => by
    unfold exS
    exact OkF.lft (ok_evE hcf e env st) fun _ _ => OkF.now
  | .setT l e, env, st => by
    unfold exS
    refine OkF.lft (ok_evE hcf e env st) fun _ _ => ?_
    split
    · exact OkF.now
    · exact OkF.none
  | .par i j a b, env, st => by
    unfold exS
    exact OkF.lft (ok_evE hcf a env st) fun _ s1 => OkF.lft (ok_evE hcf b env s1) fun _ _ => OkF.now
  | .setI o i e, env, st => by
    unfold exS
    refine OkF.lft (ok_evE hcf e env st) fun _ s1 => OkF.lft (ok_evE hcf o env s1) fun _ s2 => OkF.lft (ok_evE hcf i env s2) fun _ s3 => ?_
    repeat' split
    all_goals first | exact OkF.none | exact OkF.setr1 (by assumption)
  | .ife e a b, env, st => by
    unfold exS
    refine OkF.lft (ok_evE hcf e env st) fun _ s1 => ?_
    split
    · exact ok_exSs a env s1
    · exact ok_exSs b env s1
    · exact OkF.none
  | .forS g k es b, env, st => by
    unfold exS
    refine OkF.lfts (ok_evEs hcf es env st) fun _ s1 => ?_
    split
    · exact ok_forSrc (fun e s => ok_exSs b e s) _ _ _
    · exact OkF.none
  | .whl e b, env, st => by
    unfold exS
    exact ok_whl (fun e1 s => ok_evE hcf e e1 s) (fun e s => ok_exSs b e s) _ _ _
  | .ret e, env, st => by
    unfold exS
    exact OkF.lft (ok_evE hcf e env st) fun _ _ => OkF.now
  | .retN, env, st => by
    unfold exS
    exact OkF.now
  | .expr e, env, st => by
    unfold exS
    exact OkF.lft (ok_evE hcf e env st) fun _ _ => OkF.now
  | .brk, env, st => by
    unfold exS
    exact OkF.now
  | .cont, env, st => by
    unfold exS
    exact OkF.now
  | .pass, env, st => by
    unfold exS
    exact OkF.now
theorem ok_exSs : ∀ (s : Ss) (env : Evn) (st : Store), OkF w st (exSs c cf w s env st)
  | .nil, env, st => by
    unfold exSs
    exact OkF.now
  | .cons s ss, env, st => by
    unfold exSs
    exact OkF.sqn (ok_exS s env st) fun e s1 => ok_exSs ss e s1
end
end
theorem upds_spec {st st1 : Store} : ∀ {oks : List Nat} {s0 s2 : Store}, (∀ r ∈ oks, r < s0.length) → s0.length = st.length →
    (let rec go : List Nat → Store → Option Store := fun l s => upds s st1 l; upds s0 st1 oks) = some s2 → s2.length = s0.length ∧ (∀ r, r ∉ oks → s2[r]? = s0[r]?) ∧ ∀ r, r ∈ oks → ∃ o, s2[r]? = some o ∧ st1[r]? = some o ∧ loO s0.length o = true := by
  intro oks
  induction oks with
  | nil =>
    intro s0 s2 _ _ h
    cases h
    exact ⟨rfl, fun _ _ => rfl, fun r hr => by cases hr⟩
  | cons q qs ih =>
    intro s0 s2 hb hl h
    have h : upds s0 st1 (q :: qs) = some s2 := h
    unfold upds at h
    split at h
    · rename_i o ho
      split at h
      · rename_i hlo
        have hq : q < s0.length := hb q List.mem_cons_self
        obtain ⟨h1, h2, h3⟩ := ih (s0 := s0.set q o) (s2 := s2) (fun r hr => by rw [List.length_set]; exact hb r (List.mem_cons_of_mem _ hr)) (by rw [List.length_set]; exact hl) h
        rw [List.length_set] at h1 h3
        refine ⟨h1, fun r hr => ?_, fun r hr => ?_⟩
        · have n1 : r ≠ q := fun e => hr (e ▸ List.mem_cons_self)
          rw [h2 r (fun m => hr (List.mem_cons_of_mem _ m)), List.getElem?_set_ne (Ne.symm n1)]
        · by_cases hm : r ∈ qs
          · exact h3 r hm
          · rcases List.mem_cons.mp hr with e | e
            · subst e
              refine ⟨o, ?_, ho, hlo⟩
              rw [h2 r hm, List.getElem?_set_self hq]
            · exact absurd e hm
      · cases h
    · cases h
theorem ok_callI (c : Cfg) : ∀ (n : Nat) (w : Wr) (f : Nat) (as : List D) (st : Store), OkF w st (callI c n w f as st)
  | 0, _, _, _, _ => OkF.none
  | n + 1, w, f, as, st => by
    unfold callI
    split
    · exact OkF.none
    · rename_i fn _
      split
      · split
        · intro hl a st' e
          unfold leaveR at e
          have h := ok_exSs (c := c) (cf := callI c n) (w := w) (ok_callI c n) fn.body (envOf fn as) st
          split at e <;> cases e <;> (rename_i hh; exact h hl _ _ hh)
        · rename_i ps _
          split
          · rename_i oks hoks
            split
            · rename_i hc
              intro hl a st' e
              obtain ⟨hc1, hc2⟩ := Bool.and_eq_true_iff.mp hc
              have hlt : ∀ r ∈ oks, r < st.length := fun r hr => of_decide_eq_true (List.all_eq_true.mp hc2 r hr)
              have key : ∀ st1 s2, upds st st1 oks = some s2 → s2.length = st.length ∧ Fr w st s2 := fun st1 s2 hu => by
                obtain ⟨h1, h2, h3⟩ := upds_spec (st := st) (st1 := st1) (oks := oks) (s0 := st) (s2 := s2) hlt rfl hu
                refine ⟨h1, Nat.le_of_eq h1.symm, fun r hr => h2 r fun hm => ?_⟩
                rw [List.all_eq_true.mp hc1 r hm] at hr
                cases hr
              unfold leave at e
              split at e
              · split at e
                · rename_i s2 hu
                  cases e
                  exact (key _ _ hu).2
                · cases e
              · split at e
                · rename_i s2 hu
                  obtain ⟨k1, k2⟩ := key _ _ hu
                  split at e
                  · cases e
                    exact k2
                  · split at e
                    · split at e
                      · split at e
                        · cases e
                          exact k2.trans (Fr.app (by rw [k1]; exact hl) _)
                        · cases e
                      · cases e
                    · cases e
                · cases e
              · split at e
                · rename_i s2 hu
                  split at e
                  · cases e
                    exact (key _ _ hu).2
                  · cases e
                · cases e
              · cases e
            · exact OkF.none
          · exact OkF.none
      · exact OkF.none
end Iv
end
section
set_option Elab.async false
set_option linter.all false
set_option maxRecDepth 100000
/-! IvChk: is this syntax that piece of our language? -/
namespace Iv
open PySem PySem.Spec PyProof.Rows L2
structure Nm where
  N : List Str
  fns : List Str
  cs : List Str
def visB (sc : Scope) (x : Str) : Bool := match sc.names.lookup x with
  | some .local => true
  | some .cell => true
  | some .free => true
  | _ => false
def locB (sc : Scope) (x : Str) : Bool := match sc.names.lookup x with
  | some .local => true
  | some .cell => true
  | _ => false
def localB (sc : Scope) (x : Str) : Bool := match sc.names.lookup x with
  | some .local => true
  | _ => false
def gloB (sc : Scope) (x : Str) : Bool := match sc.names.lookup x with
  | some .globalImplicit => true
  | _ => false
def okN (x : Str) : Bool := !(x == ("__debug__" : Str)) && !(x == ("__classdict__" : Str)) && !decide (x = ("__name__" : Str))
def isN (l : List Str) (i : Nat) (x : Str) : Bool := match l[i]? with
  | some y => decide (y = x)
  | none => false
def plainE : Expr → Bool
  | .BoolOp .. => true | .BinOp .. => true | .UnaryOp .. => true | .IfExp .. => true | .Compare .. => true | .Call .. => true | .Constant .. => true
  | .Attribute .. => true | .Subscript .. => true | .Name .. => true | .List .. => true | .Tuple .. => true | .ListComp .. => true
  | _ => false
def baseE : Expr → Bool
  | .Call (.Name _ _) [] [] _ => false
  | .BoolOp .. => true | .BinOp .. => true | .UnaryOp .. => true | .IfExp .. => true | .Compare .. => true | .Call .. => true | .Constant .. => true
  | .Attribute .. => true | .Subscript .. => true | .Name .. => true | .List .. => true | .Tuple .. => true | .ListComp .. => true
  | _ => false
def isLc : Expr → Bool
  | .ListComp .. => true
  | _ => false
def isTup : Expr → Bool
  | .Tuple .. => true
  | _ => false
def zipOk (k : Ik) (tg : Expr) : Bool := match k with
  | .zip => isTup tg
  | _ => true
def constIs : Const → D → Bool
  | .int i, .int j => decide (i = j)
  | .str a, .str b => decide (a = b)
  | .bool a, .bl b => a == b
  | .none, .non => true
  | _, _ => false
def bopIs : Operator → Bop → Bool
  | .Add, .add => true | .Sub, .sub => true | .Mult, .mul => true | .FloorDiv, .fdiv => true | .Mod, .mod => true | .Pow, .pow => true
  | .LShift, .shl => true | .RShift, .shr => true | .BitAnd, .band => true | .BitOr, .bor => true
  | _, _ => false
def copIs : CmpOp → Cop → Bool
  | .Eq, .eq => true | .NotEq, .ne => true | .Lt, .lt => true | .LtE, .le => true | .Gt, .gt => true | .GtE, .ge => true
  | .Is, .is_ => true | .IsNot, .isn => true | .In, .in_ => true | .NotIn, .nin => true
  | _, _ => false
def biN : Bi → Str
  | .len => "len" | .list => "list" | .tuple => "tuple" | .sorted => "sorted" | .max => "max" | .min => "min"
  | .abs => "abs" | .int => "int" | .str => "str" | .sum => "sum" | .all => "all" | .any => "any"
def mtN : Mt → Str
  | .append => "append" | .extend => "extend" | .pop => "pop" | .index => "index" | .join => "join" | .split => "split" | .partition => "partition" | .strip => "strip" | .startswith => "startswith"
def mtOk : Mt → Bool
  | .append => true | .extend => true | .pop => true | .index => true | .join => true
  | _ => false
def tyN : Ty → Str
  | .tup => "tuple" | .str => "str" | .int => "int" | .bool => "bool" | .list => "list"
def allEs (f : Expr → E → Bool) : List Expr → Es → Bool
  | [], .nil => true
  | e :: es, .cons i is => f e i && allEs f es is
  | _, _ => false
def allNs (nm : Nm) (sc : Scope) (fnc : Str → Bool) : List Expr → List Nat → Bool
  | [], [] => true
  | .Name x _ :: es, i :: is => isN nm.N i x && locB sc x && (fnc x || localB sc x) && allNs nm sc fnc es is
  | _, _ => false
def chkG (nm : Nm) (sc : Scope) (fnc : Str → Bool) (e : Expr) : Tg → Bool
  | .name i => match e with
    | .Name x _ => isN nm.N i x && locB sc x && (fnc x || localB sc x)
    | _ => false
  | .tup l => match e with
    | .Tuple es _ _ => allNs nm sc fnc es l
    | _ => false
def ownOf (N : List Str) (own : List Nat) : List (Str × Nat) := own.map fun i => ((N[i]?).getD Str.empty, i)
def tgIn (own : List Nat) : Tg → Bool
  | .name i => own.contains i
  | .tup l => l.all own.contains
def chkIt (sc : Scope) (f : Expr → E → Bool) (k : Ik) (iter : Expr) (es : Es) : Bool := match k with
  | .seq => match es with
    | .cons e .nil => f iter e
    | _ => false
  | .range => match iter with
    | .Call (.Name x _) as [] _ => decide (x = ("range" : Str)) && gloB sc x && (as.length == 1 || as.length == 2) && allEs f as es
    | _ => false
  | .rrange => match iter with
    | .Call (.Name y _) [.Call (.Name x _) as [] _] [] _ => decide (y = ("reversed" : Str)) && gloB sc y && decide (x = ("range" : Str)) && gloB sc x && (as.length == 1 || as.length == 2) && allEs f as es
    | _ => false
  | .zip => match iter with
    | .Call (.Name x _) [a, b] [] _ => decide (x = ("zip" : Str)) && gloB sc x && allEs f [a, b] es
    | _ => false
def partIs (f : Expr → E → Bool) : Option Expr → Es → Bool
  | none, .nil => true
  | some e, .cons i .nil => f e i
  | _, _ => false
def chkE (nm : Nm) : Nat → Scope → Expr → E → Bool
  | 0, _, _, _ => false
  | n + 1, sc, e, ir => plainE e && match ir with
    | .var i => match e with
      | .Name x _ => isN nm.N i x && visB sc x && okN x
      | _ => false
    | .glb i => match e with
      | .Name x _ => isN nm.cs i x && gloB sc x && okN x
      | _ => false
    | .cst d => match e with
      | .Constant c _ _ => constIs c d
      | _ => false
    | .bin o a b => match e with
      | .BinOp a' o' b' _ => bopIs o' o && chkE nm n sc a' a && chkE nm n sc b' b
      | _ => false
    | .neg a => match e with
      | .UnaryOp .USub a' _ => chkE nm n sc a' a
      | _ => false
    | .not a => match e with
      | .UnaryOp .Not a' _ => chkE nm n sc a' a
      | _ => false
    | .cmp o a b => match e with
      | .Compare a' [o'] [b'] _ => copIs o' o && chkE nm n sc a' a && chkE nm n sc b' b
      | _ => false
    | .cmp2 o1 o2 a b c => match e with
      | .Compare a' [p1, p2] [b', c'] _ => copIs p1 o1 && copIs p2 o2 && chkE nm n sc a' a && chkE nm n sc b' b && chkE nm n sc c' c
      | _ => false
    | .and es => match e with
      | .BoolOp .And (v :: vs) _ => allEs (chkE nm n sc) (v :: vs) es
      | _ => false
    | .or es => match e with
      | .BoolOp .Or (v :: vs) _ => allEs (chkE nm n sc) (v :: vs) es
      | _ => false
    | .ife c a b => match e with
      | .IfExp c' a' b' _ => chkE nm n sc c' c && chkE nm n sc a' a && chkE nm n sc b' b
      | _ => false
    | .tup es => match e with
      | .Tuple vs _ _ => allEs (chkE nm n sc) vs es
      | _ => false
    | .lst es => match e with
      | .List vs _ => allEs (chkE nm n sc) vs es
      | _ => false
    | .idx a b => match e with
      | .Subscript a' b' _ => chkE nm n sc a' a && chkE nm n sc b' b
      | _ => false
    | .slc a lo hi => match e with
      | .Subscript a' (.Slice lo' hi' none _) _ => chkE nm n sc a' a && partIs (chkE nm n sc) lo' lo && partIs (chkE nm n sc) hi' hi
      | _ => false
    | .rev a => match e with
      | .Subscript a' (.Slice none none (some (.UnaryOp .USub (.Constant (.int 1) _ _) _)) _) _ => chkE nm n sc a' a
      | _ => false
    | .call f es => match e with
      | .Call (.Name x _) (v :: vs) [] _ => isN nm.fns f x && gloB sc x && okN x && allEs (chkE nm n sc) (v :: vs) es
      | _ => false
    | .bi b es => match e with
      | .Call (.Name x _) (v :: vs) [] _ => decide (x = biN b) && gloB sc x && okN x && allEs (chkE nm n sc) (v :: vs) es
      | _ => false
    | .lrg es => match e with
      | .Call (.Name y _) [.Call (.Name x _) as [] _] [] _ => decide (y = ("list" : Str)) && gloB sc y && decide (x = ("range" : Str)) && gloB sc x && (as.length == 1 || as.length == 2) && allEs (chkE nm n sc) as es
      | _ => false
    | .mth m o es => match e with
      | .Call (.Attribute o' x ap) vs [] p => decide (x = mtN m) && mtOk m && baseE o' && decide (ap.endLine = p.line) && decide (vs.length < 20) && chkE nm n sc o' o && allEs (chkE nm n sc) vs es
      | _ => false
    | .isi a t => match e with
      | .Call (.Name x _) [a', .Name y _] [] _ => decide (x = ("isinstance" : Str)) && gloB sc x && decide (y = tyN t) && gloB sc y && chkE nm n sc a' a
      | _ => false
    | .comp g k es cs elt own => match e with
      | .ListComp elt' [⟨tg, iter, ifs, z⟩] scope _ => decide (z = 0) && blkC nm.N sc scope (ownOf nm.N own) && tgIn own g && chkIt sc (chkE nm n sc) k iter es && zipOk k tg &&
          chkG nm (relS scope sc) (fun x => scope.names.lookup x == some .cell) tg g && allEs (chkE nm n (relS scope sc)) ifs cs && decide (ifs.length ≤ 1) && chkE nm n (relS scope sc) elt' elt
      | _ => false
def allSs (f : Stmt → S → Bool) : List Stmt → Ss → Bool
  | [], .nil => true
  | e :: es, .cons i is => f e i && allSs f es is
  | _, _ => false
def yes : Str → Bool := fun _ => true
def chkS (nm : Nm) (sc : Scope) : Nat → Stmt → S → Bool
  | 0, _, _ => false
  | n + 1, s, ir => match ir with
    | .set i e => match s with
      | .Assign [.Name x _] v _ => isN nm.N i x && locB sc x && chkE nm n sc v e
      | _ => false
    | .setT l e => match s with
      | .Assign [.Tuple ts _ _] v _ => allNs nm sc yes ts l && !isTup v && !isLc v && chkE nm n sc v e
      | _ => false
    | .par _ _ _ _ => false
    | .setI o i e => match s with
      | .Assign [.Subscript o' i' _] v _ => chkE nm n sc o' o && chkE nm n sc i' i && chkE nm n sc v e && !isTup v && !isLc v
      | _ => false
    | .ife c a b => match s with
      | .If c' a' b' _ => chkE nm n sc c' c && allSs (chkS nm sc n) a' a && allSs (chkS nm sc n) b' b
      | _ => false
    | .forS g k es b => match s with
      | .For tg iter b' [] _ => chkG nm sc yes tg g && chkIt sc (chkE nm n sc) k iter es && zipOk k tg && allSs (chkS nm sc n) b' b
      | _ => false
    | .whl c b => match s with
      | .While c' b' [] _ => chkE nm n sc c' c && allSs (chkS nm sc n) b' b
      | _ => false
    | .ret e => match s with
      | .Return (some v) _ => chkE nm n sc v e
      | _ => false
    | .retN => match s with
      | .Return none _ => true
      | _ => false
    | .expr e => match s with
      | .Expr v _ => chkE nm n sc v e && !isLc v
      | _ => false
    | .brk => match s with
      | .Break _ => true
      | _ => false
    | .cont => match s with
      | .Continue _ => true
      | _ => false
    | .pass => match s with
      | .Pass _ => true
      | _ => false
end Iv
end
section
set_option Elab.async false
set_option linter.all false
set_option maxRecDepth 100000
/-! IvSnd: the judgements, plain syntax, arguments, slots. -/
namespace Iv
open PySem PySem.Spec PyProof.Rows L2
/-! ### the weakest readings -/
def wpE (X : Cx) (e : Expr) : TE := fun σ H Q => ∀ (pins : List (Addr × Obj)) (s : Shared), Inv X pins σ H s → wpAny (model X.prog X.w) X.A (eval e X.env) (EP X pins σ Q) X.xe s
theorem pe_w {X : Cx} (e : Expr) : PE X e (wpE X e) := ⟨fun pins s _ _ _ I h => h pins s I⟩
theorem of_pe {X : Cx} {e : Expr} {t : TE} (h : PE X e t) {σ : L2.St} {H : Hp} {Q : VK} (q : t σ H Q) : wpE X e σ H Q := fun pins s I => h.run pins s σ H Q I q
def wpT (X : Cx) (e : Expr) : TT := fun σ H Q => ∀ (pins : List (Addr × Obj)) (s : Shared), Inv X pins σ H s → wpAny (model X.prog X.w) X.A (isTrue e X.env (eval e X.env)) (TP X pins σ Q) X.xe s
theorem pt_w {X : Cx} (e : Expr) : PT X e (wpT X e) := ⟨fun pins s _ _ _ I h => h pins s I⟩
theorem of_pt {X : Cx} {e : Expr} {t : TT} (h : PT X e t) {σ : L2.St} {H : Hp} {Q : Bool → Hp → Prop} (q : t σ H Q) : wpT X e σ H Q := fun pins s I => h.run pins s σ H Q I q
def wpS (X : Cx) (st : Stmt) : TS := fun D σ H => ∀ (pins : List (Addr × Obj)) (s : Shared), Inv X pins σ H s → wpAny (model X.prog X.w) X.A (exec st X.env) (SP X pins D) X.xe s
theorem ps_w {X : Cx} (st : Stmt) : PS X st (wpS X st) := ⟨fun pins s _ _ _ I h => h pins s I⟩
theorem of_ps {X : Cx} {st : Stmt} {t : TS} (h : PS X st t) {σ : L2.St} {H : Hp} {D : Ends} (q : t D σ H) : wpS X st D σ H := fun pins s I => h.run pins s σ H D I q
def wpSs (X : Cx) (st : List Stmt) : TS := fun D σ H => ∀ (pins : List (Addr × Obj)) (s : Shared), Inv X pins σ H s → wpAny (model X.prog X.w) X.A (execs st X.env) (SP X pins D) X.xe s
theorem pss_w {X : Cx} (st : List Stmt) : PSs X st (wpSs X st) := ⟨fun pins s _ _ _ I h => h pins s I⟩
theorem of_pss {X : Cx} {st : List Stmt} {t : TS} (h : PSs X st t) {σ : L2.St} {H : Hp} {D : Ends} (q : t D σ H) : wpSs X st D σ H := fun pins s I => h.run pins s σ H D I q
/-! ### plain syntax -/
section
variable {env : Env} {e : Expr}
theorem plain_star (h : plainE e = true) (es : List Expr) : starEach (e :: es) env = (false, eval e env) :: starEach es env := by
  cases e <;> first | rfl | cases h
theorem plain_behind (h : plainE e = true) (op : CmpOp) : behindInMarks op e = false := by
  cases e <;> first | rfl | cases h
theorem plain_fold (h : plainE e = true) : ∀ x, foldedSetIterable e env x = pure x := by
  intro x
  cases e <;> first | rfl | cases h
theorem plain_ix (h : plainE e = true) : PlainIx e := by
  intro o i
  cases e <;> first | rfl | cases h
theorem base_attr (h : baseE e = true) (name : Str) : attributeBase e name env (eval e env) = eval e env := by
  cases e with
  | Call f args kws pos =>
    cases f with
    | Name x p =>
      cases args with
      | nil =>
        cases kws with
        | nil => cases h
        | cons _ _ => rfl
      | cons _ _ => rfl
    | _ => rfl
  | _ => first | rfl | cases h
theorem stars_all : ∀ {es : List Expr}, (∀ e ∈ es, plainE e = true) → ∀ t ∈ starEach es env, t.1 = false
  | [], _, t, ht => by cases ht
  | e :: es, h, t, ht => by
    rw [plain_star (h e List.mem_cons_self)] at ht
    rcases List.mem_cons.mp ht with r | r
    · rw [r]
    · exact stars_all (fun e he => h e (List.mem_cons_of_mem _ he)) t r
theorem backs_any {es : List Expr} (h : ∀ e ∈ es, plainE e = true) (pos : Pos) : (backTo pos (starEach es env)).any (·.1) = false := by
  rw [List.any_eq_false]
  intro t ht
  unfold backTo at ht
  obtain ⟨u, hu, rfl⟩ := List.mem_map.mp ht
  have := stars_all h u hu
  rw [this]
  decide
theorem backs_all {es : List Expr} (h : ∀ e ∈ es, plainE e = true) (pos : Pos) (hz : es.length < 30) : ((backTo pos (starEach es env)).all (fun x => !x.1) && (backToKw pos (keywordEach [] env)).all (fun x => x.1.isSome)
      && decide (es.length + ([] : List Keyword).length + (if ([] : List Keyword).isEmpty then 0 else 1) < 30)) = true := by
  have h1 : (backTo pos (starEach es env)).all (fun x => !x.1) = true := by
    rw [List.all_eq_true]
    intro t ht
    unfold backTo at ht
    obtain ⟨u, hu, rfl⟩ := List.mem_map.mp ht
    have := stars_all h u hu
    rw [this]
    rfl
  rw [h1]
  have h2 : (backToKw pos (keywordEach [] env)).all (fun x => x.1.isSome) = true := rfl
  rw [h2]
  have h3 : decide (es.length + ([] : List Keyword).length + (if ([] : List Keyword).isEmpty then 0 else 1) < 30) = true := decide_eq_true (by
    show es.length + 0 + 0 < 30
    omega)
  rw [h3]
  rfl
end
/-- arguments, from the left -/
def tEs (X : Cx) : List Expr → TA
  | [] => tNil
  | e :: es => tCons (wpE X e) (tEs X es)
theorem pa_tEs {X : Cx} : ∀ {es : List Expr}, (∀ e ∈ es, plainE e = true) → PA X es (tEs X es)
  | [], _ => pa_nil
  | e :: es, h => pa_cons (pe_w e) (pa_tEs fun x hx => h x (List.mem_cons_of_mem _ hx)) (plain_star (h e List.mem_cons_self) es)
/-- and, or -/
def tAnds (X : Cx) : List Expr → TT
  | [] => fun _ _ _ => False
  | [e] => wpT X e
  | e :: e2 :: es => tAnd (wpT X e) (tAnds X (e2 :: es))
theorem pw_ands {X : Cx} {pos : Pos} : ∀ (e : Expr) (es : List Expr), PW X (.BoolOp .And (e :: es) pos) (tAnds X (e :: es))
  | e, [] => pw_and1 (pt_w e)
  | e, e2 :: es => pw_and (pt_w e) (pw_ands e2 es)
def tOrs (X : Cx) : List Expr → TT
  | [] => fun _ _ _ => False
  | [e] => wpT X e
  | e :: e2 :: es => tOr (wpT X e) (tOrs X (e2 :: es))
theorem pw_ors {X : Cx} {pos : Pos} : ∀ (e : Expr) (es : List Expr), PW X (.BoolOp .Or (e :: es) pos) (tOrs X (e :: es))
  | e, [] => pw_or1 (pt_w e)
  | e, e2 :: es => pw_or (pt_w e) (pw_ors e2 es)
def tAndsV (X : Cx) : List Expr → TE
  | [] => fun _ _ _ => False
  | [e] => wpE X e
  | e :: e2 :: es => tAndV (wpE X e) (tAndsV X (e2 :: es))
theorem pe_ands {X : Cx} {pos : Pos} : ∀ (e : Expr) (es : List Expr), PE X (.BoolOp .And (e :: es) pos) (tAndsV X (e :: es))
  | e, [] => pe_one (pe_w e)
  | e, e2 :: es => pe_and (pe_w e) (pe_ands e2 es)
def tOrsV (X : Cx) : List Expr → TE
  | [] => fun _ _ _ => False
  | [e] => wpE X e
  | e :: e2 :: es => tOrV (wpE X e) (tOrsV X (e2 :: es))
theorem pe_ors {X : Cx} {pos : Pos} : ∀ (e : Expr) (es : List Expr), PE X (.BoolOp .Or (e :: es) pos) (tOrsV X (e :: es))
  | e, [] => pe_one (pe_w e)
  | e, e2 :: es => pe_or (pe_w e) (pe_ors e2 es)
/-! ### slots -/
structure REnv (K : PySem.W.Frag) (m : Mp) (H : Hp) (σ : L2.St) (env : Evn) : Prop where
  len : σ.length = env.length
  at_ : ∀ (i : Nat) (d : D), env[i]? = some (some d) → ∃ v, σ[i]? = some (some v) ∧ RD K m H v d
section
variable {K : PySem.W.Frag} {m m' : Mp} {H H' : Hp} {σ : L2.St} {env : Evn}
theorem REnv.mono (x : Ext m m') (t : Tx H H') (r : REnv K m H σ env) : REnv K m' H' σ env := ⟨r.len, fun i d e => by
  obtain ⟨v, h1, h2⟩ := r.at_ i d e
  exact ⟨v, h1, h2.mono x t⟩⟩
theorem REnv.set (r : REnv K m H σ env) {v : V} {d : D} (h : RD K m H v d) (i : Nat) : REnv K m H (σ.set i (some v)) (env.set i (some d)) := ⟨by rw [List.length_set, List.length_set]; exact r.len, fun j e he => by
  by_cases hj : j = i
  · subst hj
    have hl : j < env.length := by
      have := (List.getElem?_eq_some_iff.mp he).1
      rw [List.length_set] at this
      exact this
    rw [List.getElem?_set_self hl] at he
    cases he
    exact ⟨v, List.getElem?_set_self (by rw [r.len]; exact hl), h⟩
  · rw [List.getElem?_set_ne (Ne.symm hj)] at he
    rw [List.getElem?_set_ne (Ne.symm hj)]
    exact r.at_ j e he⟩
theorem REnv.setN (r : REnv K m H σ env) (i : Nat) : REnv K m H (σ.set i none) (env.set i none) := ⟨by rw [List.length_set, List.length_set]; exact r.len, fun j e he => by
  by_cases hj : j = i
  · subst hj
    have hl : j < env.length := by
      have := (List.getElem?_eq_some_iff.mp he).1
      rw [List.length_set] at this
      exact this
    rw [List.getElem?_set_self hl] at he
    cases he
  · rw [List.getElem?_set_ne (Ne.symm hj)] at he
    rw [List.getElem?_set_ne (Ne.symm hj)]
    exact r.at_ j e he⟩
theorem REnv.wipe (r : REnv K m H σ env) : ∀ own : List Nat, REnv K m H (wipe σ own) (wipeD env own)
  | [] => r
  | v :: vs => (REnv.wipe r vs).setN v
theorem bindL_of : ∀ {l : List Nat} {vs : List V} {xs : List D} {σ : L2.St} {env e1 : Evn}, RDs K m H vs xs → bindL l xs env = some e1 → REnv K m H σ env → REnv K m H ((l.zip vs).foldl (fun s p => s.set p.1 (some p.2)) σ) e1 ∧ vs.length = l.length
  | [], _, _, _, _, _, .nil, e, r => by
    cases e
    exact ⟨r, rfl⟩
  | i :: is, _, _, _, _, _, .cons h t, e, r => by
    have z := bindL_of (l := is) t e (r.set h i)
    exact ⟨z.1, congrArg (· + 1) z.2⟩
  | [], _, _, _, _, _, .cons _ _, e, _ => by cases e
  | _ :: _, _, _, _, _, _, .nil, e, _ => by cases e
end
/-- targets -/
def gNames : List Nat → TGs
  | [] => gNil
  | i :: is => gCons (gName i) (gNames is)
def tG (K : PySem.W.Frag) : Tg → TG
  | .name i => gName i
  | .tup l => gTup K l.length (gNames l)
theorem gNames_run : ∀ {l : List Nat} {vs : List V} {σ : L2.St} {H : Hp} {Q : L2.St → Hp → Prop}, vs.length = l.length → Q ((l.zip vs).foldl (fun s p => s.set p.1 (some p.2)) σ) H → gNames l vs σ H Q
  | [], [], _, _, _, _, h => ⟨rfl, h⟩
  | i :: is, v :: vs, _, _, _, hl, h => ⟨v, vs, rfl, gNames_run (Nat.succ.inj hl) h⟩
  | [], _ :: _, _, _, _, hl, _ => by cases hl
  | _ :: _, [], _, _, _, hl, _ => by cases hl
theorem fold_wipe {own : List Nat} : ∀ {l : List Nat} {vs : List V} {σ τ : L2.St}, (∀ i ∈ l, i ∈ own) → wipe σ own = wipe τ own → wipe ((l.zip vs).foldl (fun s p => s.set p.1 (some p.2)) σ) own = wipe τ own := by
  have one : ∀ {i : Nat} {v : V} {σ : L2.St} {own : List Nat}, i ∈ own → wipe (σ.set i (some v)) own = wipe σ own := by
    intro i v σ own
    induction own with
    | nil => intro h; cases h
    | cons j js ih =>
      intro h
      show (wipe (σ.set i (some v)) js).set j none = (wipe σ js).set j none
      by_cases hj : i ∈ js
      · rw [ih hj]
      · rcases List.mem_cons.mp h with e | e
        · subst e
          have key : ∀ ks : List Nat, i ∉ ks → wipe (σ.set i (some v)) ks = (wipe σ ks).set i (some v) := by
            intro ks
            induction ks with
            | nil => intro _; rfl
            | cons k ks ihk =>
              intro hk
              show (wipe (σ.set i (some v)) ks).set k none = ((wipe σ ks).set k none).set i (some v)
              rw [ihk fun z => hk (List.mem_cons_of_mem _ z)]
              exact List.set_comm _ _ (fun e => hk (e ▸ List.mem_cons_self))
          rw [key js hj, List.set_set]
        · exact absurd e hj
  intro l
  induction l with
  | nil => intro vs σ τ _ h; exact h
  | cons i is ih =>
    intro vs σ τ hi h
    cases vs with
    | nil => exact h
    | cons v vs =>
      show wipe ((is.zip vs).foldl (fun s p => s.set p.1 (some p.2)) (σ.set i (some v))) own = wipe τ own
      exact ih (fun j hj => hi j (List.mem_cons_of_mem _ hj)) ((one (hi i List.mem_cons_self)).trans h)
/-- a datum, or a tuple just met whose object isn't known -/
def RDw (K : PySem.W.Frag) (m : Mp) (H : Hp) (v : V) (d : D) : Prop := ∃ a vs xs, v = .ref a ∧ d = .tup xs ∧ SqT K H a vs ∧ RDs K m H vs xs
theorem bind_run {K : PySem.W.Frag} {m : Mp} {H : Hp} {σ : L2.St} {env e1 : Evn} {g : Tg} {v : V} {d : D} {Q : L2.St → Hp → Prop} (h : RD K m H v d ∨ ((∃ l, g = .tup l) ∧ RDw K m H v d)) (b : g.bind d env = some e1) (r : REnv K m H σ env)
    (q : ∀ σ1, REnv K m H σ1 e1 → (∀ own, tgIn own g = true → wipe σ1 own = wipe σ own) → Q σ1 H) : tG K g v σ H Q := by
  have tupc : ∀ {l : List Nat} {a : Addr} {vs : List V} {xs : List D}, g = .tup l → v = .ref a → d = .tup xs → SqT K H a vs → RDs K m H vs xs → tG K g v σ H Q := fun {l a vs xs} eg ev ed t rs => by
    subst eg ev ed
    have b' : bindL l xs env = some e1 := b
    obtain ⟨z1, z2⟩ := bindL_of rs b' r
    refine ⟨a, vs, rfl, t, z2, gNames_run z2 (q _ z1 fun own ho => fold_wipe (fun i hi => ?_) rfl)⟩
    have := List.all_eq_true.mp (show l.all own.contains = true from ho) i hi
    simpa using this
  rcases h with h | ⟨⟨l, eg⟩, a, vs, xs, ev, ed, t, rs⟩
  · cases g with
    | name i =>
      cases b
      refine q _ (r.set h i) fun own ho => ?_
      have hm : i ∈ own := by
        have : own.contains i = true := ho
        simpa using this
      have z := fold_wipe (own := own) (l := [i]) (vs := [v]) (σ := σ) (τ := σ) (fun j hj => by
        have : j = i := by simpa using hj
        rw [this]
        exact hm) rfl
      exact z
    | tup l =>
      cases d with
      | tup xs =>
        cases h with
        | @tup a vs _ t rs => exact tupc rfl rfl rfl t.sq rs
      | _ => cases b
  · exact tupc eg ev ed t rs
section
variable {X : Cx}
theorem isN_some {l : List Str} {i : Nat} {x : Str} (h : isN l i x = true) : l[i]? = some x := by
  unfold isN at h
  split at h
  · rename_i y e
    rw [of_decide_eq_true h] at e
    exact e
  · cases h
theorem loc_of {sc : Scope} {x : Str} (h : locB sc x = true) : Loc sc x := by
  unfold locB at h
  split at h
  · rename_i e
    exact .inl e
  · rename_i e
    exact .inr e
  · cases h
theorem local_of {sc : Scope} {x : Str} (h : localB sc x = true) : sc.names.lookup x = some .local := by
  unfold localB at h
  split at h
  · rename_i e
    exact e
  · cases h
theorem vis_of {sc : Scope} {x : Str} (h : visB sc x = true) : Vis sc x := by
  unfold visB at h
  split at h
  · rename_i e
    exact .inl e
  · rename_i e
    exact .inr (.inl e)
  · rename_i e
    exact .inr (.inr e)
  · cases h
theorem glo_of {x : Str} (h : gloB X.env.scope x = true) : Gl X x := by
  unfold gloB at h
  split at h
  · rename_i e
    exact e
  · cases h
theorem okN_of {x : Str} (h : okN x = true) : (x == ("__debug__" : Str)) = false ∧ (x == ("__classdict__" : Str)) = false ∧ x ≠ "__name__" := by
  unfold okN at h
  obtain ⟨h, h3⟩ := and3 h
  obtain ⟨h1, h2⟩ := and3 h
  refine ⟨?_, ?_, ?_⟩
  · cases hb : (x == ("__debug__" : Str)) with
    | true => rw [hb] at h1; cases h1
    | false => rfl
  · cases hb : (x == ("__classdict__" : Str)) with
    | true => rw [hb] at h2; cases h2
    | false => rfl
  · intro e
    rw [decide_eq_true e] at h3
    cases h3
theorem pg_one {nm : Nm} {fnc : Str → Bool} {x : Str} {p : Pos} {i : Nat} (hN : X.N = nm.N) (nd : X.N.Nodup) (hfn : ∀ x, fnc x = true → X.fn x = true) (h : (isN nm.N i x && locB X.env.scope x && (fnc x || localB X.env.scope x)) = true) : PG X (.Name x p) (gName i) := by
  obtain ⟨h, h3⟩ := and3 h
  obtain ⟨h1, h2⟩ := and3 h
  refine pg_name nd (by rw [hN]; exact isN_some h1) (loc_of h2) ?_
  rcases Bool.or_eq_true_iff.mp h3 with z | z
  · exact .inl (hfn x z)
  · exact .inr (local_of z)
theorem pgs_names {nm : Nm} {fnc : Str → Bool} (hN : X.N = nm.N) (nd : X.N.Nodup) (hfn : ∀ x, fnc x = true → X.fn x = true) : ∀ {es : List Expr} {l : List Nat}, allNs nm X.env.scope fnc es l = true →
    PGs X es (gNames l) ∧ (assignEach es X.env).length = l.length ∧ (assignEach es X.env).findIdx? (·.1) = none
  | [], [], _ => ⟨pgs_nil, rfl, rfl⟩
  | .Name x p :: es, i :: is, h => by
    obtain ⟨h, h2⟩ := and3 (show (_ && _) = true from h)
    obtain ⟨z1, z2, z3⟩ := pgs_names hN nd hfn h2
    refine ⟨pgs_cons (pg_one hN nd hfn h) z1 rfl, ?_, ?_⟩
    · show (assignEach es X.env).length + 1 = is.length + 1
      rw [z2]
    · show ((false, assign (.Name x p) X.env) :: assignEach es X.env).findIdx? (·.1) = none
      rw [List.findIdx?_cons, z3]
      rfl
  | [], _ :: _, h => by cases h
  | _ :: _, [], h => by
    rename_i e es
    cases e <;> cases h
  | .BoolOp .. :: _, _ :: _, h | .NamedExpr .. :: _, _ :: _, h | .BinOp .. :: _, _ :: _, h | .UnaryOp .. :: _, _ :: _, h | .Lambda .. :: _, _ :: _, h | .IfExp .. :: _, _ :: _, h | .Dict .. :: _, _ :: _, h
  | .Set .. :: _, _ :: _, h | .ListComp .. :: _, _ :: _, h | .SetComp .. :: _, _ :: _, h | .DictComp .. :: _, _ :: _, h | .GeneratorExp .. :: _, _ :: _, h | .Await .. :: _, _ :: _, h | .Yield .. :: _, _ :: _, h
  | .YieldFrom .. :: _, _ :: _, h | .Compare .. :: _, _ :: _, h | .Call .. :: _, _ :: _, h | .FormattedValue .. :: _, _ :: _, h | .JoinedStr .. :: _, _ :: _, h | .Constant .. :: _, _ :: _, h | .Attribute .. :: _, _ :: _, h
  | .Subscript .. :: _, _ :: _, h | .Starred .. :: _, _ :: _, h | .List .. :: _, _ :: _, h | .Tuple .. :: _, _ :: _, h | .Slice .. :: _, _ :: _, h => by cases h
theorem pg_of {nm : Nm} {fnc : Str → Bool} (hc : X.calm = true) (hN : X.N = nm.N) (nd : X.N.Nodup) (hfn : ∀ x, fnc x = true → X.fn x = true) {e : Expr} {g : Tg} (h : chkG nm X.env.scope fnc e g = true) : PG X e (tG X.K g) := by
  cases g with
  | name i =>
    cases e <;> first | (exact pg_one hN nd hfn h) | cases h
  | tup l =>
    cases e with
    | Tuple es k pos =>
      obtain ⟨z1, z2, z3⟩ := pgs_names hN nd hfn h
      exact pg_tup hc z1 z2 z3
    | _ => cases h
end
end Iv
end
section
set_option Elab.async false
set_option linter.all false
set_option maxRecDepth 100000
/-! IvSnd2: what the evaluator says of an expression holds of it. -/
namespace Iv
open PySem PySem.Spec PyProof.Rows L2
/-- how an exception lies -/
abbrev XRel := Mp → Hp → Exc → Value → Option Addr → Prop
def PostX (K : PySem.W.Frag) (XR : XRel) (m : Mp) (H : Hp) (st' : Store) (x : Exc) (E : XK) : Prop :=
  ∀ (cls : Value) (dd : Option Addr) (H' : Hp) (m' : Mp), Ext m m' → Tx H H' → RSt K m' st' H' → XR m' H' x cls dd → E cls dd H'
def PostE (K : PySem.W.Frag) (XR : XRel) (W : WX) (σ : L2.St) (m : Mp) (H : Hp) (st' : Store) (res : R D) (Q : VK) : Prop := match res with
  | .ok d => PostD K m H st' d Q
  | .ex x => PostX K XR m H st' x (fun c d H' => W c d σ H')
def PostT (K : PySem.W.Frag) (XR : XRel) (W : WX) (σ : L2.St) (m : Mp) (H : Hp) (st' : Store) (res : R D) (Q : Bool → Hp → Prop) : Prop := match res with
  | .ok (.bl b) => ∀ (H' : Hp) (m' : Mp), Ext m m' → Tx H H' → RSt K m' st' H' → Q b H'
  | .ok _ => False
  | .ex x => PostX K XR m H st' x (fun c d H' => W c d σ H')
def PostL (K : PySem.W.Frag) (XR : XRel) (W : WX) (σ : L2.St) (m : Mp) (H : Hp) (st' : Store) (res : R (List D)) (Q : List V → Hp → Prop) : Prop := match res with
  | .ok ds => ∀ (vs : List V) (H' : Hp) (m' : Mp), Ext m m' → Tx H H' → RSt K m' st' H' → RDs K m' H' vs ds → Q vs H'
  | .ex x => PostX K XR m H st' x (fun c d H' => W c d σ H')
def PostR (K : PySem.W.Frag) (XR : XRel) (m : Mp) (H : Hp) (st' : Store) (res : R D) (Q : VK) (E : XK) : Prop := match res with
  | .ok d => PostD K m H st' d Q
  | .ex x => PostX K XR m H st' x E
section
variable {K : PySem.W.Frag} {XR : XRel} {W : WX} {σ : L2.St} {m m1 : Mp} {H H1 : Hp} {st' : Store} {d : D} {Q : VK}
theorem PostD.mono (x : Ext m m1) (t : Tx H H1) (p : PostD K m H st' d Q) : PostD K m1 H1 st' d Q := fun v H' m' a b r q => p v H' m' (x.trans a) (t.trans b) r q
theorem PostX.mono {e : Exc} {E : XK} (x : Ext m m1) (t : Tx H H1) (p : PostX K XR m H st' e E) : PostX K XR m1 H1 st' e E := fun c dd H' m' a b r q => p c dd H' m' (x.trans a) (t.trans b) r q
theorem PostE.mono {res : R D} (x : Ext m m1) (t : Tx H H1) (p : PostE K XR W σ m H st' res Q) : PostE K XR W σ m1 H1 st' res Q := by
  cases res with
  | ok d => exact PostD.mono x t p
  | ex e => exact PostX.mono x t p
theorem PostL.mono {res : R (List D)} {Q : List V → Hp → Prop} (x : Ext m m1) (t : Tx H H1) (p : PostL K XR W σ m H st' res Q) : PostL K XR W σ m1 H1 st' res Q := by
  cases res with
  | ok d => exact fun v H' m' a b r q => p v H' m' (x.trans a) (t.trans b) r q
  | ex e => exact PostX.mono x t p
theorem PostT.mono {res : R D} {Q : Bool → Hp → Prop} (x : Ext m m1) (t : Tx H H1) (p : PostT K XR W σ m H st' res Q) : PostT K XR W σ m1 H1 st' res Q := by
  cases res with
  | ok d =>
    cases d with
    | bl b => exact fun H' m' a c r => p H' m' (x.trans a) (t.trans c) r
    | _ => exact p
  | ex e => exact PostX.mono x t p
theorem PostR.mono {res : R D} {E : XK} (x : Ext m m1) (t : Tx H H1) (p : PostR K XR m H st' res Q E) : PostR K XR m1 H1 st' res Q E := by
  cases res with
  | ok d => exact PostD.mono x t p
  | ex e => exact PostX.mono x t p
end
/-- the promise of a function: what the machine says -/
def spI (c : Cfg) (K : PySem.W.Frag) (XR : XRel) (n i : Nat) : Sp := fun vs H Q E =>
  ∃ (w : Wr) (m : Mp) (st : Store) (ds : List D) (res : R D) (st' : Store), RSt K m st H ∧ RDs K m H vs ds ∧ w.lim ≤ st.length ∧ callI c n w i ds st = some (res, st') ∧ PostR K XR m H st' res Q E
def bltNames : List Str := ["len", "list", "tuple", "sorted", "max", "min", "abs", "int", "str", "sum", "all", "any", "range", "reversed", "zip", "isinstance", "bool", "set", "dict", "enumerate", "ValueError", "Exception"]
/-- what the module's names hold -/
structure Gm (c : Cfg) (nm : Nm) (XR : XRel) (n : Nat) (prog : Program) (w : World) (K : PySem.W.Frag) (mg : Str → Option Value) (base : Heap) : Prop where
  blt : ∀ x ∈ bltNames, mg x = none
  cst : ∀ (i : Nat) (x : Str) (d : D), nm.cs[i]? = some x → c.consts[i]? = some d → ∃ (u : Value) (v : V), mg x = some u ∧ RelV v u ∧ ∀ (m : Mp) (H : Hp), RD K m H v d
  fl : nm.fns.length = c.fns.length
  fun_ : ∀ (i : Nat) (x : Str) (fn : Fn), nm.fns[i]? = some x → c.fns[i]? = some fn → ∃ (f : Addr) (fd : FuncData) (ps : List Str),
    mg x = some (.ref f) ∧ PySem.W.keepIn K (.ref f) = true ∧ Binds K fd ps [] ∧ FnOk prog w K mg base (L2.CX prog w) (2 * n) f fd ps (spI c K XR n i)
structure Gd (c : Cfg) (nm : Nm) (XR : XRel) (n : Nat) (X : Cx) (sc : Scope) (fnc : Str → Bool) : Prop where
  calm : X.calm = true
  N : X.N = nm.N
  nd : X.N.Nodup
  sc : X.env.scope = sc
  fn : ∀ x, fnc x = true → X.fn x = true
  room : Room (2 * n + 1) X.A
  g : Gm c nm XR n X.prog X.w X.K X.mg X.base
section
variable {c : Cfg} {nm : Nm} {XR : XRel} {n : Nat}
theorem bnd_some {A B : Type} {m : Rs A} {f : A → Store → Rs B} {r : R B × Store} (h : bnd m f = some r) : (∃ x st, m = some (.ex x, st) ∧ r = (.ex x, st)) ∨ ∃ a st, m = some (.ok a, st) ∧ f a st = some r := by
  unfold bnd at h
  split at h
  · exact .inr ⟨_, _, rfl, h⟩
  · cases h
    exact .inl ⟨_, _, rfl, rfl⟩
  · cases h
/-- the machine speaks truly of an expression, a test, arguments -/
def SndE (c : Cfg) (XR : XRel) (n : Nat) (X : Cx) (W : WX) (e : Expr) (ir : E) : Prop :=
  ∀ (w : Wr) (σ : L2.St) (H : Hp) (env : Evn) (st : Store) (m : Mp) (res : R D) (st' : Store), RSt X.K m st H → REnv X.K m H σ env → w.lim ≤ st.length → evE c (callI c n) w ir env st = some (res, st') →
    ∀ Q : VK, PostE X.K XR W σ m H st' res Q → wpE X e σ H Q
def SndT (c : Cfg) (XR : XRel) (n : Nat) (X : Cx) (W : WX) (e : Expr) (ir : E) : Prop :=
  ∀ (w : Wr) (σ : L2.St) (H : Hp) (env : Evn) (st : Store) (m : Mp) (res : R D) (st' : Store), RSt X.K m st H → REnv X.K m H σ env → w.lim ≤ st.length → evE c (callI c n) w ir env st = some (res, st') →
    ∀ Q : Bool → Hp → Prop, PostT X.K XR W σ m H st' res Q → wpT X e σ H Q
def SndL (c : Cfg) (XR : XRel) (n : Nat) (X : Cx) (W : WX) (es : List Expr) (ir : Es) : Prop :=
  ∀ (w : Wr) (σ : L2.St) (H : Hp) (env : Evn) (st : Store) (m : Mp) (res : R (List D)) (st' : Store), RSt X.K m st H → REnv X.K m H σ env → w.lim ≤ st.length → evEs c (callI c n) w ir env st = some (res, st') →
    ∀ Q : List V → Hp → Prop, PostL X.K XR W σ m H st' res Q → tEs X es σ H Q
variable {X : Cx} {W : WX}
theorem lim_E {w : Wr} {e : E} {env : Evn} {st : Store} (hl : w.lim ≤ st.length) {r : R D} {s1 : Store} (h : evE c (callI c n) w e env st = some (r, s1)) : w.lim ≤ s1.length :=
  Nat.le_trans hl (ok_evE (ok_callI c n) e env st hl _ _ h).1
theorem lim_L {w : Wr} {e : Es} {env : Evn} {st : Store} (hl : w.lim ≤ st.length) {r : R (List D)} {s1 : Store} (h : evEs c (callI c n) w e env st = some (r, s1)) : w.lim ≤ s1.length :=
  Nat.le_trans hl (ok_evEs (ok_callI c n) e env st hl _ _ h).1
/-- one part, then the rest -/
theorem SndE.bnd {a : Expr} {ia : E} (ih : SndE c XR n X W a ia) {w : Wr} {σ : L2.St} {H : Hp} {env : Evn} {st : Store} {m : Mp} {res : R D} {st' : Store} {f : D → Store → Rs D} (R0 : RSt X.K m st H) (RE : REnv X.K m H σ env) (hl : w.lim ≤ st.length)
    (h : Iv.bnd (evE c (callI c n) w ia env st) f = some (res, st')) {Q Q1 : VK} (P : PostE X.K XR W σ m H st' res Q)
    (hk : ∀ (x : D) (s1 : Store) (vx : V) (H1 : Hp) (m1 : Mp), f x s1 = some (res, st') → Ext m m1 → Tx H H1 → RSt X.K m1 s1 H1 → REnv X.K m1 H1 σ env → RD X.K m1 H1 vx x → w.lim ≤ s1.length → PostE X.K XR W σ m1 H1 st' res Q → Q1 vx H1) : wpE X a σ H Q1 := by
  rcases bnd_some h with ⟨x, s1, h1, h2⟩ | ⟨x, s1, h1, h2⟩
  · cases h2
    exact ih w σ H env st m _ _ R0 RE hl h1 Q1 P
  · exact ih w σ H env st m _ _ R0 RE hl h1 Q1 fun v H' m' a t r q => hk x s1 v H' m' h2 a t r (RE.mono a t) q (lim_E hl h1) (P.mono a t)
theorem SndE.bndT {a : Expr} {ia : E} (ih : SndE c XR n X W a ia) {w : Wr} {σ : L2.St} {H : Hp} {env : Evn} {st : Store} {m : Mp} {res : R D} {st' : Store} {f : D → Store → Rs D} (R0 : RSt X.K m st H) (RE : REnv X.K m H σ env) (hl : w.lim ≤ st.length)
    (h : Iv.bnd (evE c (callI c n) w ia env st) f = some (res, st')) {Q : Bool → Hp → Prop} {Q1 : VK} (P : PostT X.K XR W σ m H st' res Q)
    (hk : ∀ (x : D) (s1 : Store) (vx : V) (H1 : Hp) (m1 : Mp), f x s1 = some (res, st') → Ext m m1 → Tx H H1 → RSt X.K m1 s1 H1 → REnv X.K m1 H1 σ env → RD X.K m1 H1 vx x → w.lim ≤ s1.length → PostT X.K XR W σ m1 H1 st' res Q → Q1 vx H1) : wpE X a σ H Q1 := by
  rcases bnd_some h with ⟨x, s1, h1, h2⟩ | ⟨x, s1, h1, h2⟩
  · cases h2
    exact ih w σ H env st m _ _ R0 RE hl h1 Q1 P
  · exact ih w σ H env st m _ _ R0 RE hl h1 Q1 fun v H' m' a t r q => hk x s1 v H' m' h2 a t r (RE.mono a t) q (lim_E hl h1) (P.mono a t)
/-- a test, then the rest -/
theorem SndT.bnd {a : Expr} {ia : E} (ih : SndT c XR n X W a ia) {w : Wr} {σ : L2.St} {H : Hp} {env : Evn} {st : Store} {m : Mp} {res : R D} {st' : Store} {f : D → Store → Rs D} (R0 : RSt X.K m st H) (RE : REnv X.K m H σ env) (hl : w.lim ≤ st.length)
    (h : Iv.bnd (evE c (callI c n) w ia env st) f = some (res, st')) (hb : ∀ x s1, f x s1 = some (res, st') → ∃ b, x = .bl b) {Q : VK} {Q1 : Bool → Hp → Prop} (P : PostE X.K XR W σ m H st' res Q)
    (hk : ∀ (b : Bool) (s1 : Store) (H1 : Hp) (m1 : Mp), f (.bl b) s1 = some (res, st') → Ext m m1 → Tx H H1 → RSt X.K m1 s1 H1 → REnv X.K m1 H1 σ env → w.lim ≤ s1.length → PostE X.K XR W σ m1 H1 st' res Q → Q1 b H1) : wpT X a σ H Q1 := by
  rcases bnd_some h with ⟨x, s1, h1, h2⟩ | ⟨x, s1, h1, h2⟩
  · cases h2
    exact ih w σ H env st m _ _ R0 RE hl h1 Q1 P
  · obtain ⟨b, rfl⟩ := hb x s1 h2
    exact ih w σ H env st m _ _ R0 RE hl h1 Q1 fun H' m' a t r => hk b s1 H' m' h2 a t r (RE.mono a t) (lim_E hl h1) (P.mono a t)
theorem SndT.bndT {a : Expr} {ia : E} (ih : SndT c XR n X W a ia) {w : Wr} {σ : L2.St} {H : Hp} {env : Evn} {st : Store} {m : Mp} {res : R D} {st' : Store} {f : D → Store → Rs D} (R0 : RSt X.K m st H) (RE : REnv X.K m H σ env) (hl : w.lim ≤ st.length)
    (h : Iv.bnd (evE c (callI c n) w ia env st) f = some (res, st')) (hb : ∀ x s1, f x s1 = some (res, st') → ∃ b, x = .bl b) {Q Q1 : Bool → Hp → Prop} (P : PostT X.K XR W σ m H st' res Q)
    (hk : ∀ (b : Bool) (s1 : Store) (H1 : Hp) (m1 : Mp), f (.bl b) s1 = some (res, st') → Ext m m1 → Tx H H1 → RSt X.K m1 s1 H1 → REnv X.K m1 H1 σ env → w.lim ≤ s1.length → PostT X.K XR W σ m1 H1 st' res Q → Q1 b H1) : wpT X a σ H Q1 := by
  rcases bnd_some h with ⟨x, s1, h1, h2⟩ | ⟨x, s1, h1, h2⟩
  · cases h2
    exact ih w σ H env st m _ _ R0 RE hl h1 Q1 P
  · obtain ⟨b, rfl⟩ := hb x s1 h2
    exact ih w σ H env st m _ _ R0 RE hl h1 Q1 fun H' m' a t r => hk b s1 H' m' h2 a t r (RE.mono a t) (lim_E hl h1) (P.mono a t)
theorem SndL.bnd {as : List Expr} {ias : Es} (ih : SndL c XR n X W as ias) {w : Wr} {σ : L2.St} {H : Hp} {env : Evn} {st : Store} {m : Mp} {res : R D} {st' : Store} {f : List D → Store → Rs D} (R0 : RSt X.K m st H) (RE : REnv X.K m H σ env) (hl : w.lim ≤ st.length)
    (h : Iv.bnd (evEs c (callI c n) w ias env st) f = some (res, st')) {Q : VK} {Q1 : List V → Hp → Prop} (P : PostE X.K XR W σ m H st' res Q)
    (hk : ∀ (xs : List D) (s1 : Store) (vs : List V) (H1 : Hp) (m1 : Mp), f xs s1 = some (res, st') → Ext m m1 → Tx H H1 → RSt X.K m1 s1 H1 → REnv X.K m1 H1 σ env → RDs X.K m1 H1 vs xs → w.lim ≤ s1.length → PostE X.K XR W σ m1 H1 st' res Q → Q1 vs H1) : tEs X as σ H Q1 := by
  rcases bnd_some h with ⟨x, s1, h1, h2⟩ | ⟨x, s1, h1, h2⟩
  · cases h2
    exact ih w σ H env st m _ _ R0 RE hl h1 Q1 P
  · exact ih w σ H env st m _ _ R0 RE hl h1 Q1 fun v H' m' a t r q => hk x s1 v H' m' h2 a t r (RE.mono a t) q (lim_L hl h1) (P.mono a t)
/-- arguments: each by itself -/
theorem snd_L {f : Expr → E → Bool} (hf : ∀ e ir, f e ir = true → SndE c XR n X W e ir) : ∀ {es : List Expr} {ir : Es}, allEs f es ir = true → SndL c XR n X W es ir
  | [], .nil, _ => fun w σ H env st m res st' R0 RE hl h Q P => by
    unfold evEs at h
    cases h
    exact P [] H m (Ext.refl m) (Tx.refl H) R0 .nil
  | e :: es, .cons i is, h => fun w σ H env st m res st' R0 RE hl hv Q P => by
    obtain ⟨h1, h2⟩ := and3 (show (_ && _) = true from h)
    have ihL := snd_L hf h2
    unfold evEs at hv
    show wpE X e σ H fun x H1 => tEs X es σ H1 fun xs H2 => Q (x :: xs) H2
    rcases bnd_some hv with ⟨x, s1, e1, e2⟩ | ⟨x, s1, e1, e2⟩
    · cases e2
      exact hf e i h1 w σ H env st m _ _ R0 RE hl e1 _ P
    · refine hf e i h1 w σ H env st m _ _ R0 RE hl e1 _ fun v H' m' a t r q => ?_
      rcases bnd_some e2 with ⟨y, s2, e3, e4⟩ | ⟨y, s2, e3, e4⟩
      · cases e4
        exact ihL w σ H' env s1 m' _ _ r (RE.mono a t) (lim_E hl e1) e3 _ (PostX.mono a t P)
      · cases e4
        exact ihL w σ H' env s1 m' _ _ r (RE.mono a t) (lim_E hl e1) e3 _ fun vs H2 m2 a2 t2 r2 q2 => P (v :: vs) H2 m2 (a.trans a2) (t.trans t2) r2 (.cons (q.mono a2 t2) q2)
  | [], .cons _ _, h => by cases h
  | _ :: _, .nil, h => by cases h
theorem allEs_plain {f : Expr → E → Bool} (hf : ∀ e ir, f e ir = true → plainE e = true) : ∀ {es : List Expr} {ir : Es}, allEs f es ir = true → ∀ e ∈ es, plainE e = true
  | [], _, _, e, he => by cases he
  | x :: xs, .cons i is, h, e, he => by
    obtain ⟨h1, h2⟩ := and3 (show (_ && _) = true from h)
    rcases List.mem_cons.mp he with r | r
    · rw [r]
      exact hf x i h1
    · exact allEs_plain hf h2 e r
  | _ :: _, .nil, h, _, _ => by cases h
theorem chkE_plain {k : Nat} {sc : Scope} {e : Expr} {ir : E} (h : chkE nm k sc e ir = true) : plainE e = true := by
  cases k with
  | zero => cases h
  | succ k => exact (and3 (show (_ && _) = true from h)).1
/-! ### no operation raises -/
def NoX (m : Rs D) : Prop := ∀ x st, m ≠ some (.ex x, st)
theorem nox_bin (o : Bop) (a b : D) (st : Store) : NoX (binD o a b st) := by
  intro x s e
  unfold binD newL at e
  repeat' split at e
  all_goals cases e
theorem nox_idx (a b : D) (st : Store) : NoX (idxD a b st) := by
  intro x s e
  unfold idxD at e
  repeat' split at e
  all_goals cases e
theorem nox_slcO (a : D) (b c : Option Int) (st : Store) : NoX (slcO a b c st) := by
  intro x s e
  unfold slcO newL at e
  repeat' split at e
  all_goals cases e
theorem nox_bi (b : Bi) (as : List D) (st : Store) : NoX (biD b as st) := by
  intro x s e
  unfold biD newL at e
  repeat' split at e
  all_goals cases e
theorem nox_mth (m : Mt) (w : Wr) (o : D) (as : List D) (st : Store) : NoX (mthD m w o as st) := by
  intro x s e
  unfold mthD at e
  repeat' split at e
  all_goals cases e
end
end Iv
end
section
set_option Elab.async false
set_option linter.all false
set_option maxRecDepth 100000
/-! IvSnd3: what is walked; comprehensions. -/
namespace Iv
open PySem PySem.Spec PyProof.Rows L2 RZ
/-- an iterator that yields the data xs, while P stands -/
structure DsOk (K : PySem.W.Frag) (J : It) (xs : List D) (wk : Bool) (P : Mp → Hp → Prop) : Prop where
  mono : ∀ {m m' : Mp} {H H' : Hp}, P m H → Ext m m' → Tx H H' → P m' H'
  go : ∀ {m : Mp} {H : Hp} (i : Nat), P m H → i < xs.length → J.go i H
  stop : ∀ {m : Mp} {H : Hp} (i : Nat), P m H → xs.length ≤ i → J.stop i H
  yld : ∀ {m : Mp} {H : Hp} {st : Store} {i : Nat} {x : D} {v : V} {H' : Hp}, P m H → RSt K m st H → xs[i]? = some x → J.yld i H v H' → Tx H H' ∧ RSt K m st H' ∧ (∀ b, b ∈ m → H' b = H b) ∧ (∀ b vs, H b = some (.lst vs) → H' b = some (.lst vs)) ∧ (RD K m H' v x ∨ (wk = true ∧ RDw K m H' v x))
def SrcOk (K : PySem.W.Frag) (J : It) (wk : Bool) (s : Src) (m : Mp) (H : Hp) : Prop := match s with
  | .ds xs => ∃ P : Mp → Hp → Prop, DsOk K J xs wk P ∧ P m H
  | .lr r => ∃ a, J = Itl K a ∧ m[r]? = some a
theorem ds_tup {K : PySem.W.Frag} {a : Addr} {vs : List V} {xs : List D} {wk : Bool} : DsOk K (Itt K a) xs wk (fun m H => TupZ K H a vs ∧ RDs K m H vs xs) where
  mono := fun ⟨t, r⟩ x y => ⟨t.mono y, r.mono x y⟩
  go := fun i ⟨t, r⟩ hi => by
    have hv : i < vs.length := by rw [r.length]; exact hi
    exact ⟨vs, vs[i], t.sq, List.getElem?_eq_getElem hv⟩
  stop := fun i ⟨t, r⟩ hi => ⟨vs, t.sq, by rw [r.length]; exact hi⟩
  yld := fun {m H st i x v H'} ⟨t, r⟩ R hx ⟨e, hv⟩ => by
    subst e
    obtain ⟨w, h1, h2⟩ := r.get hx
    have z := hv vs t.sq
    rw [h1] at z
    cases z
    exact ⟨Tx.refl _, R, fun _ _ => rfl, fun _ _ h => h, .inl h2⟩
theorem ds_rol {K : PySem.W.Frag} {a : Addr} {vs : List V} {xs : List D} {wk : Bool} : DsOk K (Itl K a) xs wk (fun m H => RolZ K H a vs ∧ RDs K m H vs xs) where
  mono := fun ⟨t, r⟩ x y => ⟨t.mono y, r.mono x y⟩
  go := fun i ⟨t, r⟩ hi => by
    have hv : i < vs.length := by rw [r.length]; exact hi
    exact ⟨vs, vs[i], t.sq, List.getElem?_eq_getElem hv⟩
  stop := fun i ⟨t, r⟩ hi => ⟨vs, t.sq, by rw [r.length]; exact hi⟩
  yld := fun {m H st i x v H'} ⟨t, r⟩ R hx ⟨e, hv⟩ => by
    subst e
    obtain ⟨w, h1, h2⟩ := r.get hx
    have z := hv vs t.sq
    rw [h1] at z
    cases z
    exact ⟨Tx.refl _, R, fun _ _ => rfl, fun _ _ h => h, .inl h2⟩
theorem ds_str {K : PySem.W.Frag} {z : Str} {wk : Bool} : DsOk K (Its z) (signs z) wk (fun _ _ => True) where
  mono := fun _ _ _ => trivial
  go := fun i _ hi => by
    have : i < z.cps.size := by simpa [signs] using hi
    exact this
  stop := fun i _ hi => by
    have : z.cps.size ≤ i := by simpa [signs] using hi
    exact this
  yld := fun {m H st i x v H'} _ R hx ⟨e, c, hc, ev⟩ => by
    subst e ev
    have : x = .str (oneSign c) := by
      unfold signs at hx
      rw [List.getElem?_map] at hx
      obtain ⟨k, hk, e⟩ := Option.map_eq_some_iff.mp hx
      have hk2 : z.cps[i]? = some k := by simpa using hk
      rw [hc] at hk2
      cases hk2
      exact e.symm
    subst this
    exact ⟨Tx.refl _, R, fun _ _ => rfl, fun _ _ h => h, .inl (.str _)⟩
theorem rngD_get {a b : Int} {i : Nat} {x : D} (h : (rngD a b)[i]? = some x) : x = .int (a + (i : Int)) := by
  unfold rngD at h
  rw [List.getElem?_map] at h
  obtain ⟨k, hk, e⟩ := Option.map_eq_some_iff.mp h
  have := (List.getElem?_eq_some_iff.mp hk)
  obtain ⟨h1, h2⟩ := this
  rw [List.getElem_range] at h2
  subst h2
  exact e.symm
theorem rngD_len (a b : Int) : (rngD a b).length = (b - a).toNat := by
  unfold rngD
  rw [List.length_map, List.length_range]
theorem ds_rng {K : PySem.W.Frag} {a b : Int} {wk : Bool} : DsOk K (Itr a (b - a).toNat) (rngD a b) wk (fun _ _ => True) where
  mono := fun _ _ _ => trivial
  go := fun i _ hi => by
    rw [rngD_len] at hi
    exact hi
  stop := fun i _ hi => by
    rw [rngD_len] at hi
    exact hi
  yld := fun {m H st i x v H'} _ R hx ⟨e, ev⟩ => by
    subst e ev
    rw [rngD_get hx]
    exact ⟨Tx.refl _, R, fun _ _ => rfl, fun _ _ h => h, .inl (.int _)⟩
theorem ds_rrng {K : PySem.W.Frag} {a b : Int} {wk : Bool} : DsOk K (Itc (a + (((b - a).toNat : Nat) : Int) - 1) (-1) (b - a).toNat) (rngD a b).reverse wk (fun _ _ => True) where
  mono := fun _ _ _ => trivial
  go := fun i _ hi => by
    rw [List.length_reverse, rngD_len] at hi
    exact hi
  stop := fun i _ hi => by
    rw [List.length_reverse, rngD_len] at hi
    exact hi
  yld := fun {m H st i x v H'} _ R hx ⟨e, ev⟩ => by
    subst e ev
    have hi : i < (b - a).toNat := by
      have := (List.getElem?_eq_some_iff.mp hx).1
      rw [List.length_reverse, rngD_len] at this
      exact this
    rw [List.getElem?_reverse (by rw [rngD_len]; exact hi)] at hx
    rw [rngD_get hx, rngD_len]
    have e1 : a + (((b - a).toNat : Nat) : Int) - 1 + (i : Int) * (-1) = a + (((b - a).toNat - 1 - i : Nat) : Int) := by omega
    rw [e1]
    exact ⟨Tx.refl _, R, fun _ _ => rfl, fun _ _ h => h, .inl (.int _)⟩
theorem ds_zip {K : PySem.W.Frag} {a b : Addr} {vs ws : List V} {xs ys : List D} : DsOk K (ItzT K a b) (List.zipWith (fun x y => D.tup [x, y]) xs ys) true (fun m H => TupZ K H a vs ∧ RDs K m H vs xs ∧ TupZ K H b ws ∧ RDs K m H ws ys) where
  mono := fun ⟨t, r, t2, r2⟩ x y => ⟨t.mono y, r.mono x y, t2.mono y, r2.mono x y⟩
  go := fun i ⟨t, r, t2, r2⟩ hi => by
    rw [List.length_zipWith] at hi
    have hv : i < vs.length := by rw [r.length]; omega
    have hw : i < ws.length := by rw [r2.length]; omega
    exact ⟨vs, ws, vs[i], ws[i], t.sq, t2.sq, List.getElem?_eq_getElem hv, List.getElem?_eq_getElem hw⟩
  stop := fun i ⟨t, r, t2, r2⟩ hi => by
    rw [List.length_zipWith] at hi
    refine ⟨vs, ws, t.sq, t2.sq, ?_⟩
    rw [r.length, r2.length]
    omega
  yld := fun {m H st i x v H'} ⟨t, r, t2, r2⟩ R hx ⟨T, x1, y1, ev, hT, eH, h1, h2⟩ => by
    subst ev eH
    rw [List.getElem?_zipWith] at hx
    have hx' : ∃ p q, xs[i]? = some p ∧ ys[i]? = some q ∧ x = D.tup [p, q] := by
      cases hp : xs[i]? with
      | none => rw [hp] at hx; cases hx
      | some p =>
        cases hq : ys[i]? with
        | none => rw [hp, hq] at hx; cases hx
        | some q =>
          rw [hp, hq] at hx
          cases hx
          exact ⟨p, q, rfl, rfl, rfl⟩
    obtain ⟨p, q, hp, hq, rfl⟩ := hx'
    obtain ⟨v1, g1, g2⟩ := r.get hp
    obtain ⟨v2, g3, g4⟩ := r2.get hq
    have z1 := h1 vs t.sq
    have z2 := h2 ws t2.sq
    rw [g1] at z1
    rw [g3] at z2
    cases z1
    cases z2
    have tx : Tx H (upd H T (.tup [x1, y1])) := Tx.new hT
    refine ⟨tx, R.new_other hT, fun b hb => upd_ne fun e => R.fresh hT (e ▸ hb), fun b us hb => ?_, .inr ⟨rfl, T, [x1, y1], [p, q], rfl, rfl, SqT.of upd_same, .cons (g2.mono (Ext.refl m) tx) (.one (g4.mono (Ext.refl m) tx))⟩⟩
    rw [upd_ne (ne_of_none hb hT)]
    exact hb
section
variable {c : Cfg} {nm : Nm} {XR : XRel} {n : Nat} {X : Cx} {W : WX}
theorem big62_of {a : Int} (h : big62 a = true) : -(2 ^ 62) ≤ a ∧ a < 2 ^ 62 := by
  unfold big62 at h
  obtain ⟨h1, h2⟩ := and3 h
  have h1 := of_decide_eq_true h1
  have h2 := of_decide_eq_true h2
  omega
def wkOf : Ik → Bool
  | .zip => true
  | _ => false
theorem bnil {x : Str} (G : ∀ x ∈ bltNames, X.mg x = none) (h : bltNames.contains x = true) : X.mg x = none := G x (by simpa using h)
theorem wpE_mono {e : Expr} {σ : L2.St} {H : Hp} {Q Q' : VK} (h : wpE X e σ H Q) (q : ∀ v H', Q v H' → Q' v H') : wpE X e σ H Q' := fun pins s I => L2.thn (h pins s I) fun _ _ ⟨v, H', I', r, z⟩ => ⟨v, H', I', r, q v H' z⟩
theorem evEs_len {f : Expr → E → Bool} {w : Wr} {env : Evn} : ∀ {as : List Expr} {es : Es} {st : Store} {xs : List D} {s1 : Store}, allEs f as es = true → evEs c (callI c n) w es env st = some (.ok xs, s1) → xs.length = as.length
  | [], .nil, _, _, _, _, h => by
    unfold evEs at h
    cases h
    rfl
  | a :: as, .cons e es, st, xs, s1, ha, h => by
    obtain ⟨_, ha⟩ := and3 (show (_ && _) = true from ha)
    unfold evEs at h
    rcases bnd_some h with ⟨x, s, _, e2⟩ | ⟨x, s, _, e2⟩
    · cases e2
    · rcases bnd_some e2 with ⟨y, s2, _, e4⟩ | ⟨y, s2, e3, e4⟩
      · cases e4
      · cases e4
        exact congrArg (· + 1) (evEs_len ha e3)
  | [], .cons _ _, _, _, _, h, _ => by cases h
  | _ :: _, .nil, _, _, _, h, _ => by cases h
/-- range(..) as a range -/
theorem range_serve (G : ∀ x ∈ bltNames, X.mg x = none) {f : Expr → E → Bool} (hf : ∀ e ir, f e ir = true → SndE c XR n X W e ir) (hp : ∀ e ir, f e ir = true → plainE e = true)
    {p pos : Pos} {as : List Expr} {es : Es} (hg : gloB X.env.scope ("range" : Str) = true) (hlen : (as.length == 1 || as.length == 2) = true) (ha : allEs f as es = true)
    {w : Wr} {σ : L2.St} {H : Hp} {env : Evn} {st : Store} {m : Mp} {res : R (List D)} {s1 : Store} (R0 : RSt X.K m st H) (RE : REnv X.K m H σ env) (hl : w.lim ≤ st.length) (hv : evEs c (callI c n) w es env st = some (res, s1)) :
    ∃ tr : L2.St → Hp → (Int → Int → Hp → Prop) → Prop, PRg X (.Call (.Name "range" p) as [] pos) tr ∧ ∀ R : Int → Int → Hp → Prop,
      (match res with
        | .ok xs => ∃ a b, range? xs = some (a, b) ∧ ∀ H1 m1, Ext m m1 → Tx H H1 → RSt X.K m1 s1 H1 → R a b H1
        | .ex x => PostX X.K XR m H s1 x (fun c d H' => W c d σ H')) → tr σ H R := by
  have hpl := allEs_plain hp ha
  have ihL := snd_L hf ha
  match as, hlen with
  | [a], _ =>
    refine ⟨_, prg_1 (glo_of hg) (bnil G (by decide +kernel)) (pe_w a) (plain_star (hpl a List.mem_cons_self) []), fun R P => ?_⟩
    have z : tEs X [a] σ H fun vs H1 => ∃ k, vs = [.int k] ∧ R 0 k H1 := by
      refine ihL w σ H env st m res s1 R0 RE hl hv _ ?_
      cases res with
      | ex x => exact P
      | ok xs =>
        intro vs H' m' a1 t r q
        obtain ⟨a2, b2, er, hR⟩ := P
        have hlen := evEs_len ha hv
        unfold range? at er
        split at er
        · split at er
          · cases er
            obtain ⟨v, rfl, h1⟩ := one_of q
            cases h1
            exact ⟨_, rfl, hR H' m' a1 t r⟩
          · cases er
        · cases hlen
        · cases er
    exact wpE_mono (show wpE X a σ H _ from z) fun v H' ⟨k, ev, q⟩ => ⟨k, (List.cons.inj ev).1, q⟩
  | [a, b], _ =>
    have hb := hpl b (List.mem_cons_of_mem _ List.mem_cons_self)
    refine ⟨_, prg_2 (glo_of hg) (bnil G (by decide +kernel)) (pe_w a) (pe_w b) (plain_star (hpl a List.mem_cons_self) [b]) (plain_star hb []) (backs_any (es := [b]) (fun e he => by
      have : e = b := by simpa using he
      rw [this]
      exact hb) pos), fun R P => ?_⟩
    have z : tEs X [a, b] σ H fun vs H1 => ∃ k j, vs = [.int k, .int j] ∧ R k j H1 := by
      refine ihL w σ H env st m res s1 R0 RE hl hv _ ?_
      cases res with
      | ex x => exact P
      | ok xs =>
        intro vs H' m' a1 t r q
        obtain ⟨a2, b2, er, hR⟩ := P
        have hlen := evEs_len ha hv
        unfold range? at er
        split at er
        · cases hlen
        · split at er
          · cases er
            cases q with
            | cons q1 q2 =>
              cases q2 with
              | cons q2 q3 =>
                cases q3
                cases q1
                cases q2
                exact ⟨_, _, rfl, hR H' m' a1 t r⟩
          · cases er
        · cases er
    exact wpE_mono (show wpE X a σ H fun x H1 => wpE X b σ H1 fun y H2 => ∃ k j, [x, y] = [.int k, .int j] ∧ R k j H2 from z) fun v H' z => wpE_mono z fun u H2 ⟨k, j, ev, q⟩ => by
      cases ev
      exact ⟨k, j, rfl, rfl, q⟩
theorem range_big {xs : List D} {a b : Int} (h : range? xs = some (a, b)) : (-(2 ^ 62) ≤ a ∧ a < 2 ^ 62) ∧ (-(2 ^ 62) ≤ b ∧ b < 2 ^ 62) := by
  unfold range? at h
  split at h
  · split at h
    · rename_i z
      cases h
      exact ⟨by decide, big62_of z⟩
    · cases h
  · split at h
    · rename_i z
      cases h
      exact ⟨big62_of (and3 z).1, big62_of (and3 z).2⟩
    · cases h
  · cases h
/-- a range as what is walked -/
theorem pi_rangeD {tg : Expr} {p pos : Pos} {as : List Expr} (G : ∀ x ∈ bltNames, X.mg x = none) (hg : gloB X.env.scope ("range" : Str) = true) (hp : ∀ e ∈ as, plainE e = true) (hlen : (as.length == 1 || as.length == 2) = true) :
    PI X tg (.Call (.Name "range" p) as [] pos) (fun σ H R => tEs X as σ H fun vs H1 => ∃ a b : Int, (vs = [.int b] ∧ a = 0 ∨ vs = [.int a, .int b]) ∧ (-(2 ^ 62) ≤ a ∧ a < 2 ^ 62) ∧ (-(2 ^ 62) ≤ b ∧ b < 2 ^ 62) ∧ R (Itr a (b - a).toNat) H1) := by
  match as, hlen with
  | [a], _ =>
    refine ⟨fun pins s σ H R I h => (pi_range1 (glo_of hg) (bnil G (by decide +kernel)) (pa_tEs hp) (plain_star (hp a List.mem_cons_self) [])).run pins s σ H R I ?_⟩
    refine wpE_mono (show wpE X a σ H _ from h) fun v H' ⟨x, y, ev, h1, h2, q⟩ => ?_
    rcases ev with ⟨ev, ex⟩ | ev
    · cases ev
      subst ex
      refine ⟨y, rfl, h2.1, h2.2, ?_⟩
      rw [Int.sub_zero] at q
      exact q
    · cases ev
  | [a, b], _ =>
    refine ⟨fun pins s σ H R I h => (pi_range2 (glo_of hg) (bnil G (by decide +kernel)) (pa_tEs hp) (by rw [plain_star (hp a List.mem_cons_self), plain_star (hp b (List.mem_cons_of_mem _ List.mem_cons_self))]; rfl) (plain_star (hp b (List.mem_cons_of_mem _ List.mem_cons_self)) [])).run pins s σ H R I ?_⟩
    refine wpE_mono (show wpE X a σ H fun x H1 => wpE X b σ H1 fun y H2 => _ from h) fun v H' z => wpE_mono z fun u H2 ⟨x, y, ev, h1, h2, q⟩ => ?_
    rcases ev with ⟨ev, ex⟩ | ev
    · cases ev
    · cases ev
      exact ⟨x, y, rfl, ⟨h1.1, h1.2, h2.1, h2.2⟩, q⟩
/-- what a for or a comprehension walks -/
theorem src_serve (G : ∀ x ∈ bltNames, X.mg x = none) {sc : Scope} (hsc : X.env.scope = sc) {f : Expr → E → Bool} (hf : ∀ e ir, f e ir = true → SndE c XR n X W e ir) (hp : ∀ e ir, f e ir = true → plainE e = true) {k : Ik} {tg iter : Expr} {es : Es}
    (hz : zipOk k tg = true) (h : chkIt sc f k iter es = true)
    {w : Wr} {σ : L2.St} {H : Hp} {env : Evn} {st : Store} {m : Mp} {res : R (List D)} {s1 : Store} (R0 : RSt X.K m st H) (RE : REnv X.K m H σ env) (hl : w.lim ≤ st.length) (hv : evEs c (callI c n) w es env st = some (res, s1))
    (hs : ∀ xs, res = .ok xs → ∃ s, srcOf k xs s1 = some s) :
    plainE iter = true ∧ ∃ wi, PI X tg iter wi ∧ ∀ R : It → Hp → Prop,
      (match res with
        | .ok xs => ∀ s, srcOf k xs s1 = some s → ∀ J H1 m1, Ext m m1 → Tx H H1 → RSt X.K m1 s1 H1 → SrcOk X.K J (wkOf k) s m1 H1 → R J H1
        | .ex x => PostX X.K XR m H s1 x (fun c d H' => W c d σ H')) → wi σ H R := by
  subst hsc
  cases k with
  | seq =>
    cases es with
    | nil => cases h
    | cons e es =>
      cases es with
      | cons _ _ => cases h
      | nil =>
        have he : f iter e = true := h
        refine ⟨hp _ _ he, ?_⟩
        unfold evEs at hv
        rcases bnd_some hv with ⟨x, s, e1, e2⟩ | ⟨x, s, e1, e2⟩
        · cases e2
          exact ⟨_, pi_list (pe_w iter), fun R P => hf _ _ he w σ H env st m _ _ R0 RE hl e1 _ P⟩
        · rcases bnd_some e2 with ⟨y, s2, e3, e4⟩ | ⟨y, s2, e3, e4⟩
          · unfold evEs at e3
            cases e3
          · unfold evEs at e3
            cases e3
            cases e4
            obtain ⟨src, hsrc⟩ := hs _ rfl
            have ih := hf _ _ he w σ H env st m _ _ R0 RE hl e1
            cases x with
            | tup xs =>
              refine ⟨_, pi_tup (pe_w iter), fun R P => ih _ fun v H' m' a t r q => ?_⟩
              cases q with
              | @tup b vs _ tz rs => exact ⟨b, rfl, ⟨vs, tz.sq⟩, P _ rfl _ _ m' a t r ⟨_, ds_tup (vs := vs) (xs := xs), tz, rs⟩⟩
            | rol xs =>
              refine ⟨_, pi_list (pe_w iter), fun R P => ih _ fun v H' m' a t r q => ?_⟩
              cases q with
              | @rol b vs _ tz rs => exact ⟨b, rfl, ⟨vs, tz.sq⟩, P _ rfl _ _ m' a t r ⟨_, ds_rol (vs := vs) (xs := xs), tz, rs⟩⟩
            | str z =>
              refine ⟨_, pi_str (pe_w iter), fun R P => ih _ fun v H' m' a t r q => ?_⟩
              cases q
              exact ⟨z, rfl, P _ rfl _ _ m' a t r ⟨_, ds_str, trivial⟩⟩
            | ref rr =>
              refine ⟨_, pi_list (pe_w iter), fun R P => ih _ fun v H' m' a t r q => ?_⟩
              obtain ⟨b, rfl, hb⟩ := q.inv_ref
              have hsrc2 := hsrc
              simp only [srcOf] at hsrc2
              split at hsrc2
              · rename_i ys hl2
                cases hsrc2
                obtain ⟨vs, e5, _⟩ := r.lst hl2 hb
                exact ⟨b, rfl, ⟨vs, SqL.of e5⟩, P _ hsrc _ _ m' a t r ⟨b, rfl, hb⟩⟩
              · cases hsrc2
            | non => cases hsrc
            | bl _ => cases hsrc
            | int _ => cases hsrc
  | range =>
    cases iter with
    | Call fn as kws pos =>
      cases fn with
      | Name x p =>
        cases kws with
        | cons _ _ => cases h
        | nil =>
          obtain ⟨h, h4⟩ := and3 (show (_ && _) = true from h)
          obtain ⟨h, h3⟩ := and3 h
          obtain ⟨h1, h2⟩ := and3 h
          have ex := of_decide_eq_true h1
          subst ex
          have hpl := allEs_plain hp h4
          refine ⟨rfl, _, pi_rangeD G h2 hpl h3, fun R P => ?_⟩
          refine snd_L hf h4 w σ H env st m res s1 R0 RE hl hv _ ?_
          cases res with
          | ex x => exact P
          | ok xs =>
            intro vs H' m' a1 t r q
            obtain ⟨src, hsrc⟩ := hs _ rfl
            have hsrc2 := hsrc
            simp only [srcOf] at hsrc2
            split at hsrc2
            · rename_i a b hr
              cases hsrc2
              obtain ⟨b1, b2⟩ := range_big hr
              refine ⟨a, b, ?_, b1, b2, P _ hsrc _ _ m' a1 t r ⟨_, ds_rng, trivial⟩⟩
              unfold range? at hr
              split at hr
              · split at hr
                · cases hr
                  obtain ⟨v, rfl, h1⟩ := one_of q
                  cases h1
                  exact .inl ⟨rfl, rfl⟩
                · cases hr
              · split at hr
                · cases hr
                  cases q with
                  | cons q1 q2 =>
                    cases q2 with
                    | cons q2 q3 =>
                      cases q3
                      cases q1
                      cases q2
                      exact .inr rfl
                · cases hr
              · cases hr
            · cases hsrc2
      | _ => cases h
    | _ => cases h
  | rrange =>
    have hshape : ∃ p p2 pos pos2 as, iter = .Call (.Name "reversed" p) [.Call (.Name "range" p2) as [] pos2] [] pos ∧ gloB X.env.scope ("reversed" : Str) = true ∧ gloB X.env.scope ("range" : Str) = true ∧ (as.length == 1 || as.length == 2) = true ∧ allEs f as es = true := by
      dsimp only [chkIt] at h
      split at h
      · rename_i y p x p2 as pos2 pos
        obtain ⟨h, h4⟩ := and3 h
        obtain ⟨h, h3⟩ := and3 h
        obtain ⟨h, h2⟩ := and3 h
        obtain ⟨h, h1⟩ := and3 h
        obtain ⟨h0, h5⟩ := and3 h
        have e1 := of_decide_eq_true h0
        have e2 := of_decide_eq_true h1
        subst e1 e2
        exact ⟨_, _, _, _, _, rfl, h5, h2, h3, h4⟩
      · cases h
    obtain ⟨p, p2, pos, pos2, as, rfl, g1, g2, h3, h4⟩ := hshape
    obtain ⟨tr, ht, hR⟩ := range_serve (p := p2) (pos := pos2) G hf hp g2 h3 h4 R0 RE hl hv
    refine ⟨rfl, _, pi_revR (glo_of g1) (bnil G (by decide +kernel)) ht rfl, fun R P => hR _ ?_⟩
    cases res with
    | ex x => exact P
    | ok xs =>
      obtain ⟨src, hsrc⟩ := hs _ rfl
      have hsrc2 := hsrc
      simp only [srcOf] at hsrc2
      split at hsrc2
      · rename_i a b hr
        cases hsrc2
        obtain ⟨b1, b2⟩ := range_big hr
        exact ⟨a, b, hr, fun H1 m1 a1 t r => ⟨b1.1, b1.2, b2.1, b2.2, P _ hsrc _ _ m1 a1 t r ⟨_, ds_rrng, trivial⟩⟩⟩
      · cases hsrc2
  | zip =>
    have hshape : ∃ p pos a b, iter = .Call (.Name "zip" p) [a, b] [] pos ∧ gloB X.env.scope ("zip" : Str) = true ∧ allEs f [a, b] es = true := by
      dsimp only [chkIt] at h
      split at h
      · rename_i x p a b pos
        obtain ⟨h, h2⟩ := and3 h
        obtain ⟨h0, h1⟩ := and3 h
        have e1 := of_decide_eq_true h0
        subst e1
        exact ⟨_, _, _, _, rfl, h1, h2⟩
      · cases h
    obtain ⟨p, pos, a, b, rfl, g1, h4⟩ := hshape
    have hpl := allEs_plain hp h4
    have hb := hpl b (List.mem_cons_of_mem _ List.mem_cons_self)
    cases tg with
    | Tuple elts kk tpos =>
      refine ⟨rfl, _, pi_zipA (glo_of g1) (bnil G (by decide +kernel)) (pa_tEs hpl) (plain_star (hpl a List.mem_cons_self) [b]) (backs_any (es := [b]) (fun e he => by
        have : e = b := by simpa using he
        rw [this]
        exact hb) pos), fun R P => ?_⟩
      refine snd_L hf h4 w σ H env st m res s1 R0 RE hl hv _ ?_
      cases res with
      | ex x => exact P
      | ok xs =>
        intro vs H' m' a1 t r q
        obtain ⟨src, hsrc⟩ := hs _ rfl
        have hsrc2 := hsrc
        simp only [srcOf] at hsrc2
        split at hsrc2
        · rename_i xs ys
          cases hsrc2
          cases q with
          | cons q1 q2 =>
            cases q2 with
            | cons q2 q3 =>
              cases q3
              cases q1 with
              | @tup a2 vs2 _ tz rs =>
                cases q2 with
                | @tup b2 ws2 _ tz2 rs2 => exact ⟨a2, b2, vs2, ws2, rfl, .inr ⟨tz.sq, tz2.sq, P _ hsrc _ _ m' a1 t r ⟨_, ds_zip, tz, rs, tz2, rs2⟩⟩⟩
        · cases hsrc2
    | _ => cases hz
end
end Iv
end
section
set_option Elab.async false
set_option linter.all false
set_option maxRecDepth 100000
/-! IvSnd4: the comprehension's loop. -/
namespace Iv
open PySem PySem.Spec PyProof.Rows L2 RZ
section
variable {c : Cfg} {nm : Nm} {XR : XRel} {n : Nat} {X : Cx} {W : WX}
/-- a turn's tests and element -/
def TurnC (K : PySem.W.Frag) (w : Wr) (f : Evn → Store → Rs (Option D)) (tt : TT) (te : TE) : Prop :=
  ∀ (σ2 : L2.St) (H2 : Hp) (e1 : Evn) (st : Store) (m : Mp) (od : Option D) (st1 : Store), RSt K m st H2 → REnv K m H2 σ2 e1 → w.lim ≤ st.length → f e1 st = some (.ok od, st1) →
    ∀ (G : V → Hp → Prop) (Nx : Hp → Prop), (∀ d, od = some d → PostD K m H2 st1 d G) → (od = none → ∀ H4 m4, Ext m m4 → Tx H2 H4 → RSt K m4 st1 H4 → Nx H4) →
    tt σ2 H2 fun b H3 => if b = true then te σ2 H3 G else Nx H3
theorem lim_f {w : Wr} {f : Evn → Store → Rs (Option D)} (hf : ∀ e s, OkF w s (f e s)) {e : Evn} {s : Store} {r : R (Option D)} {s1 : Store} (hl : w.lim ≤ s.length) (h : f e s = some (r, s1)) : w.lim ≤ s1.length :=
  Nat.le_trans hl (hf e s hl _ _ h).1
theorem tt_mono {tt : TT} {te : TE} (htt : ∀ σ H Q Q', (∀ b H1, Q b H1 → Q' b H1) → tt σ H Q → tt σ H Q') : True := trivial
/-- one turn of the comprehension: what addTo says, done -/
theorem turn_comp {K : PySem.W.Frag} {w : Wr} {f : Evn → Store → Rs (Option D)} {tt : TT} {te : TE} (hB : TurnC K w f tt te) (hfr : ∀ e s, OkF w s (f e s)) {p : Nat} {Dd : Addr} {σ2 : L2.St} {H2 : Hp} {e1 : Evn} {st : Store} {m : Mp} {k : Store → Rs D} {r : R D × Store}
    (R0 : RSt K m st H2) (RE : REnv K m H2 σ2 e1) (hl : w.lim ≤ st.length) (hp : m[p]? = some Dd) (h : addTo p (f e1 st) k = some r) {Nx : Hp → Prop}
    (hN : ∀ (s2 : Store) (H' : Hp) (m' : Mp), Ext m m' → Tx H2 H' → RSt K m' s2 H' → w.lim ≤ s2.length → k s2 = some r → Nx H') :
    tt σ2 H2 fun b H3 => if b = true then te σ2 H3 (fun y H4 => ∃ acc, H4 Dd = some (.lst acc) ∧ acc.length < sizeLine ∧ Nx (upd H4 Dd (.lst (acc ++ [y])))) else Nx H3 := by
  unfold addTo at h
  split at h
  · rename_i y s1 hf
    refine hB σ2 H2 e1 st m (some y) s1 R0 RE hl hf _ _ (fun d ed v H4 m4 a t r4 q => ?_) (fun e => nomatch e)
    cases ed
    split at h
    · rename_i acc hacc
      split at h
      · rename_i hz
        obtain ⟨av, e5, r5⟩ := r4.lst hacc (a _ _ hp)
        have hlen : av.length < sizeLine := by
          rw [r5.length]
          exact Nat.lt_of_lt_of_le hz (by decide)
        refine ⟨av, e5, hlen, hN _ _ m4 a (t.trans (Tx.lst e5)) (r4.set (a _ _ hp) e5 (r5.append (.one q))) ?_ h⟩
        rw [List.length_set]
        exact lim_f hfr hl hf
      · cases h
    · cases h
  · rename_i s1 hf
    exact hB σ2 H2 e1 st m none s1 R0 RE hl hf _ _ (fun d ed => nomatch ed) fun _ H4 m4 a t r4 => hN s1 H4 m4 a t r4 (lim_f hfr hl hf) h
  · cases h
/-- the loop over data -/
theorem comp_ds {K : PySem.W.Frag} {w : Wr} {f : Evn → Store → Rs (Option D)} {tt : TT} {te : TE} (hB : TurnC K w f tt te) (hfr : ∀ e s, OkF w s (f e s)) {J : It} {xs : List D} {wk : Bool} {P : Mp → Hp → Prop} (ds : DsOk K J xs wk P) {g : Tg} (hg : wk = true → ∃ l, g = .tup l)
    {own : List Nat} (hin : tgIn own g = true) {σ : L2.St} {env : Evn} {m1 : Mp} {H1 : Hp} {s1 : Store} (R1 : RSt K m1 s1 H1) (RE : REnv K m1 H1 σ env) (hl : w.lim ≤ s1.length) (hP : P m1 H1)
    {res : R D} {st' : Store} (h : cmpT f g (wipeD env own) s1.length xs (s1 ++ [.lst []]) = some (res, st')) {Q : VK} (hQ : ∀ d, res = .ok d → PostD K m1 H1 st' d Q) (Dd : Addr) (hD : H1 Dd = none) :
    ∃ W : Nat → Nat → Hp → Prop, (∃ m, W 0 m (upd H1 Dd (.lst []))) ∧ ∀ i m H, W i m H →
      (J.stop i H ∧ Q (.ref Dd) H) ∨ (J.go i H ∧ ∃ Nx : Hp → Prop, (∀ H', Nx H' → ∃ m', m' < m ∧ W (i + 1) m' H') ∧ ∀ x H', J.yld i H x H' → tG K g x (wipe σ own) H' fun σ2 H2 => wipe σ2 own = wipe σ own ∧ tt σ2 H2 fun b H3 =>
        if b = true then te σ2 H3 fun y H4 => ∃ acc, H4 Dd = some (.lst acc) ∧ acc.length < sizeLine ∧ Nx (upd H4 Dd (.lst (acc ++ [y]))) else Nx H3) := by
  have t0 : Tx H1 (upd H1 Dd (.lst [])) := Tx.new hD
  have x0 : Ext m1 (m1 ++ [Dd]) := Ext.app m1 [Dd]
  have hp0 : (m1 ++ [Dd])[s1.length]? = some Dd := by
    rw [← R1.len, List.getElem?_append_right (Nat.le_refl _), Nat.sub_self]
    rfl
  refine ⟨fun i k H => k = xs.length - i ∧ i ≤ xs.length ∧ ∃ m st, Ext (m1 ++ [Dd]) m ∧ Tx H1 H ∧ RSt K m st H ∧ P m H ∧ w.lim ≤ st.length ∧ cmpT f g (wipeD env own) s1.length (xs.drop i) st = some (res, st'),
    ⟨xs.length, rfl, Nat.zero_le _, _, _, Ext.refl _, t0, R1.new hD .nil, ds.mono hP x0 t0, by rw [List.length_append]; omega, h⟩, ?_⟩
  rintro i k H ⟨rfl, hi, m, st, a, t, R, pP, hls, hc⟩
  by_cases hlt : i < xs.length
  · refine .inr ⟨ds.go i pP hlt, fun H' => ∃ m' st2, Ext (m1 ++ [Dd]) m' ∧ Tx H1 H' ∧ RSt K m' st2 H' ∧ P m' H' ∧ w.lim ≤ st2.length ∧ cmpT f g (wipeD env own) s1.length (xs.drop (i + 1)) st2 = some (res, st'), fun H' ⟨m', st2, b1, b2, b3, b4, b5, b6⟩ => ⟨xs.length - (i + 1), by omega, rfl, hlt, m', st2, b1, b2, b3, b4, b5, b6⟩, fun v H' hy => ?_⟩
    rw [List.drop_eq_getElem_cons hlt] at hc
    unfold cmpT at hc
    split at hc
    · rename_i e1 hb
      obtain ⟨ty, Ry, _, _, rv⟩ := ds.yld pP R (List.getElem?_eq_getElem hlt) hy
      have REw : REnv K m H' (wipe σ own) (wipeD env own) := (RE.mono (x0.trans a) (t.trans ty)).wipe own
      refine bind_run (rv.elim .inl fun z => .inr ⟨hg z.1, z.2⟩) hb REw fun σ1 r1 hw => ⟨(hw own hin).trans ?_, ?_⟩
      · have key : ∀ own : List Nat, ∀ τ : L2.St, (∀ i ∈ own, ∀ x, τ[i]? = some (some x) → False) → wipe τ own = τ := by
          intro own
          induction own with
          | nil => intro τ _; rfl
          | cons v vs ih =>
            intro τ hτ
            show (wipe τ vs).set v none = τ
            rw [ih τ fun i hi => hτ i (List.mem_cons_of_mem _ hi)]
            apply List.ext_getElem?
            intro j
            by_cases hj : j = v
            · subst hj
              by_cases hjl : j < τ.length
              · rw [List.getElem?_set_self hjl]
                cases q : τ[j]? with
                | none => rw [List.getElem?_eq_none_iff] at q; omega
                | some o =>
                  cases o with
                  | none => rfl
                  | some x => exact (hτ j List.mem_cons_self x q).elim
              · rw [List.getElem?_eq_none (by rw [List.length_set]; omega), List.getElem?_eq_none (by omega)]
            · rw [List.getElem?_set_ne (Ne.symm hj)]
        exact key own _ fun i hi x hx => (wipe_some hx).2 hi
      · exact turn_comp hB hfr Ry r1 hls (a _ _ hp0) hc fun s2 H2 m2 a2 t2 R2 hl2 hk => ⟨m2, s2, a.trans a2, (t.trans ty).trans t2, R2, ds.mono pP a2 (ty.trans t2), hl2, hk⟩
    · cases hc
  · have e0 : i = xs.length := by omega
    subst e0
    rw [List.drop_length] at hc
    unfold cmpT at hc
    cases hc
    exact .inl ⟨ds.stop _ pP (Nat.le_refl _), hQ _ rfl _ _ m (x0.trans a) t R (.ref (a _ _ hp0))⟩
/-- the loop over a list -/
theorem comp_lr {K : PySem.W.Frag} {w : Wr} {f : Evn → Store → Rs (Option D)} {tt : TT} {te : TE} (hB : TurnC K w f tt te) (hfr : ∀ e s, OkF w s (f e s)) {r : Nat} {la : Addr} {g : Tg}
    {own : List Nat} (hin : tgIn own g = true) {σ : L2.St} {env : Evn} {m1 : Mp} {H1 : Hp} {s1 : Store} (R1 : RSt K m1 s1 H1) (RE : REnv K m1 H1 σ env) (hl : w.lim ≤ s1.length) (hr : m1[r]? = some la)
    {res : R D} {st' : Store} {kk : Nat} (h : cmpL f g (wipeD env own) s1.length r kk 0 (s1 ++ [.lst []]) = some (res, st')) {Q : VK} (hQ : ∀ d, res = .ok d → PostD K m1 H1 st' d Q) (Dd : Addr) (hD : H1 Dd = none) :
    ∃ W : Nat → Nat → Hp → Prop, (∃ m, W 0 m (upd H1 Dd (.lst []))) ∧ ∀ i m H, W i m H →
      ((Itl K la).stop i H ∧ Q (.ref Dd) H) ∨ ((Itl K la).go i H ∧ ∃ Nx : Hp → Prop, (∀ H', Nx H' → ∃ m', m' < m ∧ W (i + 1) m' H') ∧ ∀ x H', (Itl K la).yld i H x H' → tG K g x (wipe σ own) H' fun σ2 H2 => wipe σ2 own = wipe σ own ∧ tt σ2 H2 fun b H3 =>
        if b = true then te σ2 H3 fun y H4 => ∃ acc, H4 Dd = some (.lst acc) ∧ acc.length < sizeLine ∧ Nx (upd H4 Dd (.lst (acc ++ [y]))) else Nx H3) := by
  have t0 : Tx H1 (upd H1 Dd (.lst [])) := Tx.new hD
  have x0 : Ext m1 (m1 ++ [Dd]) := Ext.app m1 [Dd]
  have hp0 : (m1 ++ [Dd])[s1.length]? = some Dd := by
    rw [← R1.len, List.getElem?_append_right (Nat.le_refl _), Nat.sub_self]
    rfl
  refine ⟨fun i k H => ∃ m st, Ext (m1 ++ [Dd]) m ∧ Tx H1 H ∧ RSt K m st H ∧ w.lim ≤ st.length ∧ cmpL f g (wipeD env own) s1.length r k i st = some (res, st'),
    ⟨kk, _, _, Ext.refl _, t0, R1.new hD .nil, by rw [List.length_append]; omega, h⟩, ?_⟩
  rintro i k H ⟨m, st, a, t, R, hls, hc⟩
  cases k with
  | zero => cases hc
  | succ k =>
    unfold cmpL at hc
    split at hc
    · rename_i ys hy
      have hra := a _ _ (x0 _ _ hr)
      obtain ⟨vs, e1, r1⟩ := R.lst hy hra
      split at hc
      · rename_i x hx
        obtain ⟨v0, g1, g2⟩ := r1.get hx
        split at hc
        · rename_i env1 hb
          refine .inr ⟨⟨vs, v0, SqL.of e1, g1⟩, fun H' => ∃ m' st2, Ext (m1 ++ [Dd]) m' ∧ Tx H1 H' ∧ RSt K m' st2 H' ∧ w.lim ≤ st2.length ∧ cmpL f g (wipeD env own) s1.length r k (i + 1) st2 = some (res, st'), fun H' ⟨m', st2, b1, b2, b3, b4, b5⟩ => ⟨k, Nat.lt_succ_self k, m', st2, b1, b2, b3, b4, b5⟩, fun v H' ⟨eH, hv⟩ => ?_⟩
          subst eH
          have ev := hv vs (SqL.of e1)
          rw [g1] at ev
          cases ev
          have REw : REnv K m H' (wipe σ own) (wipeD env own) := (RE.mono (x0.trans a) t).wipe own
          refine bind_run (.inl g2) hb REw fun σ1 r1 hw => ⟨(hw own hin).trans ?_, ?_⟩
          · have key : ∀ own : List Nat, ∀ τ : L2.St, (∀ i ∈ own, ∀ x, τ[i]? = some (some x) → False) → wipe τ own = τ := by
              intro own
              induction own with
              | nil => intro τ _; rfl
              | cons v vs ih =>
                intro τ hτ
                show (wipe τ vs).set v none = τ
                rw [ih τ fun i hi => hτ i (List.mem_cons_of_mem _ hi)]
                apply List.ext_getElem?
                intro j
                by_cases hj : j = v
                · subst hj
                  by_cases hjl : j < τ.length
                  · rw [List.getElem?_set_self hjl]
                    cases q : τ[j]? with
                    | none => rw [List.getElem?_eq_none_iff] at q; omega
                    | some o =>
                      cases o with
                      | none => rfl
                      | some x => exact (hτ j List.mem_cons_self x q).elim
                  · rw [List.getElem?_eq_none (by rw [List.length_set]; omega), List.getElem?_eq_none (by omega)]
                · rw [List.getElem?_set_ne (Ne.symm hj)]
            exact key own _ fun i hi x hx => (wipe_some hx).2 hi
          · exact turn_comp hB hfr R r1 hls (a _ _ hp0) hc fun s2 H2 m2 a2 t2 R2 hl2 hk => ⟨m2, s2, a.trans a2, t.trans t2, R2, hl2, hk⟩
        · cases hc
      · rename_i hx
        cases hc
        refine .inl ⟨⟨vs, SqL.of e1, ?_⟩, hQ _ rfl _ _ m (x0.trans a) t R (.ref (a _ _ hp0))⟩
        rw [r1.length]
        exact List.getElem?_eq_none_iff.mp hx
    · cases hc
end
end Iv
end
section
set_option Elab.async false
set_option linter.all false
set_option maxRecDepth 100000
/-! IvSnd5: expressions and tests. -/
namespace Iv
open PySem PySem.Spec PyProof.Rows L2 RZ
section
variable {c : Cfg} {nm : Nm} {XR : XRel} {n : Nat}
theorem biV_boot (b : Bi) : bootBuiltins (biN b) = some (biV b) := by
  cases b <;> decide +kernel
theorem biN_in (b : Bi) : bltNames.contains (biN b) = true := by
  cases b <;> decide +kernel
theorem tyN_in (t : Ty) : bltNames.contains (tyN t) = true := by
  cases t <;> decide +kernel
theorem tyN_boot (t : Ty) : bootBuiltins (tyN t) = some (.type (tyS t)) := by
  cases t <;> decide +kernel
theorem tyN_ok (t : Ty) : okN (tyN t) = true := by
  cases t <;> decide +kernel
/-- a built-in called -/
theorem pe_bi {X : Cx} (hc : X.calm = true) (b : Bi) {p pos : Pos} {e : Expr} {es : List Expr} {t : TA} (hg : Gl X (biN b)) (hm : X.mg (biN b) = none) (hok : okN (biN b) = true) (ha : PA X (e :: es) t)
    (he : starEach (e :: es) X.env = (false, eval e X.env) :: starEach es X.env) (hpl : (backTo pos (starEach es X.env)).any (·.1) = false) :
    PE X (.Call (.Name (biN b) p) (e :: es) [] pos) (tCB (rDn X.K (biD b)) t) := by
  obtain ⟨k1, k2, k3⟩ := okN_of hok
  have hcall := call_bi hc b
  have hb := biV_boot b
  cases b <;> first
    | exact pe_callB hcall hg hm hb ha k3 k1 he hpl
    | exact pe_callTy hcall hg hm hb ha k3 k1 he hpl
theorem bop_of {o : Operator} {b : Bop} (h : bopIs o b = true) : o = bop b := by
  cases o <;> cases b <;> first | rfl | cases h
theorem cop_of {o : CmpOp} {b : Cop} (h : copIs o b = true) : o = cop b := by
  cases o <;> cases b <;> first | rfl | cases h
/-- the context of a comprehension's block -/
theorem Gd.blk {X : Cx} {sc : Scope} {fnc : Str → Bool} (g : Gd c nm XR n X sc fnc) (s : Shared) (H : Hp) (scope : Scope) (C : Addr) (cl : List (Str × Addr)) (fp : List Addr) :
    Gd c nm XR n (X.blk s H scope (compEnvC scope cl C X.env) fp) (relS scope sc) (fun x => scope.names.lookup x == some .cell) :=
  ⟨g.calm, g.N, g.nd, by rw [← g.sc]; rfl, fun x h => h, g.room, g.g⟩
def wpEB (X : Cx) (scope : Scope) (e : Expr) : TE := fun σ H Q => ∀ (s : Shared) (H0 : Hp) (C : Addr) (cl : List (Str × Addr)) (fp : List Addr), wpE (X.blk s H0 scope (compEnvC scope cl C X.env) fp) e σ H Q
def wpTB (X : Cx) (scope : Scope) (e : Expr) : TT := fun σ H Q => ∀ (s : Shared) (H0 : Hp) (C : Addr) (cl : List (Str × Addr)) (fp : List Addr), wpT (X.blk s H0 scope (compEnvC scope cl C X.env) fp) e σ H Q
/-- the comprehension as a whole: its source, then its loop -/
theorem comp_whole {X : Cx} {W : WX} {sc : Scope} {fnc : Str → Bool} (gd : Gd c nm XR n X sc fnc)
    {f : Expr → E → Bool} (hf : ∀ e ir, f e ir = true → SndE c XR n X W e ir) (hp : ∀ e ir, f e ir = true → plainE e = true) {k : Ik} {tg iter : Expr} {es : Es}
    (hz : zipOk k tg = true) (hit : chkIt sc f k iter es = true) {g : Tg} {own : List Nat} (hin : tgIn own g = true) (hgz : wkOf k = true → ∃ l, g = .tup l)
    {w : Wr} {F : Evn → Store → Rs (Option D)} {tt : TT} {te : TE} (hB : TurnC X.K w F tt te) (hfr : ∀ e s, OkF w s (F e s))
    {σ : L2.St} {H : Hp} {env : Evn} {st : Store} {m : Mp} {res : R D} {st' : Store} (R0 : RSt X.K m st H) (RE : REnv X.K m H σ env) (hl : w.lim ≤ st.length)
    (hv : Iv.bnd (evEs c (callI c n) w es env st) (fun xs s1 => match srcOf k xs s1 with
      | some s => cmpSrc F g (wipeD env own) s s1
      | none => none) = some (res, st')) {Q : VK} (P : PostE X.K XR W σ m H st' res Q) :
    plainE iter = true ∧ ∃ wi, PI X tg iter wi ∧ tLc wi (tG X.K g) tt te own σ H Q := by
  rcases bnd_some hv with ⟨x, s1, e1, e2⟩ | ⟨xs, s1, e1, e2⟩
  · cases e2
    obtain ⟨h1, wi, h2, h3⟩ := src_serve (tg := tg) gd.g.blt gd.sc hf hp hz hit R0 RE hl e1 (fun xs e => by cases e)
    exact ⟨h1, wi, h2, h3 _ P⟩
  · have hnone : ∃ s, srcOf k xs s1 = some s := by
      cases hs : srcOf k xs s1 with
      | some s => exact ⟨s, rfl⟩
      | none =>
        rw [hs] at e2
        cases e2
    obtain ⟨src, hsrc⟩ := hnone
    obtain ⟨h1, wi, h2, h3⟩ := src_serve (tg := tg) gd.g.blt gd.sc hf hp hz hit R0 RE hl e1 (fun xs' e => by
      cases e
      exact ⟨src, hsrc⟩)
    refine ⟨h1, wi, h2, h3 _ fun s hs J H1 m1 a t R1 ok => ?_⟩
    rw [hs] at hsrc
    cases hsrc
    rw [hs] at e2
    have hl1 := lim_L hl e1
    intro Dd hD
    have hQ : ∀ d, res = .ok d → PostD X.K m1 H1 st' d Q := fun d e => by
      subst e
      exact PostD.mono a t P
    cases src with
    | ds ys =>
      obtain ⟨Pp, ds, hP⟩ := ok
      exact comp_ds hB hfr ds hgz hin R1 (RE.mono a t) hl1 hP e2 hQ Dd hD
    | lr r =>
      obtain ⟨la, rfl, hr⟩ := ok
      have e2' : (match lstAt s1 r with
        | some xs => cmpL F g (wipeD env own) s1.length r (xs.length + 1) 0 (s1 ++ [O.lst []])
        | none => none) = some (res, st') := e2
      split at e2'
      · exact comp_lr hB hfr hin R1 (RE.mono a t) hl1 hr e2' hQ Dd hD
      · cases e2'
/-- what chkE asks of a comprehension -/
structure LcOk (nm : Nm) (k : Nat) (sc : Scope) (g : Tg) (ik : Ik) (es cs : Es) (elt : E) (own : List Nat) (elt' tg iter : Expr) (ifs : List Expr) (scope : Scope) : Prop where
  blk : blkC nm.N sc scope (ownOf nm.N own) = true
  inn : tgIn own g = true
  it : chkIt sc (chkE nm k sc) ik iter es = true
  zp : zipOk ik tg = true
  tg_ : chkG nm (relS scope sc) (fun x => scope.names.lookup x == some .cell) tg g = true
  ifs_ : allEs (chkE nm k (relS scope sc)) ifs cs = true
  len : ifs.length ≤ 1
  elt_ : chkE nm k (relS scope sc) elt' elt = true
theorem lc_of {k : Nat} {sc : Scope} {g : Tg} {ik : Ik} {es cs : Es} {elt : E} {own : List Nat} {e : Expr} (h : (plainE e && (match e with
      | .ListComp elt' [⟨tg, iter, ifs, z⟩] scope _ => decide (z = 0) && blkC nm.N sc scope (ownOf nm.N own) && tgIn own g && chkIt sc (chkE nm k sc) ik iter es && zipOk ik tg &&
          chkG nm (relS scope sc) (fun x => scope.names.lookup x == some .cell) tg g && allEs (chkE nm k (relS scope sc)) ifs cs && decide (ifs.length ≤ 1) && chkE nm k (relS scope sc) elt' elt
      | _ => false)) = true) : ∃ elt' tg iter ifs scope pos, e = .ListComp elt' [⟨tg, iter, ifs, 0⟩] scope pos ∧ LcOk nm k sc g ik es cs elt own elt' tg iter ifs scope := by
  obtain ⟨_, h⟩ := and3 h
  split at h
  · obtain ⟨h, h8⟩ := and3 h
    obtain ⟨h, h7⟩ := and3 h
    obtain ⟨h, h6⟩ := and3 h
    obtain ⟨h, h5⟩ := and3 h
    obtain ⟨h, h4⟩ := and3 h
    obtain ⟨h, h3⟩ := and3 h
    obtain ⟨h, h2⟩ := and3 h
    obtain ⟨h0, h1⟩ := and3 h
    have e0 := of_decide_eq_true h0
    subst e0
    exact ⟨_, _, _, _, _, _, rfl, h1, h2, h3, h4, h5, h6, of_decide_eq_true h7, h8⟩
  · cases h
theorem own_map (N : List Str) (own : List Nat) : (ownOf N own).map (·.2) = own := by
  unfold ownOf
  rw [List.map_map]
  exact List.map_id _
/-- the machine's turn of a comprehension -/
def turnF (c : Cfg) (n : Nat) (w : Wr) (cs : Es) (e : E) : Evn → Store → Rs (Option D) := fun e1 s2 => match cs with
  | .nil => bnd (evE c (callI c n) w e e1 s2) fun d s3 => some (.ok (some d), s3)
  | .cons t .nil => bnd (evE c (callI c n) w t e1 s2) fun k s3 => match k with
    | .bl true => bnd (evE c (callI c n) w e e1 s3) fun d s4 => some (.ok (some d), s4)
    | .bl false => some (.ok none, s3)
    | _ => none
  | _ => none
theorem turnF_fr {w : Wr} {cs : Es} {e : E} : ∀ e1 s, OkF w s (turnF c n w cs e e1 s) := fun e1 s => by
  unfold turnF
  split
  · exact OkF.bnd (ok_evE (ok_callI c n) e e1 s) fun _ _ => OkF.now
  · rename_i t
    refine OkF.bnd (ok_evE (ok_callI c n) t e1 s) fun k s3 => ?_
    split
    · exact OkF.bnd (ok_evE (ok_callI c n) e e1 s3) fun _ _ => OkF.now
    · exact OkF.now
    · exact OkF.none
  · exact OkF.none
def tIfs (X : Cx) (scope : Scope) : List Expr → TT
  | [] => tYes
  | [t] => wpTB X scope t
  | _ => fun _ _ _ => False
theorem turnF_ok {X : Cx} {w : Wr} {cs : Es} {elt : E} {elt' : Expr} {ifs : List Expr} {scope : Scope} {f : Expr → E → Bool} (hlen : ifs.length ≤ 1) (hifs : allEs f ifs cs = true)
    (he : ∀ s H0 C cl fp, SndE c XR n (X.blk s H0 scope (compEnvC scope cl C X.env) fp) (fun _ _ _ _ => False) elt' elt)
    (ht : ∀ t it, f t it = true → ∀ s H0 C cl fp, SndT c XR n (X.blk s H0 scope (compEnvC scope cl C X.env) fp) (fun _ _ _ _ => False) t it) : TurnC X.K w (turnF c n w cs elt) (tIfs X scope ifs) (wpEB X scope elt') := by
  intro σ2 H2 e1 st m od st1 R0 RE hl h G Nx hG hN
  have elem : ∀ {H3 : Hp} {m3 : Mp} {s3 : Store}, RSt X.K m3 s3 H3 → REnv X.K m3 H3 σ2 e1 → w.lim ≤ s3.length → bnd (evE c (callI c n) w elt e1 s3) (fun d s4 => some (.ok (some d), s4)) = some (.ok od, st1) → Ext m m3 → Tx H2 H3 → wpEB X scope elt' σ2 H3 G := fun {H3 m3 s3} R3 RE3 hl3 hb a t s H0 C cl fp => by
    rcases bnd_some hb with ⟨x, s4, e2, e3⟩ | ⟨x, s4, e2, e3⟩
    · cases e3
    · cases e3
      exact he s H0 C cl fp w σ2 H3 e1 s3 m3 _ _ R3 RE3 hl3 e2 G (PostD.mono a t (hG x rfl))
  match ifs, cs, hifs with
  | [], .nil, _ => exact elem R0 RE hl h (Ext.refl m) (Tx.refl H2)
  | [t], .cons it .nil, hifs =>
    obtain ⟨h1, _⟩ := and3 (show (_ && _) = true from hifs)
    intro s H0 C cl fp
    have hh : bnd (evE c (callI c n) w it e1 st) (fun k s3 => match k with
      | .bl true => bnd (evE c (callI c n) w elt e1 s3) fun d s4 => some (.ok (some d), s4)
      | .bl false => some (.ok none, s3)
      | _ => none) = some (.ok od, st1) := h
    rcases bnd_some hh with ⟨x, s3, e2, e3⟩ | ⟨x, s3, e2, e3⟩
    · cases e3
    · have hl3 := lim_E hl e2
      cases x with
      | bl b =>
        refine ht t it h1 s H0 C cl fp w σ2 H2 e1 st m _ _ R0 RE hl e2 _ fun H' m' a t r => ?_
        cases b with
        | true =>
          rw [if_pos rfl]
          exact elem r (RE.mono a t) hl3 e3 a t
        | false =>
          rw [if_neg Bool.false_ne_true]
          cases e3
          exact hN rfl H' m' a t r
      | _ => cases e3
  | [_], .cons _ (.cons _ _), hifs =>
    obtain ⟨_, h2⟩ := and3 (show (_ && _) = true from hifs)
    cases h2
theorem pts_of {X : Cx} {scope : Scope} {ifs : List Expr} (hlen : ifs.length ≤ 1) (s : Shared) (H : Hp) (C : Addr) (cl : List (Str × Addr)) (fp : List Addr) : PTs (X.blk s H scope (compEnvC scope cl C X.env) fp) ifs (tIfs X scope ifs) := by
  match ifs, hlen with
  | [], _ => exact pts_nil
  | [t], _ => exact pts_one ⟨fun pins s0 σ H1 Q I h => h s H C cl fp pins s0 I⟩
theorem wk_tup {ik : Ik} {tg : Expr} {sc : Scope} {fnc : Str → Bool} {g : Tg} (hz : zipOk ik tg = true) (hg : chkG nm sc fnc tg g = true) : wkOf ik = true → ∃ l, g = .tup l := fun hk => by
  cases ik <;> first | (cases hk; done) | skip
  cases tg <;> first | (cases hz; done) | skip
  cases g with
  | name i => cases hg
  | tup l => exact ⟨l, rfl⟩
end
end Iv
end
section
set_option Elab.async false
set_option linter.all false
set_option maxRecDepth 100000
/-! IvSnd6: the theorem of expressions. -/
namespace Iv
open PySem PySem.Spec PyProof.Rows L2 RZ
section
variable {c : Cfg} {nm : Nm} {XR : XRel} {n : Nat}
def AllE (c : Cfg) (nm : Nm) (XR : XRel) (n k : Nat) : Prop := ∀ (X : Cx) (W : WX) (sc : Scope) (fnc : Str → Bool) (e : Expr) (ir : E), Gd c nm XR n X sc fnc → Takes X W → chkE nm k sc e ir = true → SndE c XR n X W e ir
def AllT (c : Cfg) (nm : Nm) (XR : XRel) (n k : Nat) : Prop := ∀ (X : Cx) (W : WX) (sc : Scope) (fnc : Str → Bool) (e : Expr) (ir : E), Gd c nm XR n X sc fnc → Takes X W → chkE nm k sc e ir = true → SndT c XR n X W e ir
/-- and, or as values -/
theorem snd_andsV {X : Cx} {W : WX} {f : Expr → E → Bool} (hf : ∀ e ir, f e ir = true → SndE c XR n X W e ir) : ∀ {e : Expr} {es : List Expr} {is : Es}, allEs f (e :: es) is = true →
    ∀ (w : Wr) (σ : L2.St) (H : Hp) (env : Evn) (st : Store) (m : Mp) (res : R D) (st' : Store), RSt X.K m st H → REnv X.K m H σ env → w.lim ≤ st.length → evAnd c (callI c n) w is env st = some (res, st') → ∀ Q : VK, PostE X.K XR W σ m H st' res Q → tAndsV X (e :: es) σ H Q := by
  intro e es
  induction es generalizing e with
  | nil =>
    intro is h w σ H env st m res st' R0 RE hl hv Q P
    match is, h with
    | .cons i .nil, h =>
      obtain ⟨h1, _⟩ := and3 (show (_ && _) = true from h)
      unfold evAnd at hv
      exact hf e i h1 w σ H env st m res st' R0 RE hl hv Q P
    | .cons i (.cons _ _), h =>
      obtain ⟨_, h2⟩ := and3 (show (_ && _) = true from h)
      cases h2
  | cons e2 es ih =>
    intro is h w σ H env st m res st' R0 RE hl hv Q P
    match is, h with
    | .cons i .nil, h =>
      obtain ⟨_, h2⟩ := and3 (show (_ && _) = true from h)
      cases h2
    | .cons i (.cons i2 is), h =>
      obtain ⟨h1, h2⟩ := and3 (show (_ && _) = true from h)
      unfold evAnd at hv
      refine SndE.bnd (hf e i h1) R0 RE hl hv P fun x s1 vx H1 m1 hk a t R1 RE1 rd hl1 P1 => ?_
      cases rd with
      | bl b =>
        refine ⟨b, rfl, ?_⟩
        cases b with
        | true => exact ih h2 w σ H1 env s1 m1 res st' R1 RE1 hl1 hk Q P1
        | false =>
          cases hk
          exact PostD.now P1 R1 (.bl false)
      | _ => cases hk
theorem snd_orsV {X : Cx} {W : WX} {f : Expr → E → Bool} (hf : ∀ e ir, f e ir = true → SndE c XR n X W e ir) : ∀ {e : Expr} {es : List Expr} {is : Es}, allEs f (e :: es) is = true →
    ∀ (w : Wr) (σ : L2.St) (H : Hp) (env : Evn) (st : Store) (m : Mp) (res : R D) (st' : Store), RSt X.K m st H → REnv X.K m H σ env → w.lim ≤ st.length → evOr c (callI c n) w is env st = some (res, st') → ∀ Q : VK, PostE X.K XR W σ m H st' res Q → tOrsV X (e :: es) σ H Q := by
  intro e es
  induction es generalizing e with
  | nil =>
    intro is h w σ H env st m res st' R0 RE hl hv Q P
    match is, h with
    | .cons i .nil, h =>
      obtain ⟨h1, _⟩ := and3 (show (_ && _) = true from h)
      unfold evOr at hv
      exact hf e i h1 w σ H env st m res st' R0 RE hl hv Q P
    | .cons i (.cons _ _), h =>
      obtain ⟨_, h2⟩ := and3 (show (_ && _) = true from h)
      cases h2
  | cons e2 es ih =>
    intro is h w σ H env st m res st' R0 RE hl hv Q P
    match is, h with
    | .cons i .nil, h =>
      obtain ⟨_, h2⟩ := and3 (show (_ && _) = true from h)
      cases h2
    | .cons i (.cons i2 is), h =>
      obtain ⟨h1, h2⟩ := and3 (show (_ && _) = true from h)
      unfold evOr at hv
      refine SndE.bnd (hf e i h1) R0 RE hl hv P fun x s1 vx H1 m1 hk a t R1 RE1 rd hl1 P1 => ?_
      cases rd with
      | bl b =>
        refine ⟨b, rfl, ?_⟩
        cases b with
        | false => exact ih h2 w σ H1 env s1 m1 res st' R1 RE1 hl1 hk Q P1
        | true =>
          cases hk
          exact PostD.now P1 R1 (.bl true)
      | _ => cases hk
/-- and, or as tests -/
theorem snd_andsT {X : Cx} {W : WX} {f : Expr → E → Bool} (hf : ∀ e ir, f e ir = true → SndT c XR n X W e ir) : ∀ {e : Expr} {es : List Expr} {is : Es}, allEs f (e :: es) is = true →
    ∀ (w : Wr) (σ : L2.St) (H : Hp) (env : Evn) (st : Store) (m : Mp) (res : R D) (st' : Store), RSt X.K m st H → REnv X.K m H σ env → w.lim ≤ st.length → evAnd c (callI c n) w is env st = some (res, st') → ∀ Q : Bool → Hp → Prop, PostT X.K XR W σ m H st' res Q → tAnds X (e :: es) σ H Q := by
  intro e es
  induction es generalizing e with
  | nil =>
    intro is h w σ H env st m res st' R0 RE hl hv Q P
    match is, h with
    | .cons i .nil, h =>
      obtain ⟨h1, _⟩ := and3 (show (_ && _) = true from h)
      unfold evAnd at hv
      exact hf e i h1 w σ H env st m res st' R0 RE hl hv Q P
    | .cons i (.cons _ _), h =>
      obtain ⟨_, h2⟩ := and3 (show (_ && _) = true from h)
      cases h2
  | cons e2 es ih =>
    intro is h w σ H env st m res st' R0 RE hl hv Q P
    match is, h with
    | .cons i .nil, h =>
      obtain ⟨_, h2⟩ := and3 (show (_ && _) = true from h)
      cases h2
    | .cons i (.cons i2 is), h =>
      obtain ⟨h1, h2⟩ := and3 (show (_ && _) = true from h)
      unfold evAnd at hv
      refine SndT.bndT (hf e i h1) R0 RE hl hv (fun x s1 hk => ?_) P fun b s1 H1 m1 hk a t R1 RE1 hl1 P1 => ?_
      · cases x <;> first | exact ⟨_, rfl⟩ | cases hk
      · cases b with
        | true =>
          rw [if_pos rfl]
          exact ih h2 w σ H1 env s1 m1 res st' R1 RE1 hl1 hk Q P1
        | false =>
          rw [if_neg Bool.false_ne_true]
          cases hk
          exact P1 H1 m1 (Ext.refl m1) (Tx.refl H1) R1
theorem snd_orsT {X : Cx} {W : WX} {f : Expr → E → Bool} (hf : ∀ e ir, f e ir = true → SndT c XR n X W e ir) : ∀ {e : Expr} {es : List Expr} {is : Es}, allEs f (e :: es) is = true →
    ∀ (w : Wr) (σ : L2.St) (H : Hp) (env : Evn) (st : Store) (m : Mp) (res : R D) (st' : Store), RSt X.K m st H → REnv X.K m H σ env → w.lim ≤ st.length → evOr c (callI c n) w is env st = some (res, st') → ∀ Q : Bool → Hp → Prop, PostT X.K XR W σ m H st' res Q → tOrs X (e :: es) σ H Q := by
  intro e es
  induction es generalizing e with
  | nil =>
    intro is h w σ H env st m res st' R0 RE hl hv Q P
    match is, h with
    | .cons i .nil, h =>
      obtain ⟨h1, _⟩ := and3 (show (_ && _) = true from h)
      unfold evOr at hv
      exact hf e i h1 w σ H env st m res st' R0 RE hl hv Q P
    | .cons i (.cons _ _), h =>
      obtain ⟨_, h2⟩ := and3 (show (_ && _) = true from h)
      cases h2
  | cons e2 es ih =>
    intro is h w σ H env st m res st' R0 RE hl hv Q P
    match is, h with
    | .cons i .nil, h =>
      obtain ⟨_, h2⟩ := and3 (show (_ && _) = true from h)
      cases h2
    | .cons i (.cons i2 is), h =>
      obtain ⟨h1, h2⟩ := and3 (show (_ && _) = true from h)
      unfold evOr at hv
      refine SndT.bndT (hf e i h1) R0 RE hl hv (fun x s1 hk => ?_) P fun b s1 H1 m1 hk a t R1 RE1 hl1 P1 => ?_
      · cases x <;> first | exact ⟨_, rfl⟩ | cases hk
      · cases b with
        | false =>
          rw [if_neg Bool.false_ne_true]
          exact ih h2 w σ H1 env s1 m1 res st' R1 RE1 hl1 hk Q P1
        | true =>
          rw [if_pos rfl]
          cases hk
          exact P1 H1 m1 (Ext.refl m1) (Tx.refl H1) R1
theorem tupAny_of {d : D} {K : PySem.W.Frag} {m : Mp} {H : Hp} {st : Store} {vs : List V} {xs : List D} {st' : Store} {Q : VK} (R : RSt K m st H) (r : RDs K m H vs xs) (h : (if xs.length ≤ 1000000 then some (Iv.R.ok (D.tup xs), st) else none) = some (.ok d, st')) (P : PostD K m H st' d Q) :
    vs.length ≤ sizeLine ∧ NewZ H vs Q := by
  split at h
  · rename_i hz
    cases h
    exact ⟨sz1 (by rw [r.length]; exact hz), P.newT R r⟩
  · cases h
/-- o.m(..), a method of a built-in type -/
theorem pe_mtA {X : Cx} {o' : Expr} {vs : List Expr} {name : Str} {ap p : Pos} {T id : String} {r : V → List V → Hp → VK → Prop} (pa : PlainAttrs T) (slot : Slot T name id) (hty : typeOf (.builtin id) = pure (.type "method_descriptor")) (hm : MtR X id r)
    (hpl : ∀ e ∈ vs, plainE e = true) (hb : baseE o' = true) (hline : ap.endLine = p.line) (hlen : vs.length < 20) :
    PE X (.Call (.Attribute o' name ap) vs [] p) (fun σ H Q => wpE X o' σ H fun x H1 => tyV X.K T x H1 ∧ tEs X vs σ H1 fun xs H2 => r x xs H2 Q) := by
  have hbase := base_attr (env := X.env) hb name
  have hln : (ap.endLine == p.line) = true := by rw [hline]; exact beq_self_eq_true _
  cases vs with
  | nil => exact pe_bm0 pa slot hty hm (pe_w o') hbase hln
  | cons a as =>
    have hp2 : ∀ e ∈ as, plainE e = true := fun e he => hpl e (List.mem_cons_of_mem _ he)
    exact pe_bm pa slot hty hm (pe_w o') (pa_tEs hpl) hbase (backs_all hpl p (by omega)) hln (plain_star (hpl a List.mem_cons_self) as) (backs_any hp2 p)
theorem pe_mtT {X : Cx} {o' a : Expr} {as : List Expr} {name : Str} {ap p : Pos} {id : String} {r : V → List V → Hp → VK → Prop} (slot : Slot "tuple" name id) (hty : typeOf (.builtin id) = pure (.type "method_descriptor")) (hm : MtR X id r)
    (hpl : ∀ e ∈ a :: as, plainE e = true) (hb : baseE o' = true) (hline : ap.endLine = p.line) (hlen : (a :: as).length < 20) :
    PE X (.Call (.Attribute o' name ap) (a :: as) [] p) (fun σ H Q => wpE X o' σ H fun x H1 => (∃ b vs, x = .ref b ∧ TupZ X.K H1 b vs) ∧ tEs X (a :: as) σ H1 fun xs H2 => r x xs H2 Q) := by
  have hbase := base_attr (env := X.env) hb name
  have hln : (ap.endLine == p.line) = true := by rw [hline]; exact beq_self_eq_true _
  have hp2 : ∀ e ∈ as, plainE e = true := fun e he => hpl e (List.mem_cons_of_mem _ he)
  exact pe_bmT slot hty hm (pe_w o') (pa_tEs hpl) hbase (backs_all hpl p (by omega)) hln (plain_star (hpl a List.mem_cons_self) as) (backs_any hp2 p)
theorem tyV_list {K : PySem.W.Frag} {m : Mp} {H : Hp} {st : Store} (R : RSt K m st H) {v : V} {r : Nat} (h : RD K m H v (.ref r)) : tyV K "list" v H ∧ ∃ a ws, v = .ref a ∧ SqL K H a ws := by
  obtain ⟨a, rfl, ha⟩ := h.inv_ref
  obtain ⟨vs, e⟩ := R.tracked (List.mem_of_getElem? ha)
  exact ⟨.inl ⟨rfl, vs, SqL.of e⟩, a, vs, rfl, SqL.of e⟩
theorem snd_mth {X : Cx} {W : WX} {f : Expr → E → Bool} (hf : ∀ e ir, f e ir = true → SndE c XR n X W e ir) (hp : ∀ e ir, f e ir = true → plainE e = true)
    {mt : Mt} {o : E} {es : Es} {o' : Expr} {ap p : Pos} {vs : List Expr} (hmt : mtOk mt = true) (hb : baseE o' = true) (hline : ap.endLine = p.line) (hlen : vs.length < 20) (ho : f o' o = true) (ha : allEs f vs es = true)
    {w : Wr} {σ : L2.St} {H : Hp} {env : Evn} {st : Store} {m : Mp} {res : R D} {st' : Store} (R0 : RSt X.K m st H) (RE : REnv X.K m H σ env) (hl : w.lim ≤ st.length)
    (hv : evE c (callI c n) w (.mth mt o es) env st = some (res, st')) {Q : VK} (P : PostE X.K XR W σ m H st' res Q) : wpE X (.Call (.Attribute o' (mtN mt) ap) vs [] p) σ H Q := by
  have hpl := allEs_plain hp ha
  have ihL := snd_L hf ha
  have ihO := hf _ _ ho
  unfold evE at hv
  -- the receiver's kind is known ahead of the arguments
  have fin : ∀ {x : D} {s1 : Store} {H1 : Hp} {m1 : Mp} {vx : V} {G : V → List V → Hp → VK → Prop}, RSt X.K m1 s1 H1 → REnv X.K m1 H1 σ env → RD X.K m1 H1 vx x → w.lim ≤ s1.length → PostE X.K XR W σ m1 H1 st' res Q →
      (if mtRcv mt x = true then Iv.bnd (evEs c (callI c n) w es env s1) fun xs s2 => mthD mt w x xs s2 else none) = some (res, st') → (∀ ws H2, Tx H1 H2 → (∀ m2 s2, Ext m1 m2 → RSt X.K m2 s2 H2 → rDm X.K (mthD mt w) vx ws H2 Q → G vx ws H2 Q)) → tEs X vs σ H1 fun xs H2 => G vx xs H2 Q := fun {x s1 H1 m1 vx G} R1 RE1 rd hl1 P1 hk hG => by
    split at hk
    · refine SndL.bnd ihL R1 RE1 hl1 hk P1 fun xs s2 ws H2 m2 hm a t R2 _ rds _ P2 => hG ws H2 t m2 s2 a R2 ?_
      cases res with
      | ok d => exact ⟨m2, s2, x, xs, d, st', R2, rd.mono a t, rds, hm, P2⟩
      | ex e => exact absurd hm (nox_mth mt w x xs s2 e st')
    · cases hk
  have rcv : ∀ {x : D} {s1 : Store} {z : R D × Store}, (if mtRcv mt x = true then Iv.bnd (evEs c (callI c n) w es env s1) fun xs s2 => mthD mt w x xs s2 else none) = some z → mtRcv mt x = true := fun {x s1 z} hk => by
    split at hk
    · assumption
    · cases hk
  -- a list's method
  have lists : ∀ {id : String} (slot : Slot "list" (mtN mt) id) (hty : typeOf (.builtin id) = pure (.type "method_descriptor")) (hm : MtR X id fun vx vs H Q => (∃ a ss, vx = .ref a ∧ SqL X.K H a ss) ∧ rDm X.K (mthD mt w) vx vs H Q),
      (∀ x s1, evE c (callI c n) w o env st = some (.ok x, s1) → mtRcv mt x = true → ∃ r, x = .ref r) → wpE X (.Call (.Attribute o' (mtN mt) ap) vs [] p) σ H Q := fun {id} slot hty hm hx => by
    refine of_pe (pe_mtA PySem.F.plainAttrs_list slot hty hm hpl hb hline hlen) ?_
    rcases bnd_some hv with ⟨x, s1, e1, e2⟩ | ⟨x, s1, e1, e2⟩
    · cases e2
      exact ihO w σ H env st m _ _ R0 RE hl e1 _ P
    · obtain ⟨r, rfl⟩ := hx x s1 e1 (rcv e2)
      refine ihO w σ H env st m _ _ R0 RE hl e1 _ fun v H1 m1 a t R1 rd => ?_
      refine ⟨(tyV_list R1 rd).1, ?_⟩
      exact fin (G := fun vx ws H2 Q => (∃ a ss, vx = .ref a ∧ SqL X.K H2 a ss) ∧ rDm X.K (mthD mt w) vx ws H2 Q) R1 (RE.mono a t) rd (lim_E hl e1) (P.mono a t) e2 fun ws H2 t2 m2 s2 a2 R2 z => ⟨(tyV_list R2 (rd.mono a2 t2)).2, z⟩
  cases mt with
  | append => exact lists PySem.F.slot_list_append PySem.F.type_list_append (fun pins s σ H x xs v us Q I r1 r2 z => mt_appendD w pins s σ H x xs v us Q I r1 r2 z.2) fun x s1 _ hr => by cases x <;> first | exact ⟨_, rfl⟩ | cases hr
  | extend => exact lists PySem.F.slot_list_extend PySem.F.type_list_extend (fun pins s σ H x xs v us Q I r1 r2 z => mt_extendD w pins s σ H x xs v us Q I r1 r2 z.2) fun x s1 _ hr => by cases x <;> first | exact ⟨_, rfl⟩ | cases hr
  | pop => exact lists PySem.F.slot_list_pop PySem.F.type_list_pop (fun pins s σ H x xs v us Q I r1 r2 z => mt_popD w pins s σ H x xs v us Q I r1 r2 z.2) fun x s1 _ hr => by cases x <;> first | exact ⟨_, rfl⟩ | cases hr
  | index =>
    by_cases htup : ∃ xs s1, evE c (callI c n) w o env st = some (.ok (.tup xs), s1)
    · obtain ⟨xs, s1, e1⟩ := htup
      rw [e1] at hv
      have hv' : (if mtRcv .index (.tup xs) = true then Iv.bnd (evEs c (callI c n) w es env s1) fun ys s2 => mthD .index w (.tup xs) ys s2 else none) = some (res, st') := hv
      cases vs with
      | nil =>
        exfalso
        rw [if_pos (show mtRcv .index (.tup xs) = true from rfl)] at hv'
        cases es with
        | cons _ _ => cases ha
        | nil =>
          unfold evEs at hv'
          cases hv'
      | cons a as =>
        refine of_pe (pe_mtT PySem.F.slot_tuple_index PySem.F.type_tuple_index (mt_indexT w) hpl hb hline hlen) ?_
        refine ihO w σ H env st m _ _ R0 RE hl e1 _ fun v H1 m1 a1 t R1 rd => ?_
        cases rd with
        | @tup b ws _ tz rs =>
          refine ⟨⟨b, ws, rfl, tz⟩, ?_⟩
          exact fin (G := fun vx ws H2 Q => (∃ a ss, vx = .ref a ∧ TupZ X.K H2 a ss) ∧ rDm X.K (mthD .index w) vx ws H2 Q) R1 (RE.mono a1 t) (.tup tz rs) (lim_E hl e1) (P.mono a1 t) hv' fun ws2 H2 t2 m2 s2 a2 R2 z => ⟨⟨b, ws, rfl, tz.mono t2⟩, z⟩
    · exact lists PySem.F.slot_list_index PySem.F.type_list_index (mt_indexL w) fun x s1 e1 hr => by
        cases x with
        | ref r => exact ⟨r, rfl⟩
        | tup xs => exact absurd ⟨xs, s1, e1⟩ htup
        | _ => cases hr
  | join =>
    refine of_pe (pe_mtA PySem.F.plainAttrs_str PySem.F.slot_str_join PySem.F.type_str_join (mt_joinD w) hpl hb hline hlen) ?_
    rcases bnd_some hv with ⟨x, s1, e1, e2⟩ | ⟨x, s1, e1, e2⟩
    · cases e2
      exact ihO w σ H env st m _ _ R0 RE hl e1 _ P
    · have hr := rcv e2
      cases x with
      | str z =>
        refine ihO w σ H env st m _ _ R0 RE hl e1 _ fun v H1 m1 a t R1 rd => ?_
        cases rd
        exact ⟨rfl, fin (G := fun vx ws H2 Q => rDm X.K (mthD .join w) vx ws H2 Q) R1 (RE.mono a t) (.str z) (lim_E hl e1) (P.mono a t) e2 fun ws H2 t2 m2 s2 a2 R2 z => z⟩
      | _ => cases hr
  | split => cases hmt
  | partition => cases hmt
  | strip => cases hmt
  | startswith => cases hmt
end
end Iv
end
section
set_option Elab.async false
set_option linter.all false
set_option maxRecDepth 100000
/-! IvSnd7: the theorem of expressions. -/
namespace Iv
open PySem PySem.Spec PyProof.Rows L2 RZ
section
variable {c : Cfg} {nm : Nm} {XR : XRel} {n : Nat}
theorem lenNew {K : PySem.W.Frag} {m : Mp} {H : Hp} {st : Store} {vs : List V} {xs : List D} {d : D} {st' : Store} {Q : VK} (R : RSt K m st H) (r : RDs K m H vs xs) (h : (if xs.length ≤ 1000000 then newL st xs else none) = some (.ok d, st')) (P : PostD K m H st' d Q) :
    vs.length ≤ sizeLine ∧ ∀ p, H p = none → Q (.ref p) (upd H p (.lst vs)) := by
  split at h
  · rename_i hz
    exact ⟨sz1 (by rw [r.length]; exact hz), P.newL R r h⟩
  · cases h
theorem constIs_pe {X : Cx} {k : Const} {d : D} {j : Nat} {pos : Pos} (h : constIs k d = true) : ∃ v, PE X (.Constant k j pos) (tC v) ∧ ∀ (K : PySem.W.Frag) m H, RD K m H v d := by
  cases k <;> cases d <;> first
    | exact ⟨.non, pe_non, fun _ _ _ => .non⟩
    | (have e := eq_of_beq h; subst e; exact ⟨.bl _, pe_bl, fun _ _ _ => .bl _⟩)
    | (have e := of_decide_eq_true h; subst e; exact ⟨.int _, pe_int, fun _ _ _ => .int _⟩)
    | (have e := of_decide_eq_true h; subst e; exact ⟨.str _, pe_str, fun _ _ _ => .str _⟩)
    | cases h
/-- a part of a slice -/
theorem partIs_po {X : Cx} {W : WX} {f : Expr → E → Bool} (hf : ∀ e ir, f e ir = true → SndE c XR n X W e ir) {eo : Option Expr} {ir : Es} (h : partIs f eo ir = true) : ∃ t, PO X eo t ∧
    ∀ (w : Wr) (σ : L2.St) (H : Hp) (env : Evn) (st : Store) (m : Mp) (res : R D) (st' : Store) (g : List D → Store → Rs D), RSt X.K m st H → REnv X.K m H σ env → w.lim ≤ st.length → Iv.bnd (evEs c (callI c n) w ir env st) g = some (res, st') →
      (∀ d s1, g d s1 = some (res, st') → ∃ o, part? d = some o) → ∀ (Q : VK), PostE X.K XR W σ m H st' res Q → ∀ Q1 : Option Int → Hp → Prop,
      (∀ (d : List D) (o : Option Int) (s1 : Store) (H1 : Hp) (m1 : Mp), g d s1 = some (res, st') → part? d = some o → Ext m m1 → Tx H H1 → RSt X.K m1 s1 H1 → REnv X.K m1 H1 σ env → w.lim ≤ s1.length → PostE X.K XR W σ m1 H1 st' res Q → Q1 o H1) → t σ H Q1 := by
  match eo, ir, h with
  | none, .nil, _ =>
    refine ⟨_, po_none, fun w σ H env st m res st' g R0 RE hl h2 hpart Q P Q1 hk => ?_⟩
    unfold evEs at h2
    exact hk [] none st H m h2 rfl (Ext.refl m) (Tx.refl H) R0 RE hl P
  | some e, .cons i .nil, h =>
    refine ⟨_, po_some (pe_w e), fun w σ H env st m res st' g R0 RE hl h2 hpart Q P Q1 hk => ?_⟩
    rcases bnd_some h2 with ⟨x, s1, e1, e2⟩ | ⟨xs, s1, e1, e2⟩
    · cases e2
      unfold evEs at e1
      rcases bnd_some e1 with ⟨y, s2, e3, e4⟩ | ⟨y, s2, e3, e4⟩
      · cases e4
        exact hf e i h w σ H env st m _ _ R0 RE hl e3 _ P
      · rcases bnd_some e4 with ⟨z, s3, e5, e6⟩ | ⟨z, s3, e5, e6⟩
        · unfold evEs at e5
          cases e5
        · cases e6
    · unfold evEs at e1
      rcases bnd_some e1 with ⟨y, s2, e3, e4⟩ | ⟨y, s2, e3, e4⟩
      · cases e4
      · rcases bnd_some e4 with ⟨z, s3, e5, e6⟩ | ⟨z, s3, e5, e6⟩
        · cases e6
        · unfold evEs at e5
          cases e5
          cases e6
          obtain ⟨o, ho⟩ := hpart _ _ e2
          refine hf e i h w σ H env st m _ _ R0 RE hl e3 _ fun v H1 m1 a t R1 rd => ?_
          cases rd with
          | int k =>
            cases ho
            exact ⟨k, rfl, hk [.int k] (some k) _ H1 m1 e2 rfl a t R1 (RE.mono a t) (lim_E hl e3) (P.mono a t)⟩
          | _ => cases ho
/-- the expressions at one level more -/
theorem allE_succ {k : Nat} (ihE : AllE c nm XR n k) (ihT : AllT c nm XR n k) : AllE c nm XR n (k + 1) := by
  intro X W sc fnc e ir gd tk hchk
  have hf : ∀ e ir, chkE nm k sc e ir = true → SndE c XR n X W e ir := fun e ir h => ihE X W sc fnc e ir gd tk h
  have hp : ∀ e ir, chkE nm k sc e ir = true → plainE e = true := fun e ir h => chkE_plain h
  obtain ⟨hpe, h⟩ := and3 (show (_ && _) = true from hchk)
  have gsc := gd.sc
  intro w σ H env st m res st' R0 RE hl hv Q P
  cases ir with
  | var i =>
    dsimp only at h
    split at h
    · rename_i x pos
      obtain ⟨h, h3⟩ := and3 h
      obtain ⟨h1, h2⟩ := and3 h
      obtain ⟨k1, k2, k3⟩ := okN_of h3
      unfold evE at hv
      split at hv
      · rename_i d hd
        cases hv
        obtain ⟨v, e1, r1⟩ := RE.at_ i d hd
        refine of_pe (pe_var (i := i) (by rw [gd.N]; exact isN_some h1) (by rw [gsc]; exact vis_of h2) k1 k2) ⟨v, e1, PostD.now P R0 r1⟩
      · cases hv
    · cases h
  | glb i =>
    dsimp only at h
    split at h
    · rename_i x pos
      obtain ⟨h, h3⟩ := and3 h
      obtain ⟨h1, h2⟩ := and3 h
      obtain ⟨k1, k2, k3⟩ := okN_of h3
      unfold evE at hv
      split at hv
      · rename_i d hd
        cases hv
        obtain ⟨u, v, g1, g2, g3⟩ := gd.g.cst i x d (isN_some h1) hd
        subst gsc
        exact of_pe (pe_glob (glo_of h2) g1 g2 k1) (PostD.now P R0 (g3 m H))
      · cases hv
    · cases h
  | cst d =>
    dsimp only at h
    split at h
    · rename_i k1 j pos
      obtain ⟨v, h1, h2⟩ := constIs_pe (X := X) (j := j) (pos := pos) h
      unfold evE at hv
      cases hv
      exact of_pe h1 (PostD.now P R0 (h2 _ _ _))
    · cases h
  | bin o a b =>
    dsimp only at h
    split at h
    · rename_i a' o' b' pos
      obtain ⟨h, h3⟩ := and3 h
      obtain ⟨h1, h2⟩ := and3 h
      have eo := bop_of h1
      subst eo
      unfold evE at hv
      refine of_pe (pe_op (op_bin o) (pe_w a') (pe_w b')) ?_
      refine SndE.bnd (hf _ _ h2) R0 RE hl hv P fun x s1 vx H1 m1 hk a1 t1 R1 RE1 rx hl1 P1 => ?_
      refine SndE.bnd (hf _ _ h3) R1 RE1 hl1 hk P1 fun y s2 vy H2 m2 hk2 a2 t2 R2 RE2 ry hl2 P2 => ?_
      cases res with
      | ok d => exact ⟨m2, s2, x, y, d, st', R2, rx.mono a2 t2, ry, hk2, P2⟩
      | ex e => exact absurd hk2 (nox_bin o x y s2 e st')
    · cases h
  | neg a =>
    dsimp only at h
    split at h
    · rename_i a' pos
      unfold evE at hv
      refine of_pe (pe_un un_neg (pe_w a')) ?_
      refine SndE.bnd (hf _ _ h) R0 RE hl hv P fun x s1 vx H1 m1 hk a1 t1 R1 RE1 rx hl1 P1 => ?_
      cases rx with
      | int i =>
        cases hk
        exact ⟨i, rfl, PostD.now P1 R1 (.int _)⟩
      | _ => cases hk
    · cases h
  | not a =>
    dsimp only at h
    split at h
    · rename_i a' pos
      unfold evE at hv
      refine of_pe (pe_not (pe_w a')) ?_
      refine SndE.bnd (hf _ _ h) R0 RE hl hv P fun x s1 vx H1 m1 hk a1 t1 R1 RE1 rx hl1 P1 => ?_
      cases rx with
      | bl b =>
        cases hk
        exact ⟨b, rfl, PostD.now P1 R1 (.bl _)⟩
      | _ => cases hk
    · cases h
  | cmp o a b =>
    dsimp only at h
    split at h
    · rename_i a' o' b' pos
      obtain ⟨h, h3⟩ := and3 h
      obtain ⟨h1, h2⟩ := and3 h
      have eo := cop_of h1
      subst eo
      unfold evE at hv
      refine of_pe (pe_cmpR (op_cmp gd.room.units o) (pe_w a') (pe_w b') (plain_behind (hp _ _ h3) _)) ?_
      refine SndE.bnd (hf _ _ h2) R0 RE hl hv P fun x s1 vx H1 m1 hk a1 t1 R1 RE1 rx hl1 P1 => ?_
      refine SndE.bnd (hf _ _ h3) R1 RE1 hl1 hk P1 fun y s2 vy H2 m2 hk2 a2 t2 R2 RE2 ry hl2 P2 => ?_
      split at hk2
      · rename_i b hb
        cases hk2
        exact ⟨m2, st', x, y, b, R2, rx.mono a2 t2, ry, hb, PostD.now P2 R2 (.bl b)⟩
      · cases hk2
    · cases h
  | cmp2 o1 o2 a b d =>
    dsimp only at h
    split at h
    · rename_i a' p1 p2 b' c' pos
      obtain ⟨h, h5⟩ := and3 h
      obtain ⟨h, h4⟩ := and3 h
      obtain ⟨h, h3⟩ := and3 h
      obtain ⟨h1, h2⟩ := and3 h
      have eo := cop_of h1
      have eo2 := cop_of h2
      subst eo eo2
      unfold evE at hv
      refine of_pe (pe_chain (op_cmp gd.room.units o1) (op_cmp gd.room.units o2) (pe_w a') (pe_w b') (pe_w c') (plain_behind (hp _ _ h5) _)) ?_
      refine SndE.bnd (hf _ _ h3) R0 RE hl hv P fun x s1 vx H1 m1 hk a1 t1 R1 RE1 rx hl1 P1 => ?_
      refine SndE.bnd (hf _ _ h4) R1 RE1 hl1 hk P1 fun y s2 vy H2 m2 hk2 a2 t2 R2 RE2 ry hl2 P2 => ?_
      split at hk2
      · rename_i hb
        refine ⟨m2, s2, x, y, true, R2, rx.mono a2 t2, ry, hb, true, rfl, ?_⟩
        rw [if_pos rfl]
        refine SndE.bnd (hf _ _ h5) R2 RE2 hl2 hk2 P2 fun z s3 vz H3 m3 hk3 a3 t3 R3 RE3 rz hl3 P3 => ?_
        split at hk3
        · rename_i b hb
          cases hk3
          exact ⟨m3, st', y, z, b, R3, ry.mono a3 t3, rz, hb, PostD.now P3 R3 (.bl b)⟩
        · cases hk3
      · rename_i hb
        cases hk2
        refine ⟨m2, st', x, y, false, R2, rx.mono a2 t2, ry, hb, false, rfl, ?_⟩
        rw [if_neg Bool.false_ne_true]
        exact PostD.now P2 R2 (.bl false)
      · cases hk2
    · cases h
  | and es =>
    dsimp only at h
    split at h
    · rename_i v vs pos
      unfold evE at hv
      exact of_pe (pe_ands v vs) (snd_andsV hf h w σ H env st m res st' R0 RE hl hv Q P)
    · cases h
  | or es =>
    dsimp only at h
    split at h
    · rename_i v vs pos
      unfold evE at hv
      exact of_pe (pe_ors v vs) (snd_orsV hf h w σ H env st m res st' R0 RE hl hv Q P)
    · cases h
  | ife t a b =>
    dsimp only at h
    split at h
    · rename_i t' a' b' pos
      obtain ⟨h, h3⟩ := and3 h
      obtain ⟨h1, h2⟩ := and3 h
      unfold evE at hv
      refine of_pe (pe_ifExp (pt_w t') (pe_w a') (pe_w b')) ?_
      refine SndT.bnd (ihT X W sc fnc _ _ gd tk h1) R0 RE hl hv (fun x s1 hk => ?_) P fun b s1 H1 m1 hk a1 t1 R1 RE1 hl1 P1 => ?_
      · cases x <;> first | exact ⟨_, rfl⟩ | cases hk
      · cases b with
        | true =>
          rw [if_pos rfl]
          exact hf _ _ h2 w σ H1 env s1 m1 res st' R1 RE1 hl1 hk Q P1
        | false =>
          rw [if_neg Bool.false_ne_true]
          exact hf _ _ h3 w σ H1 env s1 m1 res st' R1 RE1 hl1 hk Q P1
    · cases h
  | tup es =>
    dsimp only at h
    split at h
    · rename_i vs k1 pos
      unfold evE at hv
      refine of_pe (pe_tupZ (pa_tEs (allEs_plain hp h))) ?_
      refine SndL.bnd (snd_L hf h) R0 RE hl hv P fun xs s1 ws H1 m1 hk a1 t1 R1 RE1 rs hl1 P1 => ?_
      cases res with
      | ok d => exact tupAny_of R1 rs hk (by
          split at hk
          · cases hk
            exact P1
          · cases hk)
      | ex e =>
        exfalso
        split at hk <;> cases hk
    · cases h
  | lst es =>
    dsimp only at h
    split at h
    · rename_i vs pos
      unfold evE at hv
      refine of_pe (pe_lst (pa_tEs (allEs_plain hp h))) ?_
      refine SndL.bnd (snd_L hf h) R0 RE hl hv P fun xs s1 ws H1 m1 hk a1 t1 R1 RE1 rs hl1 P1 => ?_
      cases res with
      | ok d => exact lenNew R1 rs hk P1
      | ex e =>
        exfalso
        split at hk <;> cases hk
    · cases h
  | idx a b =>
    dsimp only at h
    split at h
    · rename_i a' b' pos
      obtain ⟨h1, h2⟩ := and3 h
      unfold evE at hv
      refine of_pe (pe_ix ix_run (pe_w a') (pe_w b') (plain_ix (hp _ _ h2))) ?_
      refine SndE.bnd (hf _ _ h1) R0 RE hl hv P fun x s1 vx H1 m1 hk a1 t1 R1 RE1 rx hl1 P1 => ?_
      refine SndE.bnd (hf _ _ h2) R1 RE1 hl1 hk P1 fun y s2 vy H2 m2 hk2 a2 t2 R2 RE2 ry hl2 P2 => ?_
      cases res with
      | ok d => exact ⟨m2, s2, x, y, d, st', R2, rx.mono a2 t2, ry, hk2, P2⟩
      | ex e => exact absurd hk2 (nox_idx x y s2 e st')
    · cases h
  | slc a lo hi =>
    dsimp only at h
    split at h
    · rename_i a' lo' hi' p2 pos
      obtain ⟨h, h3⟩ := and3 h
      obtain ⟨h1, h2⟩ := and3 h
      obtain ⟨tl, po1, q1⟩ := partIs_po hf h2
      obtain ⟨th, po2, q2⟩ := partIs_po hf h3
      unfold evE at hv
      refine of_pe (pe_slice sl_run (pe_w a') po1 po2) ?_
      refine SndE.bnd (hf _ _ h1) R0 RE hl hv P fun x s1 vx H1 m1 hk a1 t1 R1 RE1 rx hl1 P1 => ?_
      refine q1 w σ H1 env s1 m1 res st' _ R1 RE1 hl1 hk (fun d s2 hg => ?_) Q P1 _ fun d o s2 H2 m2 hk2 ho a2 t2 R2 RE2 hl2 P2 => ?_
      · split at hg
        · exact ⟨_, by assumption⟩
        · cases hg
      · rw [ho] at hk2
        refine q2 w σ H2 env s2 m2 res st' _ R2 RE2 hl2 hk2 (fun d2 s3 hg => ?_) Q P2 _ fun d2 o2 s3 H3 m3 hk3 ho2 a3 t3 R3 RE3 hl3 P3 => ?_
        · split at hg
          · exact ⟨_, by assumption⟩
          · cases hg
        · rw [ho2] at hk3
          cases res with
          | ok d3 => exact ⟨m3, s3, x, d3, st', R3, (rx.mono a2 t2).mono a3 t3, hk3, P3⟩
          | ex e => exact absurd hk3 (nox_slcO x _ _ s3 e st')
    · cases h
  | rev a =>
    dsimp only at h
    split at h
    · rename_i a' k1 p1 p2 p3 pos
      unfold evE at hv
      refine of_pe (pe_revL (pe_w a')) ?_
      refine SndE.bnd (hf _ _ h) R0 RE hl hv P fun x s1 vx H1 m1 hk a1 t1 R1 RE1 rx hl1 P1 => ?_
      unfold revD at hk
      split at hk
      · rename_i r
        split at hk
        · rename_i xs hx
          obtain ⟨b, rfl, hb⟩ := rx.inv_ref
          obtain ⟨vs, e1, r1⟩ := R1.lst hx hb
          cases res with
          | ok d => exact ⟨b, vs, rfl, SqL.of e1, PostD.newL R1 r1.reverse hk P1⟩
          | ex e => cases hk
        · cases hk
      · cases hk
    · cases h
  | call f es =>
    dsimp only at h
    split at h
    · rename_i x pos0 v vs pos
      obtain ⟨h, h4⟩ := and3 h
      obtain ⟨h, h3⟩ := and3 h
      obtain ⟨h1, h2⟩ := and3 h
      obtain ⟨k1, k2, k3⟩ := okN_of h3
      have hpl := allEs_plain hp h4
      unfold evE at hv
      have hfn : ∃ fn, c.fns[f]? = some fn := by
        have h0 := (List.getElem?_eq_some_iff.mp (isN_some h1)).1
        have h00 : f < c.fns.length := by
          rw [← gd.g.fl]
          exact h0
        exact ⟨_, List.getElem?_eq_getElem h00⟩
      obtain ⟨fn, hfn⟩ := hfn
      obtain ⟨fa, fd, ps, g1, g2, g3, g4⟩ := gd.g.fun_ f x fn (isN_some h1) hfn
      subst gsc
      refine of_pe (pe_callS (E := WE W) g4 (gd.room.mono (Nat.le_succ _)) (glo_of h2) g1 g2 g3 (fun σ => passAt tk σ) (pa_tEs hpl) k1 (plain_star (hpl v List.mem_cons_self) vs) (backs_any (fun e he => hpl e (List.mem_cons_of_mem _ he)) pos)) ?_
      refine SndL.bnd (snd_L hf h4) R0 RE hl hv P fun xs s1 ws H1 m1 hk a1 t1 R1 RE1 rs hl1 P1 => ?_
      refine ⟨w, m1, s1, xs, res, st', R1, rs, hl1, hk, ?_⟩
      cases res with
      | ok d => exact P1
      | ex e => exact P1
    · cases h
  | bi b es =>
    dsimp only at h
    split at h
    · rename_i x pos0 v vs pos
      obtain ⟨h, h4⟩ := and3 h
      obtain ⟨h, h3⟩ := and3 h
      obtain ⟨h1, h2⟩ := and3 h
      have ex := of_decide_eq_true h1
      subst ex
      have hpl := allEs_plain hp h4
      unfold evE at hv
      subst gsc
      refine of_pe (pe_bi gd.calm b (glo_of h2) (bnil gd.g.blt (biN_in b)) h3 (pa_tEs hpl) (plain_star (hpl v List.mem_cons_self) vs) (backs_any (fun e he => hpl e (List.mem_cons_of_mem _ he)) pos)) ?_
      refine SndL.bnd (snd_L hf h4) R0 RE hl hv P fun xs s1 ws H1 m1 hk a1 t1 R1 RE1 rs hl1 P1 => ?_
      cases res with
      | ok d => exact ⟨m1, s1, xs, d, st', R1, rs, hk, P1⟩
      | ex e => exact absurd hk (nox_bi b xs s1 e st')
    · cases h
  | lrg es =>
    dsimp only at h
    split at h
    · rename_i y p1 x p2 as p3 p4
      obtain ⟨h, h6⟩ := and3 h
      obtain ⟨h, h5⟩ := and3 h
      obtain ⟨h, h4⟩ := and3 h
      obtain ⟨h, h3⟩ := and3 h
      obtain ⟨h1, h2⟩ := and3 h
      have e1 := of_decide_eq_true h1
      have e2 := of_decide_eq_true h3
      subst e1 e2
      subst gsc
      unfold evE at hv
      have key : ∀ (rs : R (List D)) (s1 : Store), evEs c (callI c n) w es env st = some (rs, s1) → (match rs with
          | .ok xs => ∃ a b, range? xs = some (a, b) ∧ (b - a).toNat ≤ 1000000 ∧ newL s1 (rngD a b) = some (res, st')
          | .ex x => res = .ex x ∧ st' = s1) → wpE X (.Call (.Name "list" p1) [.Call (.Name "range" p2) as [] p3] [] p4) σ H Q := fun rs s1 he hr => by
        obtain ⟨tr, ht, hR⟩ := range_serve (p := p2) (pos := p3) gd.g.blt hf hp h4 h5 h6 R0 RE hl he
        refine of_pe (pe_listRg gd.calm (glo_of h2) (bnil gd.g.blt (by decide +kernel)) ht rfl) (hR _ ?_)
        cases rs with
        | ex x =>
          obtain ⟨e3, e4⟩ := hr
          subst e3 e4
          exact P
        | ok xs =>
          obtain ⟨a, b, g1, g2, g3⟩ := hr
          obtain ⟨b1, b2⟩ := range_big g1
          refine ⟨a, b, g1, fun H1 m1 a1 t1 R1 => ⟨⟨b1.1, b1.2, b2.1, b2.2, Nat.le_trans g2 (by decide)⟩, ?_⟩⟩
          cases res with
          | ok d =>
            refine PostD.newL R1 ?_ g3 (PostD.mono a1 t1 P)
            have e1 : rgV a b = (rngI a b).map V.int := by
              unfold rgV rngI
              rw [List.map_map]
              rfl
            have e2 : rngD a b = (rngI a b).map D.int := by
              unfold rngD rngI
              rw [List.map_map]
              rfl
            rw [e1, e2]
            exact RDs.ints _
          | ex e => cases g3
      rcases bnd_some hv with ⟨x, s1, e1, e2⟩ | ⟨xs, s1, e1, e2⟩
      · cases e2
        exact key (.ex x) _ e1 ⟨rfl, rfl⟩
      · split at e2
        · rename_i a b hr
          split at e2
          · rename_i hz
            exact key (.ok xs) s1 e1 ⟨a, b, hr, hz, e2⟩
          · cases e2
        · cases e2
    · cases h
  | mth mt o es =>
    dsimp only at h
    split at h
    · rename_i o' x ap vs p
      obtain ⟨h, h7⟩ := and3 h
      obtain ⟨h, h6⟩ := and3 h
      obtain ⟨h, h5⟩ := and3 h
      obtain ⟨h, h4⟩ := and3 h
      obtain ⟨h, h3⟩ := and3 h
      obtain ⟨h1, h2⟩ := and3 h
      have ex := of_decide_eq_true h1
      subst ex
      exact snd_mth hf hp h2 h3 (of_decide_eq_true h4) (of_decide_eq_true h5) h6 h7 R0 RE hl hv P
    · cases h
  | isi a t =>
    dsimp only at h
    split at h
    · rename_i x p1 a' y p2 pos
      obtain ⟨h, h5⟩ := and3 h
      obtain ⟨h, h4⟩ := and3 h
      obtain ⟨h, h3⟩ := and3 h
      obtain ⟨h1, h2⟩ := and3 h
      have e1 := of_decide_eq_true h1
      have e2 := of_decide_eq_true h3
      subst e1 e2
      subst gsc
      obtain ⟨k1, k2, k3⟩ := okN_of (tyN_ok t)
      unfold evE at hv
      have pt : PE X (.Name (tyN t) p2) (tC (.ty (tyS t))) := pe_bltn (glo_of h4) (bnil gd.g.blt (tyN_in t)) (tyN_boot t) rfl k3 k1
      have hpa := hp _ _ h5
      refine of_pe (pe_callB isi_run (glo_of h2) (bnil gd.g.blt (by decide +kernel)) (by decide +kernel) (pa_cons (pe_w a') (pa_cons pt pa_nil rfl) (plain_star hpa _)) (by decide) (by decide) (plain_star hpa _) rfl) ?_
      refine SndE.bnd (hf _ _ h5) R0 RE hl hv P fun x s1 vx H1 m1 hk a1 t1 R1 RE1 rx hl1 P1 => ?_
      split at hk
      · rename_i b hb
        cases hk
        exact ⟨m1, st', x, vx, t, b, rfl, R1, rx, hb, PostD.now P1 R1 (.bl b)⟩
      · cases hk
    · cases h
  | comp g ik es cs elt own =>
    obtain ⟨elt', tg, iter, ifs, scope, pos, rfl, lc⟩ := lc_of hchk
    unfold evE at hv
    have hB : TurnC X.K w (turnF c n w cs elt) (tIfs X scope ifs) (wpEB X scope elt') :=
      turnF_ok lc.len lc.ifs_ (fun s H0 C cl fp => ihE _ _ _ _ _ _ (gd.blk s H0 scope C cl fp) takes0 lc.elt_) (fun t it h s H0 C cl fp => ihT _ _ _ _ _ _ (gd.blk s H0 scope C cl fp) takes0 h)
    obtain ⟨g1, wi, g2, g3⟩ := comp_whole gd hf hp lc.zp lc.it lc.inn (wk_tup lc.zp lc.tg_) hB turnF_fr R0 RE hl hv P
    rw [← own_map nm.N own] at g3
    exact of_pe (pe_lc gd.calm gd.nd g2 (by rw [gd.N, gsc]; exact blkOk_by lc.blk)
      (fun s H C cl fp => by
        have gb := gd.blk s H scope C cl fp
        have := pg_of (X := X.blk s H scope (compEnvC scope cl C X.env) fp) (nm := nm) gb.calm gb.N gb.nd gb.fn (by rw [gb.sc]; exact lc.tg_)
        exact this)
      (fun s H C cl fp => pts_of lc.len s H C cl fp) (fun s H0 C cl fp => ⟨fun pins s1 σ1 H1 Q1 I h1 => h1 s H0 C cl fp pins s1 I⟩) (plain_fold g1)) g3
end
end Iv
end
section
set_option Elab.async false
set_option linter.all false
set_option maxRecDepth 100000
/-! IvSnd8: tests; both by induction. -/
namespace Iv
open PySem PySem.Spec PyProof.Rows L2 RZ
section
variable {c : Cfg} {nm : Nm} {XR : XRel} {n : Nat}
/-- an expression whose test is its value's truth -/
theorem sndT_val {X : Cx} {W : WX} {e : Expr} {ir : E} (h : SndE c XR n X W e ir) (he : ∀ whole, isTrue e X.env whole = (do let v ← whole; standAt e.pos; holding [v] (truthy v))) : SndT c XR n X W e ir :=
  fun w σ H env st m res st' R0 RE hl hv Q P => by
    refine of_pt (pt_val (pe_w e) he) ?_
    refine h w σ H env st m res st' R0 RE hl hv _ ?_
    cases res with
    | ex x => exact P
    | ok d =>
      cases d with
      | bl b =>
        intro v H' m' a t r q
        cases q
        exact ⟨b, rfl, P H' m' a t r⟩
      | _ => exact P.elim
theorem allT_succ {k : Nat} (ihE : AllE c nm XR n k) (ihT : AllT c nm XR n k) : AllT c nm XR n (k + 1) := by
  intro X W sc fnc e ir gd tk hchk
  have hE := allE_succ ihE ihT X W sc fnc e ir gd tk hchk
  have hf : ∀ e ir, chkE nm k sc e ir = true → SndE c XR n X W e ir := fun e ir h => ihE X W sc fnc e ir gd tk h
  have hfT : ∀ e ir, chkE nm k sc e ir = true → SndT c XR n X W e ir := fun e ir h => ihT X W sc fnc e ir gd tk h
  have hp : ∀ e ir, chkE nm k sc e ir = true → plainE e = true := fun e ir h => chkE_plain h
  obtain ⟨hpe, h⟩ := and3 (show (_ && _) = true from hchk)
  have gsc := gd.sc
  cases ir with
  | not a =>
    dsimp only at h
    split at h
    · rename_i a' pos
      intro w σ H env st m res st' R0 RE hl hv Q P
      unfold evE at hv
      refine of_pt (pt_not (pt_w a')) ?_
      refine SndT.bndT (hfT _ _ h) R0 RE hl hv (fun x s1 hk => ?_) P fun b s1 H1 m1 hk a1 t1 R1 RE1 hl1 P1 => ?_
      · cases x <;> first | exact ⟨_, rfl⟩ | cases hk
      · cases hk
        exact P1 H1 m1 (Ext.refl m1) (Tx.refl H1) R1
    · cases h
  | and es =>
    dsimp only at h
    split at h
    · rename_i v vs pos
      intro w σ H env st m res st' R0 RE hl hv Q P
      unfold evE at hv
      exact of_pt (pw_ands v vs).pt (snd_andsT hfT h w σ H env st m res st' R0 RE hl hv Q P)
    · cases h
  | or es =>
    dsimp only at h
    split at h
    · rename_i v vs pos
      intro w σ H env st m res st' R0 RE hl hv Q P
      unfold evE at hv
      exact of_pt (pw_ors v vs).pt (snd_orsT hfT h w σ H env st m res st' R0 RE hl hv Q P)
    · cases h
  | cmp o a b =>
    dsimp only at h
    split at h
    · rename_i a' o' b' pos
      obtain ⟨h, h3⟩ := and3 h
      obtain ⟨h1, h2⟩ := and3 h
      have eo := cop_of h1
      subst eo
      intro w σ H env st m res st' R0 RE hl hv Q P
      unfold evE at hv
      refine of_pt (pt_cmpR (op_cmp gd.room.units o) (pe_w a') (pe_w b') (plain_behind (hp _ _ h3) _)) ?_
      refine SndE.bndT (hf _ _ h2) R0 RE hl hv P fun x s1 vx H1 m1 hk a1 t1 R1 RE1 rx hl1 P1 => ?_
      refine SndE.bndT (hf _ _ h3) R1 RE1 hl1 hk P1 fun y s2 vy H2 m2 hk2 a2 t2 R2 RE2 ry hl2 P2 => ?_
      split at hk2
      · rename_i b hb
        cases hk2
        exact ⟨m2, st', x, y, b, R2, rx.mono a2 t2, ry, hb, b, rfl, P2 H2 m2 (Ext.refl m2) (Tx.refl H2) R2⟩
      · cases hk2
    · cases h
  | cmp2 o1 o2 a b d =>
    dsimp only at h
    split at h
    · rename_i a' p1 p2 b' c' pos
      obtain ⟨h, h5⟩ := and3 h
      obtain ⟨h, h4⟩ := and3 h
      obtain ⟨h, h3⟩ := and3 h
      obtain ⟨h1, h2⟩ := and3 h
      have eo := cop_of h1
      have eo2 := cop_of h2
      subst eo eo2
      intro w σ H env st m res st' R0 RE hl hv Q P
      unfold evE at hv
      refine of_pt (pt_chain (op_cmp gd.room.units o1) (op_cmp gd.room.units o2) (pe_w a') (pe_w b') (pe_w c') (plain_behind (hp _ _ h5) _)) ?_
      refine SndE.bndT (hf _ _ h3) R0 RE hl hv P fun x s1 vx H1 m1 hk a1 t1 R1 RE1 rx hl1 P1 => ?_
      refine SndE.bndT (hf _ _ h4) R1 RE1 hl1 hk P1 fun y s2 vy H2 m2 hk2 a2 t2 R2 RE2 ry hl2 P2 => ?_
      split at hk2
      · rename_i hb
        refine ⟨m2, s2, x, y, true, R2, rx.mono a2 t2, ry, hb, true, rfl, ?_⟩
        rw [if_pos rfl]
        refine SndE.bndT (hf _ _ h5) R2 RE2 hl2 hk2 P2 fun z s3 vz H3 m3 hk3 a3 t3 R3 RE3 rz hl3 P3 => ?_
        split at hk3
        · rename_i b hb
          cases hk3
          exact ⟨m3, st', y, z, b, R3, ry.mono a3 t3, rz, hb, b, rfl, P3 H3 m3 (Ext.refl m3) (Tx.refl H3) R3⟩
        · cases hk3
      · rename_i hb
        cases hk2
        refine ⟨m2, st', x, y, false, R2, rx.mono a2 t2, ry, hb, false, rfl, ?_⟩
        rw [if_neg Bool.false_ne_true]
        exact ⟨false, rfl, P2 H2 m2 (Ext.refl m2) (Tx.refl H2) R2⟩
      · cases hk2
    · cases h
  | ife t a b =>
    dsimp only at h
    split at h
    · rename_i t' a' b' pos
      obtain ⟨h, h3⟩ := and3 h
      obtain ⟨h1, h2⟩ := and3 h
      intro w σ H env st m res st' R0 RE hl hv Q P
      unfold evE at hv
      intro pins s I
      have z : wpT X t' σ H fun b H1 => if b = true then wpT X a' σ H1 Q else wpT X b' σ H1 Q := by
        refine SndT.bndT (hfT _ _ h1) R0 RE hl hv (fun x s1 hk => ?_) P fun b s1 H1 m1 hk a1 t1 R1 RE1 hl1 P1 => ?_
        · cases x <;> first | exact ⟨_, rfl⟩ | cases hk
        · cases b with
          | true =>
            rw [if_pos rfl]
            exact hfT _ _ h2 w σ H1 env s1 m1 res st' R1 RE1 hl1 hk Q P1
          | false =>
            rw [if_neg Bool.false_ne_true]
            exact hfT _ _ h3 w σ H1 env s1 m1 res st' R1 RE1 hl1 hk Q P1
      refine isTrue_IfExp (L2.thn (z pins s I) fun b s1 ⟨H1, I1, q⟩ => ?_)
      cases b with
      | true =>
        rw [if_pos rfl] at q
        exact q pins s1 I1
      | false =>
        rw [if_neg Bool.false_ne_true] at q
        exact q pins s1 I1
    · cases h
  | var _ => exact sndT_val hE (by cases e <;> first | (intro _; rfl) | cases h)
  | glb _ => exact sndT_val hE (by cases e <;> first | (intro _; rfl) | cases h)
  | cst _ => exact sndT_val hE (by cases e <;> first | (intro _; rfl) | cases h)
  | bin _ _ _ => exact sndT_val hE (by cases e <;> first | (intro _; rfl) | cases h)
  | neg _ =>
    refine sndT_val hE ?_
    dsimp only at h
    split at h
    · intro _
      rfl
    · cases h
  | tup _ => exact sndT_val hE (by cases e <;> first | (intro _; rfl) | cases h)
  | lst _ => exact sndT_val hE (by cases e <;> first | (intro _; rfl) | cases h)
  | idx _ _ => exact sndT_val hE (by cases e <;> first | (intro _; rfl) | cases h)
  | slc _ _ _ => exact sndT_val hE (by cases e <;> first | (intro _; rfl) | cases h)
  | rev _ => exact sndT_val hE (by cases e <;> first | (intro _; rfl) | cases h)
  | call _ _ => exact sndT_val hE (by cases e <;> first | (intro _; rfl) | cases h)
  | bi _ _ => exact sndT_val hE (by cases e <;> first | (intro _; rfl) | cases h)
  | lrg _ => exact sndT_val hE (by cases e <;> first | (intro _; rfl) | cases h)
  | mth _ _ _ => exact sndT_val hE (by cases e <;> first | (intro _; rfl) | cases h)
  | isi _ _ => exact sndT_val hE (by cases e <;> first | (intro _; rfl) | cases h)
  | comp _ _ _ _ _ _ => exact sndT_val hE (by cases e <;> first | (intro _; rfl) | cases h)
theorem all_ET : ∀ k, AllE c nm XR n k ∧ AllT c nm XR n k
  | 0 => ⟨fun X W sc fnc e ir gd tk h => (nomatch h), fun X W sc fnc e ir gd tk h => (nomatch h)⟩
  | k + 1 => ⟨allE_succ (all_ET k).1 (all_ET k).2, allT_succ (all_ET k).1 (all_ET k).2⟩
end
end Iv
end
section
set_option Elab.async false
set_option linter.all false
set_option maxRecDepth 100000
/-! IvSnd9: what ends a statement; loops. -/
namespace Iv
open PySem PySem.Spec PyProof.Rows L2 RZ
/-- what a statement's end in the machine says of the ends in the frame -/
def PostS (K : PySem.W.Frag) (XR : XRel) (W : WX) (m : Mp) (H : Hp) (st' : Store) : Fl → Ends → Prop
  | .nx env, D => ∀ (σ' : L2.St) (H' : Hp) (m' : Mp), Ext m m' → Tx H H' → RSt K m' st' H' → REnv K m' H' σ' env → D.nx σ' H'
  | .bk env, D => ∀ (σ' : L2.St) (H' : Hp) (m' : Mp), Ext m m' → Tx H H' → RSt K m' st' H' → REnv K m' H' σ' env → D.bk σ' H'
  | .ct env, D => ∀ (σ' : L2.St) (H' : Hp) (m' : Mp), Ext m m' → Tx H H' → RSt K m' st' H' → REnv K m' H' σ' env → D.ct σ' H'
  | .rt d, D => PostD K m H st' d D.rt
  | .ex x env, _ => ∀ (σ' : L2.St) (cls : Value) (dd : Option Addr) (H' : Hp) (m' : Mp), Ext m m' → Tx H H' → RSt K m' st' H' → REnv K m' H' σ' env → XR m' H' x cls dd → W cls dd σ' H'
theorem PostS.mono {K : PySem.W.Frag} {XR : XRel} {W : WX} {m m1 : Mp} {H H1 : Hp} {st' : Store} {fl : Fl} {D : Ends} (x : Ext m m1) (t : Tx H H1) (p : PostS K XR W m H st' fl D) : PostS K XR W m1 H1 st' fl D := by
  cases fl with
  | nx env => exact fun σ' H' m' a b => p σ' H' m' (x.trans a) (t.trans b)
  | bk env => exact fun σ' H' m' a b => p σ' H' m' (x.trans a) (t.trans b)
  | ct env => exact fun σ' H' m' a b => p σ' H' m' (x.trans a) (t.trans b)
  | rt d => exact PostD.mono x t p
  | ex e env => exact fun σ' c dd H' m' a b => p σ' c dd H' m' (x.trans a) (t.trans b)
section
variable {c : Cfg} {nm : Nm} {XR : XRel} {n : Nat}
def SndS (c : Cfg) (XR : XRel) (n : Nat) (X : Cx) (W : WX) (s : Stmt) (ir : S) : Prop :=
  ∀ (w : Wr) (σ : L2.St) (H : Hp) (env : Evn) (st : Store) (m : Mp) (fl : Fl) (st' : Store), RSt X.K m st H → REnv X.K m H σ env → w.lim ≤ st.length → exS c (callI c n) w ir env st = some (fl, st') →
    ∀ D : Ends, PostS X.K XR W m H st' fl D → wpS X s D σ H
def SndSs (c : Cfg) (XR : XRel) (n : Nat) (X : Cx) (W : WX) (s : List Stmt) (ir : Ss) : Prop :=
  ∀ (w : Wr) (σ : L2.St) (H : Hp) (env : Evn) (st : Store) (m : Mp) (fl : Fl) (st' : Store), RSt X.K m st H → REnv X.K m H σ env → w.lim ≤ st.length → exSs c (callI c n) w ir env st = some (fl, st') →
    ∀ D : Ends, PostS X.K XR W m H st' fl D → wpSs X s D σ H
variable {X : Cx} {W : WX}
theorem lim_S {w : Wr} {s : S} {env : Evn} {st : Store} (hl : w.lim ≤ st.length) {r : Fl} {s1 : Store} (h : exS c (callI c n) w s env st = some (r, s1)) : w.lim ≤ s1.length :=
  Nat.le_trans hl (ok_exS (ok_callI c n) s env st hl _ _ h).1
theorem lim_Ss {w : Wr} {s : Ss} {env : Evn} {st : Store} (hl : w.lim ≤ st.length) {r : Fl} {s1 : Store} (h : exSs c (callI c n) w s env st = some (r, s1)) : w.lim ≤ s1.length :=
  Nat.le_trans hl (ok_exSs (ok_callI c n) s env st hl _ _ h).1
theorem lft_some {m : Rs D} {env : Evn} {f : D → Store → Fs} {r : Fl × Store} (h : lft m env f = some r) : (∃ x st, m = some (.ex x, st) ∧ r = (.ex x env, st)) ∨ ∃ a st, m = some (.ok a, st) ∧ f a st = some r := by
  unfold lft at h
  split at h
  · exact .inr ⟨_, _, rfl, h⟩
  · cases h
    exact .inl ⟨_, _, rfl, rfl⟩
  · cases h
theorem lfts_some {m : Rs (List D)} {env : Evn} {f : List D → Store → Fs} {r : Fl × Store} (h : lfts m env f = some r) : (∃ x st, m = some (.ex x, st) ∧ r = (.ex x env, st)) ∨ ∃ a st, m = some (.ok a, st) ∧ f a st = some r := by
  unfold lfts at h
  split at h
  · exact .inr ⟨_, _, rfl, h⟩
  · cases h
    exact .inl ⟨_, _, rfl, rfl⟩
  · cases h
theorem PostS.atEx {σ : L2.St} {m : Mp} {H : Hp} {env : Evn} {st' : Store} {x : Exc} {D : Ends} (RE : REnv X.K m H σ env) (P : PostS X.K XR W m H st' (.ex x env) D) : PostX X.K XR m H st' x (fun c d H' => W c d σ H') :=
  fun cls dd H' m' a t r q => P σ cls dd H' m' a t r (RE.mono a t) q
theorem SndE.lft {a : Expr} {ia : E} (ih : SndE c XR n X W a ia) {w : Wr} {σ : L2.St} {H : Hp} {env : Evn} {st : Store} {m : Mp} {fl : Fl} {st' : Store} {f : D → Store → Fs} (R0 : RSt X.K m st H) (RE : REnv X.K m H σ env) (hl : w.lim ≤ st.length)
    (h : Iv.lft (evE c (callI c n) w ia env st) env f = some (fl, st')) {D : Ends} {Q1 : VK} (P : PostS X.K XR W m H st' fl D)
    (hk : ∀ (x : Iv.D) (s1 : Store) (vx : V) (H1 : Hp) (m1 : Mp), f x s1 = some (fl, st') → Ext m m1 → Tx H H1 → RSt X.K m1 s1 H1 → REnv X.K m1 H1 σ env → RD X.K m1 H1 vx x → w.lim ≤ s1.length → PostS X.K XR W m1 H1 st' fl D → Q1 vx H1) : wpE X a σ H Q1 := by
  rcases lft_some h with ⟨x, s1, h1, h2⟩ | ⟨x, s1, h1, h2⟩
  · cases h2
    exact ih w σ H env st m _ _ R0 RE hl h1 Q1 (P.atEx RE)
  · exact ih w σ H env st m _ _ R0 RE hl h1 Q1 fun v H' m' a t r q => hk x s1 v H' m' h2 a t r (RE.mono a t) q (lim_E hl h1) (P.mono a t)
theorem SndT.lft {a : Expr} {ia : E} (ih : SndT c XR n X W a ia) {w : Wr} {σ : L2.St} {H : Hp} {env : Evn} {st : Store} {m : Mp} {fl : Fl} {st' : Store} {f : D → Store → Fs} (R0 : RSt X.K m st H) (RE : REnv X.K m H σ env) (hl : w.lim ≤ st.length)
    (h : Iv.lft (evE c (callI c n) w ia env st) env f = some (fl, st')) (hb : ∀ x s1, f x s1 = some (fl, st') → ∃ b, x = .bl b) {D : Ends} {Q1 : Bool → Hp → Prop} (P : PostS X.K XR W m H st' fl D)
    (hk : ∀ (b : Bool) (s1 : Store) (H1 : Hp) (m1 : Mp), f (.bl b) s1 = some (fl, st') → Ext m m1 → Tx H H1 → RSt X.K m1 s1 H1 → REnv X.K m1 H1 σ env → w.lim ≤ s1.length → PostS X.K XR W m1 H1 st' fl D → Q1 b H1) : wpT X a σ H Q1 := by
  rcases lft_some h with ⟨x, s1, h1, h2⟩ | ⟨x, s1, h1, h2⟩
  · cases h2
    exact ih w σ H env st m _ _ R0 RE hl h1 Q1 (P.atEx RE)
  · obtain ⟨b, rfl⟩ := hb x s1 h2
    exact ih w σ H env st m _ _ R0 RE hl h1 Q1 fun H' m' a t r => hk b s1 H' m' h2 a t r (RE.mono a t) (lim_E hl h1) (P.mono a t)
/-- a turn's end -/
theorem turn_some {m : Fs} {f : Evn → Store → Fs} {r : Fl × Store} (h : turn m f = some r) : ∃ fb s1, m = some (fb, s1) ∧ (match fb with
    | .nx e => f e s1 = some r
    | .ct e => f e s1 = some r
    | .bk e => r = (.nx e, s1)
    | .rt d => r = (.rt d, s1)
    | .ex x e => r = (.ex x e, s1)) := by
  unfold turn at h
  split at h
  · exact ⟨_, _, rfl, h⟩
  · exact ⟨_, _, rfl, h⟩
  · exact ⟨_, _, rfl, (Option.some.inj h).symm⟩
  · exact ⟨_, _, rfl, (Option.some.inj h).symm⟩
  · exact ⟨_, _, rfl, (Option.some.inj h).symm⟩
  · cases h
/-- a body run in a loop: it reaches N, or the loop's end -/
theorem body_run {b : List Stmt} {ib : Ss} (ih : SndSs c XR n X W b ib) {w : Wr} {σ : L2.St} {H : Hp} {env : Evn} {st : Store} {m : Mp} {fl : Fl} {st' : Store} {f : Evn → Store → Fs} (R0 : RSt X.K m st H) (RE : REnv X.K m H σ env) (hl : w.lim ≤ st.length)
    (h : turn (exSs c (callI c n) w ib env st) f = some (fl, st')) {D : Ends} (P : PostS X.K XR W m H st' fl D) {N : L2.St → Hp → Prop}
    (hN : ∀ (e1 : Evn) (s1 : Store) (σ1 : L2.St) (H1 : Hp) (m1 : Mp), f e1 s1 = some (fl, st') → Ext m m1 → Tx H H1 → RSt X.K m1 s1 H1 → REnv X.K m1 H1 σ1 e1 → w.lim ≤ s1.length → N σ1 H1) : wpSs X b { D with nx := N, ct := N, bk := D.nx } σ H := by
  obtain ⟨fb, s1, h1, h2⟩ := turn_some h
  refine ih w σ H env st m fb s1 R0 RE hl h1 _ ?_
  have hl1 := lim_Ss hl h1
  cases fb with
  | nx e => exact fun σ' H' m' a t r q => hN e s1 σ' H' m' h2 a t r q hl1
  | ct e => exact fun σ' H' m' a t r q => hN e s1 σ' H' m' h2 a t r q hl1
  | bk e =>
    cases h2
    exact P
  | rt d =>
    cases h2
    exact P
  | ex x e =>
    cases h2
    exact P
/-- the loop over data -/
theorem for_ds {b : List Stmt} {ib : Ss} (ih : SndSs c XR n X W b ib) {w : Wr} {J : It} {xs : List D} {wk : Bool} {P : Mp → Hp → Prop} (ds : DsOk X.K J xs wk P) {g : Tg} (hg : wk = true → ∃ l, g = .tup l)
    {σ : L2.St} {env : Evn} {m1 : Mp} {H1 : Hp} {s1 : Store} (R1 : RSt X.K m1 s1 H1) (RE : REnv X.K m1 H1 σ env) (hl : w.lim ≤ s1.length) (hP : P m1 H1)
    {fl : Fl} {st' : Store} (h : forT (exSs c (callI c n) w ib) g xs env s1 = some (fl, st')) {D : Ends} (hQ : PostS X.K XR W m1 H1 st' fl D) :
    ∃ Wi : Nat → Nat → L2.St → Hp → Prop, (∃ m, Wi 0 m σ H1) ∧ ∀ i m σ H, Wi i m σ H →
      (J.stop i H ∧ D.nx σ H) ∨ (J.go i H ∧ ∃ N : L2.St → Hp → Prop, (∀ σ' H', N σ' H' → ∃ m', m' < m ∧ Wi (i + 1) m' σ' H') ∧ ∀ x H', J.yld i H x H' → tG X.K g x σ H' fun σ2 H2 => wpSs X b { D with nx := N, ct := N, bk := D.nx } σ2 H2) := by
  refine ⟨fun i k σ H => k = xs.length - i ∧ i ≤ xs.length ∧ ∃ m st env, Ext m1 m ∧ Tx H1 H ∧ RSt X.K m st H ∧ REnv X.K m H σ env ∧ P m H ∧ w.lim ≤ st.length ∧ forT (exSs c (callI c n) w ib) g (xs.drop i) env st = some (fl, st'),
    ⟨xs.length, rfl, Nat.zero_le _, _, _, env, Ext.refl _, Tx.refl _, R1, RE, hP, hl, h⟩, ?_⟩
  rintro i k σ H ⟨rfl, hi, m, st, env, a, t, R, RE, pP, hls, hc⟩
  by_cases hlt : i < xs.length
  · refine .inr ⟨ds.go i pP hlt, fun σ' H' => ∃ m' st2 env2, Ext m1 m' ∧ Tx H1 H' ∧ RSt X.K m' st2 H' ∧ REnv X.K m' H' σ' env2 ∧ P m' H' ∧ w.lim ≤ st2.length ∧ forT (exSs c (callI c n) w ib) g (xs.drop (i + 1)) env2 st2 = some (fl, st'),
      fun σ' H' ⟨m', st2, env2, z⟩ => ⟨xs.length - (i + 1), by omega, rfl, hlt, m', st2, env2, z⟩, fun v H' hy => ?_⟩
    rw [List.drop_eq_getElem_cons hlt] at hc
    unfold forT at hc
    split at hc
    · rename_i e1 hb
      obtain ⟨ty, Ry, _, _, rv⟩ := ds.yld pP R (List.getElem?_eq_getElem hlt) hy
      refine bind_run (rv.elim .inl fun z => .inr ⟨hg z.1, z.2⟩) hb (RE.mono (Ext.refl m) ty) fun σ1 r1 _ => ?_
      exact body_run ih Ry r1 hls hc (hQ.mono a (t.trans ty)) fun e2 s2 σ2 H2 m2 hk a2 t2 R2 RE2 hl2 => ⟨m2, s2, e2, a.trans a2, (t.trans ty).trans t2, R2, RE2, ds.mono pP a2 (ty.trans t2), hl2, hk⟩
    · cases hc
  · have e0 : i = xs.length := by omega
    subst e0
    rw [List.drop_length] at hc
    unfold forT at hc
    cases hc
    exact .inl ⟨ds.stop _ pP (Nat.le_refl _), hQ σ H m a t R RE⟩
/-- the loop over a list -/
theorem for_lr {b : List Stmt} {ib : Ss} (ih : SndSs c XR n X W b ib) {w : Wr} {r : Nat} {la : Addr} {g : Tg}
    {σ : L2.St} {env : Evn} {m1 : Mp} {H1 : Hp} {s1 : Store} (R1 : RSt X.K m1 s1 H1) (RE : REnv X.K m1 H1 σ env) (hl : w.lim ≤ s1.length) (hr : m1[r]? = some la)
    {fl : Fl} {st' : Store} {kk : Nat} (h : forL (exSs c (callI c n) w ib) g r kk 0 env s1 = some (fl, st')) {D : Ends} (hQ : PostS X.K XR W m1 H1 st' fl D) :
    ∃ Wi : Nat → Nat → L2.St → Hp → Prop, (∃ m, Wi 0 m σ H1) ∧ ∀ i m σ H, Wi i m σ H →
      ((Itl X.K la).stop i H ∧ D.nx σ H) ∨ ((Itl X.K la).go i H ∧ ∃ N : L2.St → Hp → Prop, (∀ σ' H', N σ' H' → ∃ m', m' < m ∧ Wi (i + 1) m' σ' H') ∧ ∀ x H', (Itl X.K la).yld i H x H' → tG X.K g x σ H' fun σ2 H2 => wpSs X b { D with nx := N, ct := N, bk := D.nx } σ2 H2) := by
  refine ⟨fun i k σ H => ∃ m st env, Ext m1 m ∧ Tx H1 H ∧ RSt X.K m st H ∧ REnv X.K m H σ env ∧ w.lim ≤ st.length ∧ forL (exSs c (callI c n) w ib) g r k i env st = some (fl, st'),
    ⟨kk, _, _, env, Ext.refl _, Tx.refl _, R1, RE, hl, h⟩, ?_⟩
  rintro i k σ H ⟨m, st, env, a, t, R, RE, hls, hc⟩
  cases k with
  | zero => cases hc
  | succ k =>
    unfold forL at hc
    split at hc
    · rename_i ys hy
      obtain ⟨vs, e1, r1⟩ := R.lst hy (a _ _ hr)
      split at hc
      · rename_i x hx
        obtain ⟨v0, g1, g2⟩ := r1.get hx
        split at hc
        · rename_i env1 hb
          refine .inr ⟨⟨vs, v0, SqL.of e1, g1⟩, fun σ' H' => ∃ m' st2 env2, Ext m1 m' ∧ Tx H1 H' ∧ RSt X.K m' st2 H' ∧ REnv X.K m' H' σ' env2 ∧ w.lim ≤ st2.length ∧ forL (exSs c (callI c n) w ib) g r k (i + 1) env2 st2 = some (fl, st'),
            fun σ' H' ⟨m', st2, env2, z⟩ => ⟨k, Nat.lt_succ_self k, m', st2, env2, z⟩, fun v H' ⟨eH, hv⟩ => ?_⟩
          subst eH
          have ev := hv vs (SqL.of e1)
          rw [g1] at ev
          cases ev
          refine bind_run (.inl g2) hb RE fun σ1 r1 _ => ?_
          exact body_run ih R r1 hls hc (hQ.mono a t) fun e2 s2 σ2 H2 m2 hk a2 t2 R2 RE2 hl2 => ⟨m2, s2, e2, a.trans a2, t.trans t2, R2, RE2, hl2, hk⟩
        · cases hc
      · rename_i hx
        cases hc
        refine .inl ⟨⟨vs, SqL.of e1, ?_⟩, hQ σ H m a t R RE⟩
        rw [r1.length]
        exact List.getElem?_eq_none_iff.mp hx
    · cases hc
/-- while -/
theorem whl_run {e : Expr} {ie : E} (iht : SndT c XR n X W e ie) {b : List Stmt} {ib : Ss} (ih : SndSs c XR n X W b ib) {w : Wr}
    {σ : L2.St} {env : Evn} {m1 : Mp} {H1 : Hp} {s1 : Store} (R1 : RSt X.K m1 s1 H1) (RE : REnv X.K m1 H1 σ env) (hl : w.lim ≤ s1.length)
    {fl : Fl} {st' : Store} {kk : Nat} (h : whlN (evE c (callI c n) w ie) (exSs c (callI c n) w ib) kk env s1 = some (fl, st')) {D : Ends} (hQ : PostS X.K XR W m1 H1 st' fl D) :
    tWhile (wpT X e) (wpSs X b) D σ H1 := by
  refine ⟨fun k σ H => ∃ m st env, Ext m1 m ∧ Tx H1 H ∧ RSt X.K m st H ∧ REnv X.K m H σ env ∧ w.lim ≤ st.length ∧ whlN (evE c (callI c n) w ie) (exSs c (callI c n) w ib) k env st = some (fl, st'),
    ⟨kk, _, _, env, Ext.refl _, Tx.refl _, R1, RE, hl, h⟩, ?_⟩
  rintro k σ H ⟨m, st, env, a, t, R, RE, hls, hc⟩
  cases k with
  | zero => cases hc
  | succ k =>
    unfold whlN at hc
    refine SndT.lft iht R RE hls hc (fun x s1 hk => ?_) (hQ.mono a t) fun b1 s2 H2 m2 hk a2 t2 R2 RE2 hl2 P2 => ?_
    · split at hk
      · exact ⟨_, rfl⟩
      · exact ⟨_, rfl⟩
      · cases hk
    · cases b1 with
      | true =>
        rw [if_pos rfl]
        refine ⟨fun σ' H' => ∃ m st env, Ext m1 m ∧ Tx H1 H' ∧ RSt X.K m st H' ∧ REnv X.K m H' σ' env ∧ w.lim ≤ st.length ∧ whlN (evE c (callI c n) w ie) (exSs c (callI c n) w ib) k env st = some (fl, st'), fun σ' H' z => ⟨k, Nat.lt_succ_self k, z⟩, ?_⟩
        exact body_run ih R2 RE2 hl2 hk P2 fun e3 s3 σ3 H3 m3 hk3 a3 t3 R3 RE3 hl3 => ⟨m3, s3, e3, (a.trans a2).trans a3, (t.trans t2).trans t3, R3, RE3, hl3, hk3⟩
      | false =>
        rw [if_neg Bool.false_ne_true]
        cases hk
        exact P2 σ H2 m2 (Ext.refl m2) (Tx.refl H2) R2 RE2
end
end Iv
end
section
set_option Elab.async false
set_option linter.all false
set_option maxRecDepth 100000
/-! IvSnd10: statements and blocks. -/
namespace Iv
open PySem PySem.Spec PyProof.Rows L2 RZ
section
variable {c : Cfg} {nm : Nm} {XR : XRel} {n : Nat}
/-- a def's frame -/
structure Gf (c : Cfg) (nm : Nm) (XR : XRel) (n : Nat) (X : Cx) (W : WX) (sc : Scope) : Prop where
  gd : Gd c nm XR n X sc yes
  tk : Takes X W
  po : PassesOwn (model X.prog X.w) X.A X.env X.xe
  kd : sc.kind = .function
theorem allSs_snd {X : Cx} {W : WX} {f : Stmt → S → Bool} (hf : ∀ s ir, f s ir = true → SndS c XR n X W s ir) : ∀ {ss : List Stmt} {ir : Ss}, allSs f ss ir = true → SndSs c XR n X W ss ir
  | [], .nil, _ => fun w σ H env st m fl st' R0 RE hl h D P => by
    unfold exSs at h
    cases h
    exact of_pss pss_nil (P σ H m (Ext.refl m) (Tx.refl H) R0 RE)
  | s :: ss, .cons i is, h => fun w σ H env st m fl st' R0 RE hl hv D P => by
    obtain ⟨h1, h2⟩ := and3 (show (_ && _) = true from h)
    have ihL := allSs_snd hf h2
    unfold exSs at hv
    refine of_pss (pss_cons (ps_w s) (pss_w ss)) ?_
    show wpS X s { D with nx := fun σ H => wpSs X ss D σ H } σ H
    cases hm : exS c (callI c n) w i env st with
    | none =>
      rw [hm] at hv
      cases hv
    | some p =>
      obtain ⟨fb, s1⟩ := p
      rw [hm] at hv
      refine hf s i h1 w σ H env st m fb s1 R0 RE hl hm _ ?_
      cases fb with
      | nx e => exact fun σ' H' m' a t r q => ihL w σ' H' e s1 m' fl st' r q (lim_S hl hm) hv D (P.mono a t)
      | bk e =>
        cases hv
        exact P
      | ct e =>
        cases hv
        exact P
      | rt d =>
        cases hv
        exact P
      | ex x e =>
        cases hv
        exact P
  | [], .cons _ _, h => by cases h
  | _ :: _, .nil, h => by cases h
theorem swaps_plain {X : Cx} {v : Expr} {t : Option Expr} {l : Nat} (h : plainE v = true) (h2 : isLc v = false) : swapsWith v t l X.env = pure false := by
  cases v <;> first | rfl | (cases h; done) | (cases h2; done)
theorem sole_plain {X : Cx} {v t : Expr} {l : Nat} (h : plainE v = true) (h2 : isLc v = false) : swapsWithSole [t] v l X.env = pure false := swaps_plain h h2
theorem swapped_plain {X : Cx} {v t : Expr} (h : plainE v = true) (h2 : isTup v = false) : swappedStores [t] v X.env = pure none := by
  cases v <;> first | (cases t <;> rfl) | (cases h; done) | (cases h2; done)
theorem isLc_not {v : Expr} (h : (!isLc v) = true) : isLc v = false := by
  cases hb : isLc v with
  | true => rw [hb] at h; cases h
  | false => rfl
theorem isTup_not {v : Expr} (h : (!isTup v) = true) : isTup v = false := by
  cases hb : isTup v with
  | true => rw [hb] at h; cases h
  | false => rfl
/-- statements of any depth -/
theorem chkS_snd {X : Cx} {W : WX} {sc : Scope} (gf : Gf c nm XR n X W sc) : ∀ (k : Nat) (s : Stmt) (ir : S), chkS nm sc k s ir = true → SndS c XR n X W s ir
  | 0, _, _, h => by cases h
  | k + 1, s, ir, hchk => by
    have gd := gf.gd
    have hf : ∀ e ir, chkE nm k sc e ir = true → SndE c XR n X W e ir := fun e ir h => (all_ET k).1 X W sc yes e ir gd gf.tk h
    have hfT : ∀ e ir, chkE nm k sc e ir = true → SndT c XR n X W e ir := fun e ir h => (all_ET k).2 X W sc yes e ir gd gf.tk h
    have hp : ∀ e ir, chkE nm k sc e ir = true → plainE e = true := fun e ir h => chkE_plain h
    have hb : ∀ {ss : List Stmt} {ir : Ss}, allSs (chkS nm sc k) ss ir = true → SndSs c XR n X W ss ir := fun h => allSs_snd (chkS_snd gf k) h
    have gsc := gd.sc
    intro w σ H env st m fl st' R0 RE hl hv D P
    cases ir with
    | set i e =>
      unfold chkS at hchk
      dsimp only at hchk
      split at hchk
      · rename_i y px v p
        obtain ⟨h, h3⟩ := and3 hchk
        obtain ⟨h1, h2⟩ := and3 h
        have hi : X.N[i]? = some y := by rw [gd.N]; exact isN_some h1
        have hloc : Loc X.env.scope y := by rw [gsc]; exact loc_of h2
        unfold exS at hv
        by_cases hlc : ∃ elt' gens scope vp, v = .ListComp elt' gens scope vp ∧ (localB sc y && (px.line == vp.line) && !(scope.names.any fun (n, k) => n == y && (k == .local || k == .cell))) = true
        · cases k with
          | zero => cases h3
          | succ k =>
            obtain ⟨elt', gens, scope, vp, rfl, hcond⟩ := hlc
            · obtain ⟨h4, h7⟩ := and3 hcond
              obtain ⟨h5, h6⟩ := and3 h4
              cases e with
              | comp g ik es cs elt own =>
                obtain ⟨elt2, tg, iter, ifs, scope2, pos2, e0, lc⟩ := lc_of h3
                cases e0
                have hf' : ∀ e ir, chkE nm k sc e ir = true → SndE c XR n X W e ir := fun e ir h => (all_ET k).1 X W sc yes e ir gd gf.tk h
                have hB : TurnC X.K w (turnF c n w cs elt) (tIfs X scope ifs) (wpEB X scope elt') :=
                  turnF_ok lc.len lc.ifs_ (fun s H0 C cl fp => (all_ET k).1 _ _ _ _ _ _ (gd.blk s H0 scope C cl fp) takes0 lc.elt_) (fun t it h s H0 C cl fp => (all_ET k).2 _ _ _ _ _ _ (gd.blk s H0 scope C cl fp) takes0 h)
                have P1 : ∀ (res : R Iv.D) (s1 : Store), evE c (callI c n) w (.comp g ik es cs elt own) env st = some (res, s1) → PostE X.K XR W σ m H s1 res (fun v H1 => gName i v σ H1 D.nx) := fun res s1 he => by
                  rw [he] at hv
                  cases res with
                  | ex x =>
                    cases hv
                    exact P.atEx RE
                  | ok d =>
                    cases hv
                    exact fun v H' m' a t r q => P _ H' m' a t r ((RE.mono a t).set q i)
                rcases lft_some hv with ⟨x, s1, e1, _⟩ | ⟨d, s1, e1, _⟩
                · have P2 := P1 _ _ e1
                  unfold evE at e1
                  obtain ⟨g1, wi, g2, g3⟩ := comp_whole gd hf' (fun e ir h => chkE_plain h) lc.zp lc.it lc.inn (wk_tup lc.zp lc.tg_) hB turnF_fr R0 RE hl e1 P2
                  rw [← own_map nm.N own] at g3
                  exact of_ps (ps_setLc gd.calm gd.nd hi (by rw [gsc]; exact local_of h5) (sw_true (by rw [gsc]; exact gf.kd) (by rw [gsc]; exact local_of h5) h6 (by
                      cases hb : (scope.names.any fun (n, k) => n == y && (k == .local || k == .cell)) with
                      | true => rw [hb] at h7; cases h7
                      | false => rfl)) g2 (by rw [gd.N, gsc]; exact blkOk_by lc.blk)
                    (fun s H C cl fp => by
                      have gb := gd.blk s H scope C cl fp
                      have := pg_of (X := X.blk s H scope (compEnvC scope cl C X.env) fp) (nm := nm) gb.calm gb.N gb.nd gb.fn (by rw [gb.sc]; exact lc.tg_)
                      exact this)
                    (fun s H C cl fp => pts_of lc.len s H C cl fp) (fun s H0 C cl fp => ⟨fun pins s1 σ1 H1 Q1 I h1 => h1 s H0 C cl fp pins s1 I⟩) (plain_fold g1)) g3
                · have P2 := P1 _ _ e1
                  unfold evE at e1
                  obtain ⟨g1, wi, g2, g3⟩ := comp_whole gd hf' (fun e ir h => chkE_plain h) lc.zp lc.it lc.inn (wk_tup lc.zp lc.tg_) hB turnF_fr R0 RE hl e1 P2
                  rw [← own_map nm.N own] at g3
                  exact of_ps (ps_setLc gd.calm gd.nd hi (by rw [gsc]; exact local_of h5) (sw_true (by rw [gsc]; exact gf.kd) (by rw [gsc]; exact local_of h5) h6 (by
                      cases hb : (scope.names.any fun (n, k) => n == y && (k == .local || k == .cell)) with
                      | true => rw [hb] at h7; cases h7
                      | false => rfl)) g2 (by rw [gd.N, gsc]; exact blkOk_by lc.blk)
                    (fun s H C cl fp => by
                      have gb := gd.blk s H scope C cl fp
                      have := pg_of (X := X.blk s H scope (compEnvC scope cl C X.env) fp) (nm := nm) gb.calm gb.N gb.nd gb.fn (by rw [gb.sc]; exact lc.tg_)
                      exact this)
                    (fun s H C cl fp => pts_of lc.len s H C cl fp) (fun s H0 C cl fp => ⟨fun pins s1 σ1 H1 Q1 I h1 => h1 s H0 C cl fp pins s1 I⟩) (plain_fold g1)) g3
              | _ => cases h3
        · have hsw : swapsWith v (some (.Name y px)) p.line X.env = pure false := by
            have hpv := hp _ _ h3
            cases v with
            | ListComp elt' gens scope vp =>
              have hbk : X.env.blockKind = .function := by
                unfold Env.blockKind
                rw [gsc, gf.kd]
                rfl
              have hfalse : (localB sc y && (px.line == vp.line) && !(scope.names.any fun (n, k) => n == y && (k == .local || k == .cell))) = false := by
                cases hb : (localB sc y && (px.line == vp.line) && !(scope.names.any fun (n, k) => n == y && (k == .local || k == .cell))) with
                | false => rfl
                | true => exact absurd ⟨elt', gens, scope, vp, rfl, hb⟩ hlc
              have hlo : (X.env.kindOf y == some NameKind.local) = localB sc y := by
                have e1 : X.env.kindOf y = sc.names.lookup y := by
                  rw [← gsc]
                  rfl
                rw [e1]
                unfold localB
                cases hq : sc.names.lookup y with
                | none => rfl
                | some kk => cases kk <;> rfl
              unfold swapsWith
              simp only [hbk, hlo, Expr.pos]
              have e2 : (ScopeKind.function == ScopeKind.function) = true := rfl
              rw [e2, Bool.true_and]
              show (pure (localB sc y && (px.line == vp.line) && !(scope.names.any fun (n, k) => n == y && (k == .local || k == .cell))) : Sem Bool) = pure false
              rw [hfalse]
            | _ => first | rfl | (cases hpv; done)
          refine of_ps (ps_set gd.nd hi hloc (pe_w v) hsw (.inl (gd.fn y rfl))) ?_
          refine SndE.lft (hf _ _ h3) R0 RE hl hv P fun yd s1 vy H1 m1 hk a1 t1 R1 RE1 ry hl1 P1 => ?_
          cases hk
          exact P1 _ H1 m1 (Ext.refl m1) (Tx.refl H1) R1 (RE1.set ry i)
      · cases hchk
    | setT l e =>
      unfold chkS at hchk
      dsimp only at hchk
      split at hchk
      · rename_i ts kk tpos v p
        obtain ⟨h, h4⟩ := and3 hchk
        obtain ⟨h, h3⟩ := and3 h
        obtain ⟨h1, h2⟩ := and3 h
        unfold exS at hv
        have pg := pg_of (X := X) (fnc := yes) (g := .tup l) (e := .Tuple ts kk tpos) gd.calm gd.N gd.nd gd.fn (by rw [gsc]; exact h1)
        refine of_ps (ps_asg (pe_w v) pg (sole_plain (hp _ _ h4) (isLc_not h3)) (swapped_plain (hp _ _ h4) (isTup_not h2))) ?_
        refine SndE.lft (hf _ _ h4) R0 RE hl hv P fun y s1 vy H1 m1 hk a1 t1 R1 RE1 ry hl1 P1 => ?_
        split at hk
        · rename_i e1 hb1
          cases hk
          exact bind_run (.inl ry) hb1 RE1 fun σ1 r1 _ => P1 σ1 H1 m1 (Ext.refl m1) (Tx.refl H1) R1 r1
        · cases hk
      · cases hchk
    | par _ _ _ _ => cases hchk
    | setI o i e =>
      unfold chkS at hchk
      dsimp only at hchk
      split at hchk
      · rename_i o' i' spos v p
        obtain ⟨h, h5⟩ := and3 hchk
        obtain ⟨h, h4⟩ := and3 h
        obtain ⟨h, h3⟩ := and3 h
        obtain ⟨h1, h2⟩ := and3 h
        unfold exS at hv
        have hpi := hp _ _ h2
        refine of_ps (ps_asg (pe_w v) (pg_sub (pe_w o') (pe_w i') set_list (by intro _; cases i' <;> first | rfl | cases hpi)) (sole_plain (hp _ _ h3) (isLc_not h5)) (swapped_plain (hp _ _ h3) (isTup_not h4))) ?_
        refine SndE.lft (hf _ _ h3) R0 RE hl hv P fun y s1 vy H1 m1 hk a1 t1 R1 RE1 ry hl1 P1 => ?_
        refine SndE.lft (hf _ _ h1) R1 RE1 hl1 hk P1 fun x s2 vx H2 m2 hk2 a2 t2 R2 RE2 rx hl2 P2 => ?_
        refine SndE.lft (hf _ _ h2) R2 RE2 hl2 hk2 P2 fun z s3 vz H3 m3 hk3 a3 t3 R3 RE3 rz hl3 P3 => ?_
        split at hk3
        · rename_i r kx
          split at hk3
          · rename_i xs hxs
            split at hk3
            · rename_i j hj
              split at hk3
              · cases hk3
                cases rz
                obtain ⟨la, rfl, hla⟩ := (rx.mono a3 t3).inv_ref
                obtain ⟨vs, e4, r4⟩ := R3.lst hxs hla
                refine ⟨la, vs, kx, j, rfl, rfl, e4, by rw [r4.length]; exact hj, ?_⟩
                have ry3 := ry.mono (a2.trans a3) (t2.trans t3)
                have T := Tx.lst (o := HO.lst (vs.set j vy)) e4
                exact P3 σ _ m3 (Ext.refl m3) T (R3.set hla e4 (r4.set j ry3)) (RE3.mono (Ext.refl m3) T)
              · cases hk3
            · cases hk3
          · cases hk3
        · cases hk3
      · cases hchk
    | ife e a b =>
      unfold chkS at hchk
      dsimp only at hchk
      split at hchk
      · rename_i c' a' b' p
        obtain ⟨h, h3⟩ := and3 hchk
        obtain ⟨h1, h2⟩ := and3 h
        unfold exS at hv
        refine of_ps (ps_if (pt_w c') (pss_w a') (pss_w b')) ?_
        refine SndT.lft (hfT _ _ h1) R0 RE hl hv (fun x s1 hk => ?_) P fun b1 s1 H1 m1 hk a1 t1 R1 RE1 hl1 P1 => ?_
        · split at hk
          · exact ⟨_, rfl⟩
          · exact ⟨_, rfl⟩
          · cases hk
        · cases b1 with
          | true =>
            rw [if_pos rfl]
            exact hb h2 w σ H1 env s1 m1 fl st' R1 RE1 hl1 hk D P1
          | false =>
            rw [if_neg Bool.false_ne_true]
            exact hb h3 w σ H1 env s1 m1 fl st' R1 RE1 hl1 hk D P1
      · cases hchk
    | forS g ik es ib =>
      unfold chkS at hchk
      dsimp only at hchk
      split at hchk
      · rename_i tg iter b' p
        obtain ⟨h, h4⟩ := and3 hchk
        obtain ⟨h, h3⟩ := and3 h
        obtain ⟨h1, h2⟩ := and3 h
        unfold exS at hv
        have pg := pg_of (X := X) (fnc := yes) gd.calm gd.N gd.nd gd.fn (by rw [gsc]; exact h1)
        have hgz := wk_tup h3 h1
        rcases lfts_some hv with ⟨x, s1, e1, e2⟩ | ⟨xs, s1, e1, e2⟩
        · cases e2
          obtain ⟨g1, wi, g2, g3⟩ := src_serve (tg := tg) gd.g.blt gsc hf hp h3 h2 R0 RE hl e1 (fun xs e => by cases e)
          exact of_ps (ps_for gf.po gd.calm g2 pg (pss_w b') (plain_fold g1)) (g3 _ (P.atEx RE))
        · have hsome : ∃ s, srcOf ik xs s1 = some s := by
            cases hs : srcOf ik xs s1 with
            | some s => exact ⟨s, rfl⟩
            | none =>
              rw [hs] at e2
              cases e2
          obtain ⟨src, hsrc⟩ := hsome
          obtain ⟨g1, wi, g2, g3⟩ := src_serve (tg := tg) gd.g.blt gsc hf hp h3 h2 R0 RE hl e1 (fun xs' e => by
            cases e
            exact ⟨src, hsrc⟩)
          refine of_ps (ps_for gf.po gd.calm g2 pg (pss_w b') (plain_fold g1)) (g3 _ fun s hs J H1 m1 a t R1 ok => ?_)
          rw [hs] at hsrc
          cases hsrc
          rw [hs] at e2
          have hl1 := lim_L hl e1
          cases src with
          | ds ys =>
            obtain ⟨Pp, ds, hP⟩ := ok
            exact for_ds (hb h4) ds hgz R1 (RE.mono a t) hl1 hP e2 (P.mono a t)
          | lr r =>
            obtain ⟨la, rfl, hr⟩ := ok
            have e2' : (match lstAt s1 r with
              | some xs => forL (exSs c (callI c n) w ib) g r (xs.length + 1) 0 env s1
              | none => none) = some (fl, st') := e2
            split at e2'
            · exact for_lr (hb h4) R1 (RE.mono a t) hl1 hr e2' (P.mono a t)
            · cases e2'
      · cases hchk
    | whl e ib =>
      unfold chkS at hchk
      dsimp only at hchk
      split at hchk
      · rename_i c' b' p
        obtain ⟨h1, h2⟩ := and3 hchk
        unfold exS at hv
        exact of_ps (ps_while gf.po (pt_w c') (pss_w b')) (whl_run (hfT _ _ h1) (hb h2) R0 RE hl hv P)
      · cases hchk
    | ret e =>
      unfold chkS at hchk
      dsimp only at hchk
      split at hchk
      · rename_i v p
        unfold exS at hv
        refine of_ps (ps_ret (pe_w v)) ?_
        refine SndE.lft (hf _ _ hchk) R0 RE hl hv P fun y s1 vy H1 m1 hk a1 t1 R1 RE1 ry hl1 P1 => ?_
        cases hk
        exact P1 vy H1 m1 (Ext.refl m1) (Tx.refl H1) R1 ry
      · cases hchk
    | retN =>
      unfold chkS at hchk
      dsimp only at hchk
      split at hchk
      · unfold exS at hv
        cases hv
        exact of_ps ps_retN (P .non H m (Ext.refl m) (Tx.refl H) R0 .non)
      · cases hchk
    | expr e =>
      unfold chkS at hchk
      dsimp only at hchk
      split at hchk
      · rename_i v p
        obtain ⟨h1, h2⟩ := and3 hchk
        unfold exS at hv
        refine of_ps (ps_expr (pe_w v) (swaps_plain (hp _ _ h1) (isLc_not h2))) ?_
        refine SndE.lft (hf _ _ h1) R0 RE hl hv P fun y s1 vy H1 m1 hk a1 t1 R1 RE1 ry hl1 P1 => ?_
        cases hk
        exact P1 σ H1 m1 (Ext.refl m1) (Tx.refl H1) R1 RE1
      · cases hchk
    | brk =>
      unfold chkS at hchk
      dsimp only at hchk
      split at hchk
      · unfold exS at hv
        cases hv
        exact of_ps ps_break (P σ H m (Ext.refl m) (Tx.refl H) R0 RE)
      · cases hchk
    | cont =>
      unfold chkS at hchk
      dsimp only at hchk
      split at hchk
      · unfold exS at hv
        cases hv
        exact of_ps ps_continue (P σ H m (Ext.refl m) (Tx.refl H) R0 RE)
      · cases hchk
    | pass =>
      unfold chkS at hchk
      dsimp only at hchk
      split at hchk
      · unfold exS at hv
        cases hv
        exact of_ps ps_pass (P σ H m (Ext.refl m) (Tx.refl H) R0 RE)
      · cases hchk
end
end Iv
end
section
set_option Elab.async false
set_option linter.all false
set_option maxRecDepth 100000
/-! IvFn: functions. -/
namespace Iv
open PySem PySem.Spec PyProof.Rows L2 RZ
/-- an exception's relation that a shorter map keeps -/
def XCut (XR : XRel) : Prop := ∀ (m m' : Mp) (H : Hp) (x : Exc) (cls : Value) (dd : Option Addr), (∀ r, r < m.length → m'[r]? = m[r]?) → D.los m.length x.args = true → XR m' H x cls dd → XR m H x cls dd
theorem xcut_no : XCut (fun _ _ _ _ _ => False) := fun _ _ _ _ _ _ _ _ h => h
section
variable {K : PySem.W.Frag}
theorem RO.cut {m m' : Mp} {H : Hp} {a : Addr} {o : O} (h : ∀ r, r < m.length → m'[r]? = m[r]?) (l : loO m.length o = true) (q : RO K m' H a o) : RO K m H a o := by
  cases o with
  | lst xs =>
    obtain ⟨vs, e, r⟩ := q
    exact ⟨vs, e, RDs.cut (n := m.length) (fun r hr => (h r hr).symm) r l⟩
theorem RO.lo {m : Mp} {H : Hp} {a : Addr} {o : O} (q : RO K m H a o) : loO m.length o = true := by
  cases o with
  | lst xs =>
    obtain ⟨vs, e, r⟩ := q
    exact RDs.lo rfl r
/-- the store behind a call, cut to what stood before -/
theorem cut_store {m m' : Mp} {H H' : Hp} {st st1 s2 : Store} {oks : List Nat} (R0 : RSt K m st H) (R1 : RSt K m' st1 H') (x : Ext m m') (hlt : ∀ r ∈ oks, r < st.length) (fr : Fr ⟨st.length, oks⟩ st st1) (hu : upds st st1 oks = some s2) :
    s2.length = st.length ∧ (∀ r, r < m.length → m'[r]? = m[r]?) ∧ RSt K m s2 H' := by
  obtain ⟨h1, h2, h3⟩ := upds_spec (st := st) (st1 := st1) (oks := oks) (s0 := st) (s2 := s2) hlt rfl hu
  have hx : ∀ r, r < m.length → m'[r]? = m[r]? := fun r hr => by
    have e := List.getElem?_eq_getElem hr
    rw [e]
    exact x r _ e
  refine ⟨h1, hx, by rw [h1]; exact R0.len, R0.nd, fun r a o ha ho => ?_⟩
  have hr : r < m.length := (List.getElem?_eq_some_iff.mp ha).1
  by_cases hm : r ∈ oks
  · obtain ⟨o', e1, e2, e3⟩ := h3 r hm
    rw [ho] at e1
    cases e1
    rw [← R0.len] at e3
    exact (R1.at_ r a o (x r a ha) e2).cut hx e3
  · rw [h2 r hm] at ho
    have hc : (Wr.mk st.length oks).can r = false := by
      unfold Wr.can
      refine Bool.or_eq_false_iff.mpr ⟨decide_eq_false (Nat.not_le.mpr (by rw [← R0.len]; exact hr)), ?_⟩
      cases hb : oks.contains r with
      | false => rfl
      | true => exact absurd (by simpa using hb) hm
    have e1 := fr.2 r hc
    rw [ho] at e1
    exact (R1.at_ r a o (x r a ha) e1).cut hx (R0.at_ r a o ha ho).lo
theorem RSt.push {m m' : Mp} {H : Hp} {s2 st1 : Store} {r : Nat} {a : Addr} {o : O} (R : RSt K m s2 H) (R1 : RSt K m' st1 H) (hx : ∀ r, r < m.length → m'[r]? = m[r]?) (hr : m.length ≤ r) (ha : m'[r]? = some a) (ho : st1[r]? = some o) (l : loO m.length o = true) : RSt K (m ++ [a]) (s2 ++ [o]) H := by
  have hn : a ∉ m := fun hm => by
    obtain ⟨j, hj, e⟩ := List.mem_iff_getElem.mp hm
    have e1 : m'[j]? = some a := by rw [hx j hj, List.getElem?_eq_getElem hj, e]
    have hj' := (List.getElem?_eq_some_iff.mp e1)
    have hr' := (List.getElem?_eq_some_iff.mp ha)
    obtain ⟨j1, j2⟩ := hj'
    obtain ⟨r1, r2⟩ := hr'
    have : j = r := (List.getElem_inj R1.nd).mp (j2.trans r2.symm)
    omega
  have xa := Ext.app m [a]
  refine ⟨by rw [List.length_append, List.length_append, R.len] <;> rfl, ?_, fun i b o' hb ho' => ?_⟩
  · rw [List.nodup_append]
    refine ⟨R.nd, by simp, fun c hc b hb e => ?_⟩
    have hb' : b = a := by simpa using hb
    exact hn (hb' ▸ e ▸ hc)
  · by_cases hi : i < m.length
    · rw [List.getElem?_append_left hi] at hb
      rw [List.getElem?_append_left (by rw [← R.len]; exact hi)] at ho'
      exact (R.at_ i b o' hb ho').mono xa (Tx.refl H) fun _ e => e
    · have hi2 : i = m.length := by
        have := (List.getElem?_eq_some_iff.mp hb).1
        rw [List.length_append] at this
        have h1 : [a].length = 1 := rfl
        omega
      subst hi2
      rw [List.getElem?_append_right (Nat.le_refl _), Nat.sub_self] at hb
      rw [R.len, List.getElem?_append_right (Nat.le_refl _), Nat.sub_self] at ho'
      cases hb
      cases ho'
      exact ((R1.at_ r a o ha ho).cut hx l).mono xa (Tx.refl H) fun _ e => e
theorem env_start {m : Mp} {H : Hp} {N : List Str} {vs : List V} {ds : List D} {fn : Fn} (r : RDs K m H vs ds) (hN : N.length = fn.nl) (hl : ds.length = fn.np) : REnv K m H (L2.start N vs) (envOf fn ds) := by
  have hv := r.length
  refine ⟨?_, fun i d e => ?_⟩
  · unfold L2.start envOf
    rw [List.length_append, List.length_append, List.length_map, List.length_map, List.length_replicate, List.length_replicate, hv, hN, hl]
  · unfold envOf at e
    by_cases hi : i < ds.length
    · rw [List.getElem?_append_left (by rw [List.length_map]; exact hi), List.getElem?_map] at e
      obtain ⟨d', e1, e2⟩ := Option.map_eq_some_iff.mp e
      cases e2
      obtain ⟨v, g1, g2⟩ := r.get e1
      refine ⟨v, ?_, g2⟩
      unfold L2.start
      rw [List.getElem?_append_left (by rw [List.length_map, hv]; exact hi), List.getElem?_map, g1]
      rfl
    · rw [List.getElem?_append_right (by rw [List.length_map]; omega), List.getElem?_replicate] at e
      split at e <;> cases e
theorem refsAt_lt {m : Mp} {H : Hp} : ∀ {ps : List Nat} {ds : List D} {l : List Nat}, refsAt ds ps = some l → True := fun _ => trivial
end
section
variable {c : Cfg} {nm : Nm} {XR : XRel} {n : Nat} {P : Program} {w : World} {K : PySem.W.Frag} {mg : Str → Option Value} {base : Heap}
theorem Gm.names (G : Gm c nm XR n P w K mg base) (N : List Str) : Gm c ⟨N, nm.fns, nm.cs⟩ XR n P w K mg base := ⟨G.blt, G.cst, G.fl, G.fun_⟩
/-- a def keeps the machine's promise -/
theorem fn_step (G : Gm c nm XR n P w K mg base) (hX : XCut XR) {i : Nat} {fn : Fn} (hfn : c.fns[i]? = some fn) {x qual : Str} {args : Arguments} {body : List Stmt} {scope : Scope} {N ps : List Str} {f : Addr} {fd : FuncData} {k : Nat}
    (F : FunD K x qual args body scope [] [] f fd) (S : FnScope N ps scope) (hps : ps.length = fn.np) (hN : N.length = fn.nl) (hchk : allSs (chkS ⟨N, nm.fns, nm.cs⟩ scope k) body fn.body = true) :
    FnOk P w K mg base (L2.CX P w) (2 * (n + 1)) f fd ps (spI c K XR (n + 1) i) := by
  refine F.ok (k := 2 * n + 1) S (fun vs H Q E h => ?_) fun cdv A outer s H vs Q E hr h => ?_
  · obtain ⟨w', m, st, ds, res, st', R0, rd, hl, hc, _⟩ := h
    unfold callI at hc
    rw [hfn] at hc
    dsimp only at hc
    split at hc
    · rename_i e
      rw [rd.length, e, hps]
    · cases hc
  · obtain ⟨w', m, st, ds, res, st', R0, rd, hl, hc, Pr⟩ := h
    let X := cxOf (L2.CX P w) P w K mg base N qual scope f cdv A outer s H E
    have gd : Gd c ⟨N, nm.fns, nm.cs⟩ XR n X scope yes := ⟨rfl, rfl, S.nd, rfl, fun _ _ => rfl, hr, G.names N⟩
    have tk : Takes X (fun cls d _ H' => E cls d H') := takes_of rfl rfl rfl rfl
    have gf : Gf c ⟨N, nm.fns, nm.cs⟩ XR n X (fun cls d _ H' => E cls d H') scope := ⟨gd, tk, passes_of rfl, S.kind⟩
    have hb : SndSs c XR n X (fun cls d _ H' => E cls d H') body fn.body := allSs_snd (chkS_snd gf k) hchk
    refine ⟨wpSs X body, pss_w body, ?_⟩
    unfold callI at hc
    rw [hfn] at hc
    dsimp only at hc
    split at hc
    · rename_i hnp
      have RE : REnv K m H (L2.start N vs) (envOf fn ds) := env_start rd hN hnp
      split at hc
      · unfold leaveR at hc
        split at hc
        · rename_i env st1 hex
          cases hc
          refine hb w' (L2.start N vs) H (envOf fn ds) st m _ _ R0 RE hl hex _ ?_
          exact fun σ' H' m' a t r q => Pr .non H' m' a t r .non
        · rename_i d st1 hex
          cases hc
          exact hb w' (L2.start N vs) H (envOf fn ds) st m _ _ R0 RE hl hex _ Pr
        · rename_i xx env st1 hex
          cases hc
          refine hb w' (L2.start N vs) H (envOf fn ds) st m _ _ R0 RE hl hex _ ?_
          exact fun σ' cls dd H' m' a t r _ q => Pr cls dd H' m' a t r q
        · cases hc
      · rename_i pls _
        split at hc
        · rename_i oks hoks
          split at hc
          · rename_i hcan
            obtain ⟨hc1, hc2⟩ := Bool.and_eq_true_iff.mp hcan
            have hlt : ∀ r ∈ oks, r < st.length := fun r hr => of_decide_eq_true (List.all_eq_true.mp hc2 r hr)
            have hl2 : (Wr.mk st.length oks).lim ≤ st.length := Nat.le_refl _
            unfold leave at hc
            split at hc
            · rename_i env st1 hex
              have fr := ok_exSs (ok_callI c n) fn.body (envOf fn ds) st hl2 _ _ hex
              split at hc
              · rename_i s2 hu
                cases hc
                refine hb _ (L2.start N vs) H (envOf fn ds) st m _ _ R0 RE hl2 hex _ ?_
                intro σ' H' m' a t r q
                obtain ⟨h1, h2, h3⟩ := cut_store R0 r a hlt fr hu
                exact Pr .non H' m (Ext.refl m) t h3 .non
              · cases hc
            · rename_i d st1 hex
              have fr := ok_exSs (ok_callI c n) fn.body (envOf fn ds) st hl2 _ _ hex
              split at hc
              · rename_i s2 hu
                split at hc
                · rename_i hlo
                  cases hc
                  refine hb _ (L2.start N vs) H (envOf fn ds) st m _ _ R0 RE hl2 hex _ ?_
                  intro v H' m' a t r q
                  obtain ⟨h1, h2, h3⟩ := cut_store R0 r a hlt fr hu
                  exact Pr v H' m (Ext.refl m) t h3 (RD.cut (n := st.length) (fun r hr => (h2 r (by rw [R0.len]; exact hr)).symm) q hlo)
                · split at hc
                  · rename_i rr hlo
                    split at hc
                    · rename_i o ho
                      split at hc
                      · rename_i hloo
                        cases hc
                        refine hb _ (L2.start N vs) H (envOf fn ds) st m _ _ R0 RE hl2 hex _ ?_
                        intro v H' m' a t r q
                        obtain ⟨h1, h2, h3⟩ := cut_store R0 r a hlt fr hu
                        obtain ⟨la, rfl, hla⟩ := q.inv_ref
                        have hge : m.length ≤ rr := by
                          rw [R0.len]
                          exact Nat.le_of_not_lt fun z => hlo (decide_eq_true z)
                        have R4 := RSt.push h3 r h2 hge hla ho (by rw [R0.len]; exact hloo)
                        refine Pr (.ref la) H' (m ++ [la]) (Ext.app m [la]) t R4 (.ref ?_)
                        rw [← R0.len, List.getElem?_append_right (Nat.le_refl _), Nat.sub_self]
                        rfl
                      · cases hc
                    · cases hc
                  · cases hc
              · cases hc
            · rename_i xx env st1 hex
              have fr := ok_exSs (ok_callI c n) fn.body (envOf fn ds) st hl2 _ _ hex
              split at hc
              · rename_i s2 hu
                split at hc
                · rename_i hlo
                  cases hc
                  refine hb _ (L2.start N vs) H (envOf fn ds) st m _ _ R0 RE hl2 hex _ ?_
                  intro σ' cls dd H' m' a t r _ q
                  obtain ⟨h1, h2, h3⟩ := cut_store R0 r a hlt fr hu
                  exact Pr cls dd H' m (Ext.refl m) t h3 (hX m m' H' xx cls dd h2 (by rw [R0.len]; exact hlo) q)
                · cases hc
              · cases hc
            · cases hc
          · cases hc
        · cases hc
    · cases hc
/-- where a def stands, and that its body is the machine's -/
structure DefAt (c : Cfg) (nm : Nm) (K : PySem.W.Frag) (mg : Str → Option Value) (i : Nat) (x : Str) (fn : Fn) : Prop where
  at_ : ∃ (f : Addr) (fd : FuncData) (qual : Str) (args : Arguments) (body : List Stmt) (scope : Scope) (N ps : List Str) (k : Nat),
    mg x = some (.ref f) ∧ FunD K x qual args body scope [] [] f fd ∧ Binds K fd ps [] ∧ FnScope N ps scope ∧ ps.length = fn.np ∧ N.length = fn.nl ∧ allSs (chkS ⟨N, nm.fns, nm.cs⟩ scope k) body fn.body = true
/-- all defs, at any depth -/
theorem gm_all (hX : XCut XR) (hblt : ∀ x ∈ bltNames, mg x = none)
    (hcst : ∀ (i : Nat) (x : Str) (d : D), nm.cs[i]? = some x → c.consts[i]? = some d → ∃ (u : Value) (v : V), mg x = some u ∧ RelV v u ∧ ∀ (m : Mp) (H : Hp), RD K m H v d)
    (hfl : nm.fns.length = c.fns.length) (hd : ∀ (i : Nat) (x : Str) (fn : Fn), nm.fns[i]? = some x → c.fns[i]? = some fn → DefAt c nm K mg i x fn) : ∀ n, Gm c nm XR n P w K mg base
  | 0 => ⟨hblt, hcst, hfl, fun i x fn h1 h2 => by
    obtain ⟨f, fd, qual, args, body, scope, N, ps, k, e1, F, B, S, _⟩ := (hd i x fn h1 h2).at_
    refine ⟨f, fd, ps, e1, F.kp, B, fun vs H Q E h => ?_, fun A outer s H args us vs Q E _ _ _ _ h => ?_⟩
    · obtain ⟨w', m, st, ds, res, st', _, _, _, hc, _⟩ := h
      cases hc
    · obtain ⟨w', m, st, ds, res, st', _, _, _, hc, _⟩ := h
      cases hc⟩
  | n + 1 => ⟨hblt, hcst, hfl, fun i x fn h1 h2 => by
    obtain ⟨f, fd, qual, args, body, scope, N, ps, k, e1, F, B, S, hps, hN, hk⟩ := (hd i x fn h1 h2).at_
    exact ⟨f, fd, ps, e1, F.kp, B, fn_step (gm_all hX hblt hcst hfl hd n) hX h2 F S hps hN hk⟩⟩
end
end Iv
end
section
set_option Elab.async false
set_option linter.all false
set_option maxRecDepth 100000
/-! IvLaw: a law's end. -/
namespace Iv
open PySem PySem.Spec PyProof.Rows L2
theorem FnOk.toCX {P : Program} {w : World} {K : PySem.W.Frag} {mg : Str → Option Value} {base : Heap} {CX CX2 : CXT} {k : Nat} {f : Addr} {fd : FuncData} {ps : List Str} {sp : Sp} (F : FnOk P w K mg base CX k f fd ps sp)
    (h : ∀ o H s E e s', CX o H s E e s' → CX2 o H s E e s') : FnOk P w K mg base CX2 k f fd ps sp :=
  ⟨F.len, fun A outer s H args us vs Q E hr he hb hv hs => codeAny_mono (F.run A outer s H args us vs Q E hr he hb hv hs) fun r s' q => by
    cases r with
    | ok fl => cases fl <;> exact q
    | error e => exact h _ _ _ _ _ _ q⟩
theorem rol_of {K : PySem.W.Frag} {H : Hp} {a : Addr} {vs : List V} (ho : Only H) (h : SqL K H a vs) : RolZ K H a vs := by
  rcases h with (h | ⟨o, h⟩) | h
  · rcases ho a with e | ⟨o, xs, e⟩
    · rw [e] at h
      cases h
    · rw [e] at h
      cases h
  · exact .inl ⟨o, h⟩
  · exact .inr h
theorem law_spec {c : Cfg} {K : PySem.W.Frag} {XR : XRel} {n i : Nat} {H : Hp} {a : Addr} {ns : List Int} {st' : Store} (ho : Only H) (hS : SqL K H a (ns.map V.int)) (h : callI c n ⟨0, []⟩ i [.rol (ns.map D.int)] [] = some (.ok (.bl true), st')) :
    spI c K XR n i [.ref a] H (fun v _ => v = .bl true) (fun _ _ _ => False) := by
  refine ⟨⟨0, []⟩, [], [], _, _, st', ⟨rfl, .nil, fun r a o e => by cases e⟩, .cons (.rol (rol_of ho hS) (RDs.ints ns)) .nil, Nat.le_refl _, h, ?_⟩
  intro v H' m' _ _ _ q
  cases q
  rfl
end Iv
end
section
set_option Elab.async false
set_option linter.all false
/-! IvV: the same language by values: lists are values, a name owns its list. -/
namespace Iv
open PySem L2
inductive U where
  | non | bl (b : Bool) | int (i : Int) | str (s : Str) | tup (xs : List U) | rol (xs : List U) | lst (xs : List U)
/-- own: the name alone has this list; mu: the same, but it is the caller's; bor: looked at; frz: no one changes it any more -/
inductive Md where
  | own | mu | bor | frz
abbrev VE := List (Option (U × Md))
structure XU where
  cls : Nat
  args : List U
inductive RV (A : Type) where
  | ok (a : A)
  | ex (x : XU)
abbrev Vs (A : Type) := Option (RV A × VE)
def bndV {A B : Type} (m : Vs A) (f : A → VE → Vs B) : Vs B := match m with
  | some (.ok a, e) => f a e
  | some (.ex x, e) => some (.ex x, e)
  | none => none
def retV {A : Type} (o : Option A) (e : VE) : Vs A := match o with
  | some a => some (.ok a, e)
  | none => none
/-! ### data -/
mutual
def U.pur : U → Bool
  | .lst _ => false
  | .rol _ => false
  | .tup xs => U.purs xs
  | _ => true
def U.purs : List U → Bool
  | [] => true
  | x :: xs => U.pur x && U.purs xs
end
mutual
def U.dep : U → Nat
  | .tup xs => U.deps xs + 1
  | _ => 0
def U.deps : List U → Nat
  | [] => 0
  | x :: xs => max (U.dep x) (U.deps xs)
end
mutual
def U.eqv : U → U → Bool
  | .non, .non => true
  | .bl a, .bl b => a == b
  | .bl a, .int b => (if a then 1 else 0) == b
  | .int a, .bl b => a == (if b then 1 else 0)
  | .int a, .int b => a == b
  | .str a, .str b => a == b
  | .tup xs, .tup ys => U.eqvs xs ys
  | _, _ => false
def U.eqvs : List U → List U → Bool
  | [], [] => true
  | x :: xs, y :: ys => U.eqv x y && U.eqvs xs ys
  | _, _ => false
end
mutual
def U.lay : U → Bool
  | .str s => s.cps.all (· < 1114112)
  | .tup xs => U.lays xs
  | _ => true
def U.lays : List U → Bool
  | [] => true
  | x :: xs => U.lay x && U.lays xs
end
def U.flat : U → Bool
  | .non => true
  | .bl _ => true
  | .int _ => true
  | .str _ => true
  | _ => false
def U.isL : U → Bool
  | .lst _ => true
  | _ => false
def itemsU : U → Option (List U)
  | .tup xs => some xs
  | .rol xs => some xs
  | .lst xs => some xs
  | _ => none
def litemsU : U → Option (List U)
  | .rol xs => some xs
  | .lst xs => some xs
  | _ => none
def intsU : List U → Option (List Int)
  | [] => some []
  | .int i :: r => match intsU r with
    | some l => some (i :: l)
    | none => none
  | _ :: _ => none
def strsU : List U → Option (List Str)
  | [] => some []
  | .str i :: r => match strsU r with
    | some l => some (i :: l)
    | none => none
  | _ :: _ => none
def blsU : List U → Option (List Bool)
  | [] => some []
  | .bl i :: r => match blsU r with
    | some l => some (i :: l)
    | none => none
  | _ :: _ => none
mutual
/-- what a text's constant is -/
def D.up : D → U
  | .non => .non
  | .bl b => .bl b
  | .int i => .int i
  | .str s => .str s
  | .tup xs => .tup (D.ups xs)
  | .rol xs => .rol (D.ups xs)
  | .ref _ => .non
def D.ups : List D → List U
  | [] => []
  | x :: xs => D.up x :: D.ups xs
end
/-! ### the operations -/
def scalU : U → U → Bool
  | .bl _, .int _ => false
  | .int _, .bl _ => false
  | a, b => a.flat && b.flat
def cmpLs (xs ys : List U) : Option Bool := if U.purs xs && U.purs ys && U.lays xs && U.lays ys && decide (min (U.deps xs) (U.deps ys) ≤ 60) then some (U.eqvs xs ys) else none
def eqU (ne : Bool) (a b : U) : Option Bool := match a, b with
  | .lst xs, .lst ys => cmpLs xs ys
  | .tup xs, .tup ys => cmpLs xs ys
  | .tup xs, b => if b.flat && (!ne || (U.purs xs && U.lays xs && b.lay)) then some false else none
  | a, .tup ys => if a.flat && (!ne || (U.purs ys && U.lays ys && a.lay)) then some false else none
  | a, b => if scalU a b then some (U.eqv a b) else none
def inU (x y : U) : Option Bool := match y with
  | .str z => match x with
    | .str c => match c.cps.toList with
      | [k] => some (decide (k ∈ z.cps.toList))
      | _ => none
    | _ => none
  | y => match itemsU y with
    | some ys => if x.flat && ys.all U.flat then some (ys.any fun z => U.eqv z x) else none
    | none => none
def cmpU (o : Cop) (a b : U) : Option Bool := match o with
  | .eq => eqU false a b
  | .ne => (eqU true a b).map (!·)
  | .lt => match a, b with
    | .int i, .int j => some (decide (i < j))
    | _, _ => none
  | .le => match a, b with
    | .int i, .int j => some (decide (i ≤ j))
    | _, _ => none
  | .gt => match a, b with
    | .int i, .int j => some (decide (j < i))
    | _, _ => none
  | .ge => match a, b with
    | .int i, .int j => some (decide (j ≤ i))
    | _, _ => none
  | .is_ => match b with
    | .non => match a with
      | .non => some true
      | _ => some false
    | _ => none
  | .isn => match b with
    | .non => match a with
      | .non => some false
      | _ => some true
    | _ => none
  | .in_ => inU a b
  | .nin => (inU a b).map (!·)
def binU (o : Bop) (a b : U) : Option (U × Bool) := match o with
  | .add => match a, b with
    | .int i, .int j => some (.int (i + j), false)
    | .str x, .str y => if x.length + y.length ≤ 1000000 then some (.str (x ++ y), false) else none
    | .tup xs, .tup ys => if xs.length + ys.length ≤ 1000000 then some (.tup (xs ++ ys), false) else none
    | .lst xs, .lst ys => if xs.length + ys.length ≤ 1000000 then some (.lst (xs ++ ys), true) else none
    | _, _ => none
  | .sub => match a, b with
    | .int i, .int j => some (.int (i - j), false)
    | _, _ => none
  | .mul => match a, b with
    | .int i, .int j => if small64 i || small64 j then some (.int (i * j), false) else none
    | _, _ => none
  | .fdiv => match a, b with
    | .int i, .int j => if decide (0 < j) && decide (j < 1073741824) then some (.int (i / j), false) else none
    | _, _ => none
  | .mod => match a, b with
    | .int i, .int j => if 0 < j then some (.int (i % j), false) else none
    | _, _ => none
  | .pow => match a, b with
    | .int i, .int j => if small64 i && decide (0 ≤ j) && decide (j ≤ 1000000) then some (.int (i ^ j.toNat), false) else none
    | _, _ => none
  | .shl => match a, b with
    | .int i, .int j => if small64 i && decide (0 ≤ j) && decide (j ≤ 1000000) then some (.int (i * 2 ^ j.toNat), false) else none
    | _, _ => none
  | .shr => match a, b with
    | .int i, .int j => if 0 ≤ j then some (.int (i / 2 ^ j.toNat), false) else none
    | _, _ => none
  | .band => match a, b with
    | .int i, .int j => some (.int (Builtin.bitAnd i j), false)
    | _, _ => none
  | .bor => match a, b with
    | .int i, .int j => some (.int (Builtin.bitOr i j), false)
    | _, _ => none
def idxU (a b : U) : Option (U × Bool) := match b with
  | .int i => match a with
    | .str z => if z.length ≤ 1000000 then match atI z.cps.toList i with
        | some c => some (.str (oneSign c), false)
        | none => none
      else none
    | a => match itemsU a with
      | some xs => match atI xs i with
        | some d => some (d, false)
        | none => none
      | none => none
  | _ => none
def partU : List U → Option (Option Int)
  | [] => some none
  | [.int i] => some (some i)
  | _ => none
def slcU (a : U) (l h : Option Int) : Option (U × Bool) := match a with
  | .str z => if z.length ≤ 1000000 then some (.str (cutS z l h), false) else none
  | .tup xs => some (.tup (cut xs l h), false)
  | .lst xs => some (.lst (cut xs l h), true)
  | _ => none
def revU (a : U) : Option (U × Bool) := match a with
  | .lst xs => some (.lst xs.reverse, true)
  | _ => none
def rngU (a b : Int) : List U := (List.range (b - a).toNat).map fun (k : Nat) => U.int (a + (k : Int))
def rangeU : List U → Option (Int × Int)
  | [.int n] => if big62 n then some (0, n) else none
  | [.int a, .int b] => if big62 a && big62 b then some (a, b) else none
  | _ => none
def biU (b : Bi) (as : List U) : Option (U × Bool) := match b with
  | .len => match as with
    | [.str z] => if z.length ≤ 1000000 then some (.int z.length, false) else none
    | [a] => match itemsU a with
      | some xs => some (.int xs.length, false)
      | none => none
    | _ => none
  | .list => match as with
    | [a] => match itemsU a with
      | some xs => some (.lst xs, true)
      | none => none
    | _ => none
  | .tuple => match as with
    | [.tup xs] => some (.tup xs, false)
    | [.lst xs] => some (.tup xs, false)
    | _ => none
  | .sorted => match as with
    | [a] => match litemsU a with
      | some xs => if xs.length < 64 then match strsU xs with
          | some ss => some (.lst ((sortS ss).map U.str), true)
          | none => match intsU xs with
            | some ns => some (.lst ((sortI ns).map U.int), true)
            | none => none
        else none
      | none => none
    | _ => none
  | .max => match as with
    | [.int i, .int j] => some (.int (if j > i then j else i), false)
    | [a] => match litemsU a with
      | some xs => match intsU xs with
        | some ns => match maxI ns with
          | some k => some (.int k, false)
          | none => none
        | none => none
      | none => none
    | _ => none
  | .min => match as with
    | [.int i, .int j] => some (.int (if j < i then j else i), false)
    | [a] => match litemsU a with
      | some xs => match intsU xs with
        | some ns => match minI ns with
          | some k => some (.int k, false)
          | none => none
        | none => none
      | none => none
    | _ => none
  | .abs => match as with
    | [.int i] => some (.int (if i < 0 then -i else i), false)
    | _ => none
  | .int => match as with
    | [.int i] => some (.int i, false)
    | [.bl k] => some (.int (if k then 1 else 0), false)
    | _ => none
  | .str => none
  | .sum => match as with
    | [a] => match litemsU a with
      | some xs => match intsU xs with
        | some ns => some (.int ns.sum, false)
        | none => none
      | none => none
    | _ => none
  | .all => match as with
    | [a] => match litemsU a with
      | some xs => match blsU xs with
        | some ns => some (.bl (ns.all id), false)
        | none => none
      | none => none
    | _ => none
  | .any => match as with
    | [a] => match litemsU a with
      | some xs => match blsU xs with
        | some ns => some (.bl (ns.any id), false)
        | none => none
      | none => none
    | _ => none
def firstU (x : U) : List U → Nat → Option Nat
  | [], _ => none
  | y :: ys, k => if U.eqv y x then some k else firstU x ys (k + 1)
def rcvU (m : Mt) (u : U) : Bool := match m with
  | .index => match u with
    | .lst _ => true
    | .tup _ => true
    | _ => false
  | .join => match u with
    | .str _ => true
    | _ => false
  | _ => false
/-- index and join: nothing is changed -/
def mthU (m : Mt) (o : U) (as : List U) : Option (U × Bool) := match m with
  | .index => match o with
    | .rol _ => none
    | o => match as with
      | [.str x] => match itemsU o with
        | some xs => match strsU xs with
          | some _ => match firstU (.str x) xs 0 with
            | some k => some (.int k, false)
            | none => none
          | none => none
        | none => none
      | _ => none
  | .join => match o, as with
    | .str z, [a] => match itemsU a with
      | some xs => match strsU xs with
        | some ss => if z.length * ss.length + (ss.map Str.length).sum ≤ 1000000 then some (.str (Str.join z ss), false) else none
        | none => none
      | none => none
    | _, _ => none
  | _ => none
def isiU (t : Ty) (d : U) : Option Bool := match t with
  | .tup => match d with
    | .tup _ => some true
    | .rol _ => none
    | _ => some false
  | .str => match d with
    | .str _ => some true
    | .rol _ => none
    | _ => some false
  | .int => match d with
    | .int _ => some true
    | .bl _ => some true
    | .rol _ => none
    | _ => some false
  | .bool => match d with
    | .bl _ => some true
    | .rol _ => none
    | _ => some false
  | .list => match d with
    | .lst _ => some true
    | .rol _ => none
    | _ => some false
def signsU (z : Str) : List U := z.cps.toList.map fun c => U.str (oneSign c)
def srcU (k : Ik) (as : List U) : Option (List U) := match k with
  | .seq => match as with
    | [.tup xs] => some xs
    | [.rol xs] => some xs
    | [.str z] => some (signsU z)
    | [.lst xs] => some xs
    | _ => none
  | .range => match rangeU as with
    | some (a, b) => some (rngU a b)
    | none => none
  | .rrange => match rangeU as with
    | some (a, b) => some (rngU a b).reverse
    | none => none
  | .zip => match as with
    | [.tup xs, .tup ys] => some (List.zipWith (fun x y => U.tup [x, y]) xs ys)
    | _ => none
/-! ### names -/
def putU (env : VE) (i : Nat) (u : U) (md : Md) : VE := env.set i (some (u, md))
def bindLU : List Nat → List U → VE → Option VE
  | [], [], env => some env
  | i :: is, x :: xs, env => bindLU is xs (env.set i (some (x, .frz)))
  | _, _, _ => none
def Tg.bindU (g : Tg) (x : U) (env : VE) : Option VE := match g with
  | .name i => some (env.set i (some (x, .frz)))
  | .tup is => match x with
    | .tup xs => bindLU is xs env
    | _ => none
/-- a name is read: esc, its value is laid somewhere -/
def rdU (esc : Bool) (env : VE) (i : Nat) : Vs (U × Bool) := match env[i]? with
  | some (some (u, md)) => match esc with
    | false => some (.ok (u, false), env)
    | true => match md with
      | .frz => some (.ok (u, false), env)
      | .own => some (.ok (u, false), env.set i (some (u, .frz)))
      | .bor => if u.isL then none else some (.ok (u, false), env)
      | .mu => none
  | _ => none
def Md.may : Md → Bool
  | .own => true
  | .mu => true
  | _ => false
/-- while e's value is held -/
def pinV (e : E) (env : VE) : VE := match e with
  | .var i => match env[i]? with
    | some (some (u, md)) => if md.may then env.set i (some (u, .bor)) else env
    | _ => env
  | _ => env
def unpinV (e : E) (env0 env1 : VE) : VE := match e with
  | .var i => match env0[i]? with
    | some (some (_, md)) => if md.may then match env1[i]? with
        | some (some (u, .bor)) => env1.set i (some (u, md))
        | _ => env1
      else env1
    | _ => env1
  | _ => env1
def unpV {A : Type} (e : E) (env0 : VE) (m : Vs A) : Vs A := match m with
  | some (r, env1) => some (r, unpinV e env0 env1)
  | none => none
def tgOwn (own : List Nat) : Tg → Bool
  | .name i => own.contains i
  | .tup l => l.all own.contains
def wipeV (env : VE) : List Nat → VE
  | [] => env
  | v :: vs => (wipeV env vs).set v none
/-- behind a comprehension: its own names are as ahead of it -/
def safeV : Option (Option (U × Md)) → Option (U × Md)
  | some (some (u, md)) => if md.may then none else some (u, md)
  | _ => none
def backV (env0 : VE) : List Nat → VE → VE
  | [], env1 => env1
  | v :: vs, env1 => (backV env0 vs env1).set v (safeV env0[v]?)
/-- the list that i's name alone has -/
def lstV (env : VE) (i : Nat) : Option (List U × Md) := match env[i]? with
  | some (some (.lst xs, md)) => if md.may then some (xs, md) else none
  | _ => none
/-- flows -/
inductive FV where
  | nx (env : VE)
  | rt (u : U) (fr : Bool) (env : VE)
  | bk (env : VE)
  | ct (env : VE)
  | ex (x : XU) (env : VE)
def sqV (m : Option FV) (f : VE → Option FV) : Option FV := match m with
  | some (.nx e) => f e
  | m => m
def turnV (m : Option FV) (f : VE → Option FV) : Option FV := match m with
  | some (.nx env) => f env
  | some (.ct env) => f env
  | some (.bk env) => some (.nx env)
  | some (.rt u fr env) => some (.rt u fr env)
  | some (.ex x env) => some (.ex x env)
  | none => none
def lftV {A : Type} (m : Vs A) (f : A → VE → Option FV) : Option FV := match m with
  | some (.ok a, e) => f a e
  | some (.ex x, e) => some (.ex x e)
  | none => none
def forV (body : VE → Option FV) (g : Tg) : List U → VE → Option FV
  | [], env => some (.nx env)
  | x :: xs, env => match g.bindU x env with
    | some e1 => turnV (body e1) (forV body g xs)
    | none => none
def whlV (c : VE → Vs (U × Bool)) (body : VE → Option FV) : Nat → VE → Option FV
  | 0, _ => none
  | k + 1, env => lftV (c env) fun d e1 => match d.1 with
    | .bl true => turnV (body e1) (whlV c body k)
    | .bl false => some (.nx e1)
    | _ => none
def FV.mapE (f : VE → VE) : FV → FV
  | .nx env => .nx (f env)
  | .rt u fr env => .rt u fr (f env)
  | .bk env => .bk (f env)
  | .ct env => .ct (f env)
  | .ex x env => .ex x (f env)
def unpinS (e : Es) (env0 env1 : VE) : VE := match e with
  | .cons e .nil => unpinV e env0 env1
  | _ => env1
def unpF (e : Es) (env0 : VE) (m : Option FV) : Option FV := match m with
  | some f => some (f.mapE (unpinS e env0))
  | none => none
def pinS (e : Es) (env : VE) : VE := match e with
  | .cons e .nil => pinV e env
  | _ => env
def unpS {A : Type} (e : Es) (env0 : VE) (m : Vs A) : Vs A := match m with
  | some (r, env1) => some (r, unpinS e env0 env1)
  | none => none
/-- a comprehension's turns -/
def cmpV (f : VE → Vs (Option U)) (g : Tg) : List U → List U → VE → Vs (List U)
  | [], acc, env => some (.ok acc, env)
  | x :: xs, acc, env => match g.bindU x env with
    | some e1 => bndV (f e1) fun od e2 => match od with
      | some y => if acc.length < 1000000 then cmpV f g xs (acc ++ [y]) e2 else none
      | none => cmpV f g xs acc e2
    | none => none
def noEx {A : Type} (m : Vs A) : Vs A := match m with
  | some (.ok a, e) => some (.ok a, e)
  | _ => none
def psOf (c : Cfg) (f : Nat) : List Nat := match c.fns[f]? with
  | some fn => match fn.kind with
    | .raw => []
    | .mut ps => ps
  | none => []
/-- an argument: looked at; a name's list, to be changed; a new list, to be changed and dropped -/
inductive Ag where
  | see (u : U)
  | give (i : Nat)
  | temp (us : List U)
def fillV (env : VE) : List Ag → Option (List U)
  | [] => some []
  | .see u :: r => (fillV env r).map (u :: ·)
  | .give i :: r => match lstV env i with
    | some (xs, _) => (fillV env r).map (.lst xs :: ·)
    | none => none
  | .temp us :: r => (fillV env r).map (.lst us :: ·)
def tellV : List Ag → List (Option Nat)
  | [] => []
  | .see _ :: r => tellV r
  | .give i :: r => some i :: tellV r
  | .temp _ :: r => none :: tellV r
def tellN : List Ag → List Nat
  | [] => []
  | .see _ :: r => tellN r
  | .give i :: r => i :: tellN r
  | .temp _ :: r => tellN r
def posV : Nat → List Ag → List Nat
  | _, [] => []
  | k, .see _ :: r => posV (k + 1) r
  | k, _ :: r => k :: posV (k + 1) r
/-- no list is handed in to be changed and to be looked at as well -/
def apartV (ps T : List Nat) : Nat → Es → Bool
  | _, .nil => true
  | k, .cons e es => (match e with
    | .var i => ps.contains k || !T.contains i
    | _ => true) && apartV ps T (k + 1) es
def giveV (env : VE) : List (Option Nat) → List (List U) → Option VE
  | [], [] => some env
  | some i :: is, o :: os => match env[i]? with
    | some (some (_, md)) => giveV (env.set i (some (.lst o, md))) is os
    | _ => none
  | none :: is, _ :: os => giveV env is os
  | _, _ => none
/-! ### running -/
section
variable (c : Cfg) (cV : Nat → List U → Option (RV (U × Bool) × List (List U)))
mutual
def evV : E → Bool → VE → Vs (U × Bool)
  | .var i, esc, env => rdU esc env i
  | .glb i, _, env => match c.consts[i]? with
    | some d => if d.pur then some (.ok (d.up, false), env) else none
    | none => none
  | .cst d, _, env => if d.pur then some (.ok (d.up, false), env) else none
  | .bin o a b, _, env => bndV (evV a false env) fun x e1 => unpV a e1 (bndV (evV b false (pinV a e1)) fun y e2 => retV (binU o x.1 y.1) e2)
  | .neg a, _, env => bndV (evV a false env) fun x e1 => match x.1 with
    | .int i => some (.ok (.int (-i), false), e1)
    | _ => none
  | .cmp o a b, _, env => bndV (evV a false env) fun x e1 => unpV a e1 (bndV (evV b false (pinV a e1)) fun y e2 => match cmpU o x.1 y.1 with
    | some k => some (.ok (.bl k, false), e2)
    | none => none)
  | .cmp2 o1 o2 a b e, _, env => bndV (evV a false env) fun x e1 => unpV a e1 (bndV (evV b false (pinV a e1)) fun y e2 => match cmpU o1 x.1 y.1 with
    | some true => unpV b e2 (bndV (evV e false (pinV b e2)) fun z e3 => match cmpU o2 y.1 z.1 with
      | some k => some (.ok (.bl k, false), e3)
      | none => none)
    | some false => some (.ok (.bl false, false), e2)
    | none => none)
  | .and es, _, env => evVAnd es env
  | .or es, _, env => evVOr es env
  | .not a, _, env => bndV (evV a false env) fun x e1 => match x.1 with
    | .bl k => some (.ok (.bl (!k), false), e1)
    | _ => none
  | .ife e a b, esc, env => bndV (evV e false env) fun x e1 => match x.1 with
    | .bl true => evV a true e1
    | .bl false => evV b true e1
    | _ => none
  | .tup es, _, env => bndV (evVs es env) fun xs e1 => if xs.length ≤ 1000000 then some (.ok (.tup xs, false), e1) else none
  | .lst es, _, env => bndV (evVs es env) fun xs e1 => if xs.length ≤ 1000000 then some (.ok (.lst xs, true), e1) else none
  | .idx a b, _, env => bndV (evV a false env) fun x e1 => unpV a e1 (bndV (evV b false (pinV a e1)) fun y e2 => retV (idxU x.1 y.1) e2)
  | .slc a lo hi, _, env => bndV (evV a false env) fun x e1 => unpV a e1 (bndV (evVs lo (pinV a e1)) fun l e2 => match partU l with
    | some l => bndV (evVs hi e2) fun h e3 => match partU h with
      | some h => retV (slcU x.1 l h) e3
      | none => none
    | none => none)
  | .rev a, _, env => bndV (evV a false env) fun x e1 => retV (revU x.1) e1
  | .call f es, _, env => bndV (evVa (psOf c f) 0 es env) fun xs e1 => match fillV e1 xs with
    | some us => if decide (tellN xs).Nodup && apartV (psOf c f) (tellN xs) 0 es && decide (posV 0 xs = psOf c f) then match cV f us with
        | some (r, os) => match giveV e1 (tellV xs) os with
          | some e2 => some (r, e2)
          | none => none
        | none => none
      else none
    | none => none
  | .bi b es, _, env => bndV (evVl es env) fun xs e1 => retV (biU b xs) e1
  | .lrg es, _, env => bndV (evVs es env) fun xs e1 => match rangeU xs with
    | some (a, b) => if (b - a).toNat ≤ 1000000 then some (.ok (.lst (rngU a b), true), e1) else none
    | none => none
  | .mth m o es, _, env => match m with
    | .append => match o, es with
      | .var i, .cons e .nil => match lstV env i with
        | some _ => bndV (evV e true env) fun x e1 => match lstV e1 i with
          | some (xs, md) => if xs.length < 1000000 then some (.ok (.non, false), e1.set i (some (.lst (xs ++ [x.1]), md))) else none
          | none => none
        | none => none
      | _, _ => none
    | .extend => match o, es with
      | .var i, .cons e .nil => match lstV env i with
        | some _ => bndV (evV e false env) fun x e1 => match lstV e1 i, x.1 with
          | some (xs, md), .lst ys => if xs.length + ys.length < 1000000 then some (.ok (.non, false), e1.set i (some (.lst (xs ++ ys), md))) else none
          | _, _ => none
        | none => none
      | _, _ => none
    | .pop => match o, es with
      | .var i, .nil => match lstV env i with
        | some (xs, md) => match xs.getLast? with
          | some x => some (.ok (x, false), env.set i (some (.lst xs.dropLast, md)))
          | none => none
        | none => none
      | _, _ => none
    | m => bndV (evV o false env) fun x e1 => if !rcvU m x.1 then none else unpV o e1 (bndV (evVl es (pinV o e1)) fun xs e2 => retV (mthU m x.1 xs) e2)
  | .isi e t, _, env => bndV (evV e false env) fun x e1 => match isiU t x.1 with
    | some k => some (.ok (.bl k, false), e1)
    | none => none
  | .comp g k es cs e own, _, env => bndV (evVl es env) fun xs e1 => match srcU k xs with
    | some us => if !tgOwn own g then none else bndV (unpS es e1 (noEx (cmpV (fun e2 => match cs with
        | .nil => bndV (evV e true e2) fun d e3 => some (.ok (some d.1), e3)
        | .cons t .nil => bndV (evV t false e2) fun k e3 => match k.1 with
          | .bl true => bndV (evV e true e3) fun d e4 => some (.ok (some d.1), e4)
          | .bl false => some (.ok none, e3)
          | _ => none
        | _ => none) g us [] (wipeV (pinS es e1) own)))) fun ys e2 => some (.ok (.lst ys, true), backV e1 own e2)
    | none => none
def evVs : Es → VE → Vs (List U)
  | .nil, env => some (.ok [], env)
  | .cons e es, env => bndV (evV e true env) fun x e1 => bndV (evVs es e1) fun xs e2 => some (.ok (x.1 :: xs), e2)
/-- arguments that are looked at -/
def evVl : Es → VE → Vs (List U)
  | .nil, env => some (.ok [], env)
  | .cons e es, env => bndV (evV e false env) fun x e1 => unpV e e1 (bndV (evVl es (pinV e e1)) fun xs e2 => some (.ok (x.1 :: xs), e2))
/-- arguments that are looked at, and those that are changed -/
def evVa (ps : List Nat) : Nat → Es → VE → Vs (List Ag)
  | _, .nil, env => some (.ok [], env)
  | k, .cons e es, env => match ps.contains k with
    | true => match e with
      | .var i => match lstV env i with
        | some _ => bndV (evVa ps (k + 1) es env) fun xs e2 => some (.ok (.give i :: xs), e2)
        | none => none
      | e => bndV (evV e true env) fun x e1 => match x.1, x.2 with
        | .lst us, true => bndV (evVa ps (k + 1) es e1) fun xs e2 => some (.ok (.temp us :: xs), e2)
        | _, _ => none
    | false => bndV (evV e false env) fun x e1 => unpV e e1 (bndV (evVa ps (k + 1) es (pinV e e1)) fun xs e2 => some (.ok (.see x.1 :: xs), e2))
def evVAnd : Es → VE → Vs (U × Bool)
  | .nil, _ => none
  | .cons e .nil, env => evV e true env
  | .cons e es, env => bndV (evV e false env) fun x e1 => match x.1 with
    | .bl true => evVAnd es e1
    | .bl false => some (.ok (.bl false, false), e1)
    | _ => none
def evVOr : Es → VE → Vs (U × Bool)
  | .nil, _ => none
  | .cons e .nil, env => evV e true env
  | .cons e es, env => bndV (evV e false env) fun x e1 => match x.1 with
    | .bl false => evVOr es e1
    | .bl true => some (.ok (.bl true, false), e1)
    | _ => none
end
mutual
def exV : S → VE → Option FV
  | .set i e, env => lftV (evV c cV e true env) fun u e1 => some (.nx (e1.set i (some (u.1, if u.2 then .own else .frz))))
  | .setT l e, env => lftV (evV c cV e true env) fun u e1 => match (Tg.tup l).bindU u.1 e1 with
    | some e2 => some (.nx e2)
    | none => none
  | .par _ _ _ _, _ => none
  | .setI o i e, env => match o with
    | .var j => lftV (evV c cV e true env) fun v e1 => match lstV e1 j with
      | some _ => lftV (evV c cV i false e1) fun y e2 => match lstV e2 j, y.1 with
        | some (xs, md), .int k => match ixN xs.length k with
          | some p => some (.nx (e2.set j (some (.lst (xs.set p v.1), md))))
          | none => none
        | _, _ => none
      | none => none
    | _ => none
  | .ife e a b, env => lftV (evV c cV e false env) fun d e1 => match d.1 with
    | .bl true => exVs a e1
    | .bl false => exVs b e1
    | _ => none
  | .forS g k es b, env => lftV (evVl c cV es env) fun xs e1 => match srcU k xs with
    | some us => unpF es e1 (forV (exVs b) g us (pinS es e1))
    | none => none
  | .whl e b, env => whlV (evV c cV e false) (exVs b) c.wf env
  | .ret e, env => match e with
    | .var i => match env[i]? with
      | some (some (u, .own)) => some (.rt u true (env.set i none))
      | some (some (u, .frz)) => some (.rt u false env)
      | some (some (u, .bor)) => if u.isL then none else some (.rt u false env)
      | _ => none
    | e => lftV (evV c cV e true env) fun u e1 => some (.rt u.1 u.2 e1)
  | .retN, env => some (.rt .non false env)
  | .expr e, env => lftV (evV c cV e false env) fun _ e1 => some (.nx e1)
  | .brk, env => some (.bk env)
  | .cont, env => some (.ct env)
  | .pass, env => some (.nx env)
def exVs : Ss → VE → Option FV
  | .nil, env => some (.nx env)
  | .cons s ss, env => sqV (exV s env) (exVs ss)
end
end
/-- the values that the callee has changed -/
def outsV (env : VE) : List Nat → Option (List (List U))
  | [] => some []
  | p :: ps => match env[p]? with
    | some (some (.lst xs, .mu)) => if U.purs xs then (outsV env ps).map (xs :: ·) else none
    | _ => none
def endV (ps : List Nat) (raw : Bool) : Option FV → Option (RV (U × Bool) × List (List U))
  | some (.nx env) => (outsV env ps).map fun os => (.ok (.non, false), os)
  | some (.rt u fr env) => match raw with
    | true => (outsV env ps).map fun os => (.ok (u, fr), os)
    | false => if u.pur then (outsV env ps).map fun os => (.ok (u, false), os) else match u, fr with
      | .lst xs, true => if U.purs xs then (outsV env ps).map fun os => (.ok (.lst xs, true), os) else none
      | _, _ => none
  | some (.ex x env) => if U.purs x.args then (outsV env ps).map fun os => (.ex x, os) else none
  | _ => none
def argsV (ps : List Nat) : Nat → List U → VE
  | _, [] => []
  | k, u :: us => some (u, if ps.contains k then .mu else .bor) :: argsV ps (k + 1) us
def envV (ps : List Nat) (fn : Fn) (us : List U) : VE := argsV ps 0 us ++ List.replicate (fn.nl - fn.np) none
def callV (c : Cfg) : Nat → Nat → List U → Option (RV (U × Bool) × List (List U))
  | 0, _, _ => none
  | n + 1, f, us => match c.fns[f]? with
    | none => none
    | some fn => if us.length = fn.np then match fn.kind with
        | .raw => endV [] true (exVs c (callV c n) fn.body (envV [] fn us))
        | .mut ps => endV ps false (exVs c (callV c n) fn.body (envV ps fn us))
      else none
end Iv
end
section
set_option Elab.async false
set_option linter.all false
set_option maxRecDepth 100000
/-! IvVr: values by the store; the operations agree. -/
namespace Iv
open PySem L2
mutual
/-- a datum stands for a value; its lists are frozen -/
inductive Rep (F : Nat → Prop) (st : Store) : D → U → Prop
  | non : Rep F st .non .non
  | bl (b : Bool) : Rep F st (.bl b) (.bl b)
  | int (i : Int) : Rep F st (.int i) (.int i)
  | str (s : Str) : Rep F st (.str s) (.str s)
  | tup {xs : List D} {us : List U} : Reps F st xs us → Rep F st (.tup xs) (.tup us)
  | rol {xs : List D} {us : List U} : Reps F st xs us → Rep F st (.rol xs) (.rol us)
  | ref {r : Nat} {xs : List D} {us : List U} : F r → lstAt st r = some xs → Reps F st xs us → Rep F st (.ref r) (.lst us)
inductive Reps (F : Nat → Prop) (st : Store) : List D → List U → Prop
  | nil : Reps F st [] []
  | cons {d : D} {u : U} {ds : List D} {us : List U} : Rep F st d u → Reps F st ds us → Reps F st (d :: ds) (u :: us)
end
section
variable {F F' : Nat → Prop} {st st' : Store}
mutual
theorem Rep.mono (h : ∀ r, F r → F' r) (k : ∀ r, F r → lstAt st' r = lstAt st r) : ∀ {d : D} {u : U}, Rep F st d u → Rep F' st' d u
  | _, _, .non => .non
  | _, _, .bl b => .bl b
  | _, _, .int i => .int i
  | _, _, .str s => .str s
  | _, _, .tup r => .tup (Reps.mono h k r)
  | _, _, .rol r => .rol (Reps.mono h k r)
  | _, _, .ref f l r => .ref (h _ f) ((k _ f).trans l) (Reps.mono h k r)
theorem Reps.mono (h : ∀ r, F r → F' r) (k : ∀ r, F r → lstAt st' r = lstAt st r) : ∀ {d : List D} {u : List U}, Reps F st d u → Reps F' st' d u
  | _, _, .nil => .nil
  | _, _, .cons a b => .cons (Rep.mono h k a) (Reps.mono h k b)
end
theorem Reps.length : ∀ {xs : List D} {us : List U}, Reps F st xs us → xs.length = us.length
  | _, _, .nil => rfl
  | _, _, .cons _ t => congrArg (· + 1) t.length
theorem Reps.append : ∀ {xs ys : List D} {us vs : List U}, Reps F st xs us → Reps F st ys vs → Reps F st (xs ++ ys) (us ++ vs)
  | _, _, _, _, .nil, h => h
  | _, _, _, _, .cons a t, h => .cons a (t.append h)
theorem Reps.get : ∀ {xs : List D} {us : List U} {i : Nat} {u : U}, Reps F st xs us → us[i]? = some u → ∃ d, xs[i]? = some d ∧ Rep F st d u
  | _, _, _, _, .nil, h => by cases h
  | _, _, 0, _, .cons a t, h => by
    cases h
    exact ⟨_, rfl, a⟩
  | _, _, i + 1, _, .cons a t, h => t.get (i := i) h
theorem Reps.none : ∀ {xs : List D} {us : List U} {i : Nat}, Reps F st xs us → us[i]? = none → xs[i]? = none := by
  intro xs us i r h
  rw [List.getElem?_eq_none_iff] at h ⊢
  rw [r.length]
  exact h
theorem Reps.take : ∀ {xs : List D} {us : List U} (n : Nat), Reps F st xs us → Reps F st (xs.take n) (us.take n)
  | _, _, 0, _ => .nil
  | _, _, _ + 1, .nil => .nil
  | _, _, n + 1, .cons a t => .cons a (t.take n)
theorem Reps.drop : ∀ {xs : List D} {us : List U} (n : Nat), Reps F st xs us → Reps F st (xs.drop n) (us.drop n)
  | _, _, 0, h => h
  | _, _, _ + 1, .nil => .nil
  | _, _, n + 1, .cons a t => t.drop n
theorem Reps.set : ∀ {xs : List D} {us : List U} {d : D} {u : U} (n : Nat), Reps F st xs us → Rep F st d u → Reps F st (xs.set n d) (us.set n u)
  | _, _, _, _, _, .nil, _ => .nil
  | _, _, _, _, 0, .cons a t, h => .cons h t
  | _, _, _, _, n + 1, .cons a t, h => .cons a (t.set n h)
theorem Reps.reverse : ∀ {xs : List D} {us : List U}, Reps F st xs us → Reps F st xs.reverse us.reverse
  | _, _, .nil => .nil
  | _, _, .cons a t => by
    rw [List.reverse_cons, List.reverse_cons]
    exact t.reverse.append (.cons a .nil)
theorem Reps.dropLast {xs : List D} {us : List U} (r : Reps F st xs us) : Reps F st xs.dropLast us.dropLast := by
  rw [List.dropLast_eq_take, List.dropLast_eq_take, r.length]
  exact r.take _
theorem Reps.ints : ∀ ns : List Int, Reps F st (ns.map D.int) (ns.map U.int)
  | [] => .nil
  | n :: ns => .cons (.int n) (Reps.ints ns)
theorem Reps.strs : ∀ ns : List Str, Reps F st (ns.map D.str) (ns.map U.str)
  | [] => .nil
  | n :: ns => .cons (.str n) (Reps.strs ns)
theorem Reps.intsD : ∀ {xs : List D} {us : List U}, Reps F st xs us → ints? xs = intsU us
  | _, _, .nil => rfl
  | _, _, .cons a t => by
    cases a <;> first | rfl | (unfold ints? intsU; rw [t.intsD]; done) | (unfold ints? intsU; rw [t.intsD]; rfl)
theorem Reps.strsD : ∀ {xs : List D} {us : List U}, Reps F st xs us → strs? xs = strsU us
  | _, _, .nil => rfl
  | _, _, .cons a t => by
    cases a <;> first | rfl | (unfold strs? strsU; rw [t.strsD]; done) | (unfold strs? strsU; rw [t.strsD]; rfl)
theorem Reps.blsD : ∀ {xs : List D} {us : List U}, Reps F st xs us → bls? xs = blsU us
  | _, _, .nil => rfl
  | _, _, .cons a t => by
    cases a <;> first | rfl | (unfold bls? blsU; rw [t.blsD]; done) | (unfold bls? blsU; rw [t.blsD]; rfl)
theorem Reps.partD {xs : List D} {us : List U} (r : Reps F st xs us) : part? xs = partU us := by
  cases r with
  | nil => rfl
  | cons a t =>
    cases t with
    | nil => cases a <;> rfl
    | cons b t => cases a <;> rfl
theorem Reps.rangeD {xs : List D} {us : List U} (r : Reps F st xs us) : range? xs = rangeU us := by
  cases r with
  | nil => rfl
  | cons a t =>
    cases t with
    | nil => cases a <;> rfl
    | cons b t =>
      cases t with
      | nil => cases a <;> cases b <;> rfl
      | cons _ _ => cases a <;> cases b <;> rfl
theorem Reps.rng (a b : Int) : Reps F st (rngD a b) (rngU a b) := by
  unfold rngD rngU
  have : ∀ l : List Nat, Reps F st (l.map fun (k : Nat) => D.int (a + (k : Int))) (l.map fun (k : Nat) => U.int (a + (k : Int))) := by
    intro l
    induction l with
    | nil => exact .nil
    | cons x l ih => exact .cons (.int _) ih
  exact this _
theorem Reps.signs (z : Str) : Reps F st (signs z) (signsU z) := by
  unfold Iv.signs signsU
  have : ∀ l : List Nat, Reps F st (l.map fun c => D.str (oneSign c)) (l.map fun c => U.str (oneSign c)) := by
    intro l
    induction l with
    | nil => exact .nil
    | cons x l ih => exact .cons (.str _) ih
  exact this _
theorem Reps.zip2 : ∀ {xs ys : List D} {us vs : List U}, Reps F st xs us → Reps F st ys vs → Reps F st (List.zipWith (fun x y => D.tup [x, y]) xs ys) (List.zipWith (fun x y => U.tup [x, y]) us vs)
  | _, _, _, _, .nil, _ => by rw [List.zipWith_nil_left, List.zipWith_nil_left]; exact .nil
  | _, _, _, _, .cons _ _, .nil => .nil
  | _, _, _, _, .cons a t, .cons b s => .cons (.tup (.cons a (.cons b .nil))) (t.zip2 s)
/-! pure data -/
mutual
theorem Rep.pure : ∀ {d : D} {u : U}, Rep F st d u → u.pur = true → d.pur = true ∧ d.up = u ∧ d.lay = u.lay ∧ d.dep = u.dep
  | _, _, .non, _ => ⟨rfl, rfl, rfl, rfl⟩
  | _, _, .bl _, _ => ⟨rfl, rfl, rfl, rfl⟩
  | _, _, .int _, _ => ⟨rfl, rfl, rfl, rfl⟩
  | _, _, .str _, _ => ⟨rfl, rfl, rfl, rfl⟩
  | _, _, .tup r, h => by
    obtain ⟨h1, h2, h3, h4⟩ := r.pure h
    exact ⟨h1, congrArg U.tup h2, h3, congrArg (· + 1) h4⟩
  | _, _, .rol _, h => by cases h
  | _, _, .ref _ _ _, h => by cases h
theorem Reps.pure : ∀ {d : List D} {u : List U}, Reps F st d u → U.purs u = true → D.purs d = true ∧ D.ups d = u ∧ D.lays d = U.lays u ∧ D.deps d = U.deps u
  | _, _, .nil, _ => ⟨rfl, rfl, rfl, rfl⟩
  | _, _, .cons a t, h => by
    obtain ⟨h1, h2⟩ := Bool.and_eq_true_iff.mp (show (_ && _) = true from h)
    obtain ⟨a1, a2, a3, a4⟩ := a.pure h1
    obtain ⟨t1, t2, t3, t4⟩ := t.pure h2
    refine ⟨?_, ?_, ?_, ?_⟩
    · show (_ && _) = true
      rw [a1, t1]
      rfl
    · show _ :: _ = _
      rw [a2, t2]
    · show (_ && _) = (_ && _)
      rw [a3, t3]
    · show max _ _ = max _ _
      rw [a4, t4]
end
mutual
theorem Rep.up : ∀ {d : D}, d.pur = true → Rep F st d d.up
  | .non, _ => .non
  | .bl b, _ => .bl b
  | .int i, _ => .int i
  | .str s, _ => .str s
  | .tup xs, h => .tup (Reps.up h)
  | .rol xs, h => by cases h
  | .ref _, h => by cases h
theorem Reps.up : ∀ {d : List D}, D.purs d = true → Reps F st d (D.ups d)
  | [], _ => .nil
  | x :: xs, h => by
    obtain ⟨h1, h2⟩ := Bool.and_eq_true_iff.mp (show (_ && _) = true from h)
    exact .cons (Rep.up h1) (Reps.up h2)
end
mutual
theorem D.pur_lo (n : Nat) : ∀ {d : D}, d.pur = true → d.lo n = true
  | .non, _ => rfl
  | .bl _, _ => rfl
  | .int _, _ => rfl
  | .str _, _ => rfl
  | .tup xs, h => D.purs_los n (d := xs) h
  | .rol _, h => by cases h
  | .ref _, h => by cases h
theorem D.purs_los (n : Nat) : ∀ {d : List D}, D.purs d = true → D.los n d = true
  | [], _ => rfl
  | x :: xs, h => by
    obtain ⟨h1, h2⟩ := Bool.and_eq_true_iff.mp (show (_ && _) = true from h)
    show (_ && _) = true
    rw [D.pur_lo n h1, D.purs_los n h2]
    rfl
end
mutual
theorem U.up_eqv : ∀ (a b : D), a.pur = true → b.pur = true → U.eqv a.up b.up = D.eqv a b
  | .tup xs, .tup ys, h1, h2 => U.ups_eqv xs ys h1 h2
  | .non, .non, _, _ | .non, .bl _, _, _ | .non, .int _, _, _ | .non, .str _, _, _ | .non, .tup _, _, _ => rfl
  | .bl _, .non, _, _ | .bl _, .bl _, _, _ | .bl _, .int _, _, _ | .bl _, .str _, _, _ | .bl _, .tup _, _, _ => rfl
  | .int _, .non, _, _ | .int _, .bl _, _, _ | .int _, .int _, _, _ | .int _, .str _, _, _ | .int _, .tup _, _, _ => rfl
  | .str _, .non, _, _ | .str _, .bl _, _, _ | .str _, .int _, _, _ | .str _, .str _, _, _ | .str _, .tup _, _, _ => rfl
  | .tup _, .non, _, _ | .tup _, .bl _, _, _ | .tup _, .int _, _, _ | .tup _, .str _, _, _ => rfl
  | .rol _, _, h, _ => by cases h
  | .ref _, _, h, _ => by cases h
  | .non, .rol _, _, h | .bl _, .rol _, _, h | .int _, .rol _, _, h | .str _, .rol _, _, h | .tup _, .rol _, _, h => by cases h
  | .non, .ref _, _, h | .bl _, .ref _, _, h | .int _, .ref _, _, h | .str _, .ref _, _, h | .tup _, .ref _, _, h => by cases h
theorem U.ups_eqv : ∀ (a b : List D), D.purs a = true → D.purs b = true → U.eqvs (D.ups a) (D.ups b) = D.eqvs a b
  | [], [], _, _ => rfl
  | [], _ :: _, _, _ => rfl
  | _ :: _, [], _, _ => rfl
  | x :: xs, y :: ys, h1, h2 => by
    obtain ⟨a1, a2⟩ := Bool.and_eq_true_iff.mp (show (_ && _) = true from h1)
    obtain ⟨b1, b2⟩ := Bool.and_eq_true_iff.mp (show (_ && _) = true from h2)
    show (_ && _) = (_ && _)
    rw [U.up_eqv x y a1 b1, U.ups_eqv xs ys a2 b2]
end
/-! a value just read: its list may be anyone's -/
inductive Rp (F : Nat → Prop) (st : Store) : D → U → Prop
  | ok {d : D} {u : U} : Rep F st d u → Rp F st d u
  | ref {r : Nat} {xs : List D} {us : List U} : lstAt st r = some xs → Reps F st xs us → Rp F st (.ref r) (.lst us)
theorem Rp.lst {d : D} {us : List U} (h : Rp F st d (.lst us)) : ∃ r xs, d = .ref r ∧ lstAt st r = some xs ∧ Reps F st xs us := by
  cases h with
  | ok h =>
    cases h with
    | ref f l r => exact ⟨_, _, rfl, l, r⟩
  | ref l r => exact ⟨_, _, rfl, l, r⟩
theorem Rp.rep {d : D} {u : U} (h : Rp F st d u) (hu : u.isL = false) : Rep F st d u := by
  cases h with
  | ok h => exact h
  | ref _ _ => cases hu
theorem Rp.items {d : D} {u : U} {us : List U} (h : Rp F st d u) (e : itemsU u = some us) : ∃ xs, items st d = some xs ∧ Reps F st xs us := by
  cases u with
  | tup vs =>
    cases e
    cases h.rep rfl with
    | tup r => exact ⟨_, rfl, r⟩
  | rol vs =>
    cases e
    cases h.rep rfl with
    | rol r => exact ⟨_, rfl, r⟩
  | lst vs =>
    cases e
    obtain ⟨r, xs, rfl, l, q⟩ := h.lst
    refine ⟨xs, ?_, q⟩
    unfold Iv.items
    rw [lstAt] at l
    split at l
    · rename_i zs hz
      cases l
      dsimp only
      rw [hz]
    · cases l
  | _ => cases e
theorem Rp.litems {d : D} {u : U} {us : List U} (h : Rp F st d u) (e : litemsU u = some us) : ∃ xs, litems st d = some xs ∧ Reps F st xs us := by
  cases u with
  | rol vs =>
    cases e
    cases h.rep rfl with
    | rol r => exact ⟨_, rfl, r⟩
  | lst vs =>
    cases e
    obtain ⟨r, xs, rfl, l, q⟩ := h.lst
    exact ⟨xs, l, q⟩
  | _ => cases e
theorem Rep.flat {d : D} {u : U} (h : Rep F st d u) : d.flat = u.flat := by
  cases h <;> rfl
theorem Rep.eqv_flat {a b : D} {u v : U} (h : Rep F st a u) (k : Rep F st b v) (hf : u.flat = true ∨ v.flat = true) : D.eqv a b = U.eqv u v := by
  cases h <;> cases k <;> first | rfl | (rcases hf with z | z <;> cases z)
inductive Rps (F : Nat → Prop) (st : Store) : List D → List U → Prop
  | nil : Rps F st [] []
  | cons {d : D} {u : U} {ds : List D} {us : List U} : Rp F st d u → Rps F st ds us → Rps F st (d :: ds) (u :: us)
/-- what an operation does: a value, the store as it is; or a new list -/
def OpS (F : Nat → Prop) (st : Store) (m : Rs D) (z : U) (fr : Bool) : Prop :=
  (fr = false ∧ ∃ d, m = some (.ok d, st) ∧ Rep F st d z) ∨ (fr = true ∧ ∃ xs zs, m = newL st xs ∧ z = .lst zs ∧ Reps F st xs zs)
theorem OpS.v {m : Rs D} {d : D} {z : U} (e : m = some (.ok d, st)) (h : Rep F st d z) : OpS F st m z false := .inl ⟨rfl, d, e, h⟩
theorem OpS.l {m : Rs D} {xs : List D} {zs : List U} (e : m = newL st xs) (h : Reps F st xs zs) : OpS F st m (.lst zs) true := .inr ⟨rfl, xs, zs, e, rfl, h⟩
end
section
variable {F : Nat → Prop} {st : Store}
theorem scal_sim {a b : D} {u v : U} (h : Rep F st a u) (k : Rep F st b v) : scalD a b = scalU u v := by
  cases h <;> cases k <;> rfl
theorem rat_sim {xs ys : List D} {us vs : List U} {k : Bool} (h : Reps F st xs us) (g : Reps F st ys vs) (e : cmpLs us vs = some k) :
    (if D.purs xs && D.purs ys && D.lays xs && D.lays ys && decide (min (D.deps xs) (D.deps ys) ≤ 60) then some (D.eqvs xs ys) else none) = some k := by
  unfold cmpLs at e
  split at e
  · rename_i c
    have c' := c
    simp only [Bool.and_eq_true] at c'
    obtain ⟨⟨⟨⟨c1, c2⟩, c3⟩, c4⟩, c5⟩ := c'
    obtain ⟨a1, a2, a3, a4⟩ := h.pure c1
    obtain ⟨b1, b2, b3, b4⟩ := g.pure c2
    rw [a1, b1, a3, b3, a4, b4, c3, c4, c5]
    cases e
    rw [← a2, ← b2, U.ups_eqv xs ys a1 b1]
    rfl
  · cases e
theorem eq_sim {ne : Bool} {a b : D} {u v : U} {k : Bool} (h : Rp F st a u) (g : Rp F st b v) (e : eqU ne u v = some k) : eqS ne st a b = some k := by
  cases u with
  | lst us =>
    cases v with
    | lst vs =>
      obtain ⟨r, xs, rfl, l1, q1⟩ := h.lst
      obtain ⟨s, ys, rfl, l2, q2⟩ := g.lst
      have e' : cmpLs us vs = some k := e
      unfold eqS
      dsimp only
      rw [l1, l2]
      exact rat_sim q1 q2 e'
    | tup vs => cases e
    | _ => cases e
  | tup us =>
    have hh := h.rep rfl
    cases hh with
    | @tup xs _ q1 =>
      cases v with
      | tup vs =>
        have gg := g.rep rfl
        cases gg with
        | @tup ys _ q2 => exact rat_sim q1 q2 e
      | lst vs => cases e
      | rol vs => cases e
      | _ =>
        have gg := g.rep rfl
        simp only [eqU] at e
        split at e
        · rename_i c
          cases e
          cases gg
          all_goals
            simp only [eqS]
            cases ne with
            | false => rfl
            | true =>
              simp only [U.flat, Bool.not_true, Bool.false_or, Bool.true_and, Bool.and_eq_true] at c
              obtain ⟨⟨c1, c2⟩, c3⟩ := c
              obtain ⟨a1, a2, a3, a4⟩ := q1.pure c1
              rw [a1, a3, c2]
              first | rfl | exact if_pos c3
        · cases e
  | rol us =>
    cases v <;> first | cases e | skip
  | _ =>
    have hh := h.rep rfl
    cases v with
    | tup vs =>
      have gg := g.rep rfl
      cases gg with
      | @tup ys _ q2 =>
        simp only [eqU] at e
        split at e
        · rename_i c
          cases e
          cases hh
          all_goals
            simp only [eqS]
            cases ne with
            | false => rfl
            | true =>
              simp only [U.flat, Bool.not_true, Bool.false_or, Bool.true_and, Bool.and_eq_true] at c
              obtain ⟨⟨c1, c2⟩, c3⟩ := c
              obtain ⟨a1, a2, a3, a4⟩ := q2.pure c1
              rw [a1, a3, c2]
              first | rfl | exact if_pos c3
        · cases e
    | lst vs => cases hh <;> cases e
    | rol vs => cases hh <;> cases e
    | _ =>
      have gg := g.rep rfl
      cases hh <;> cases gg <;> exact e
theorem any_sim {x : D} {u : U} (hx : Rep F st x u) (hf : u.flat = true) : ∀ {ys : List D} {vs : List U}, Reps F st ys vs → vs.all U.flat = true → ys.all D.flat = true ∧ (ys.any fun z => D.eqv z x) = (vs.any fun z => U.eqv z u)
  | _, _, .nil, _ => ⟨rfl, rfl⟩
  | _, _, .cons a t, h => by
    rw [List.all_cons] at h
    obtain ⟨h1, h2⟩ := Bool.and_eq_true_iff.mp h
    obtain ⟨k1, k2⟩ := any_sim hx hf t h2
    rw [List.all_cons, List.any_cons, List.any_cons, k1, k2, a.flat, h1, a.eqv_flat hx (.inr hf)]
    exact ⟨rfl, rfl⟩
theorem in_sim {a b : D} {u v : U} {k : Bool} (h : Rp F st a u) (g : Rp F st b v) (e : inU u v = some k) : inS st a b = some k := by
  have gen : ∀ {vs}, itemsU v = some vs → (∀ z, v ≠ .str z) → inU u v = some k → inS st a b = some k := fun {vs} hi hn e => by
    obtain ⟨ys, e1, q⟩ := g.items hi
    have e' : (if u.flat && vs.all U.flat then some (vs.any fun z => U.eqv z u) else none) = some k := by
      unfold inU at e
      split at e
      · exact absurd rfl (hn _)
      · rw [hi] at e
        exact e
    split at e'
    · rename_i c
      obtain ⟨c1, c2⟩ := Bool.and_eq_true_iff.mp c
      have hu : u.isL = false := by cases u <;> first | rfl | cases c1
      have hh := h.rep hu
      obtain ⟨k1, k2⟩ := any_sim hh c1 q c2
      cases e'
      have hb : inS st a b = match items st b with
          | some ys => if a.flat && ys.all D.flat then some (ys.any fun z => D.eqv z a) else none
          | none => none := by
        unfold inS
        split
        · rename_i z
          cases e1
        · rfl
      rw [hb, e1]
      dsimp only
      rw [hh.flat, c1, k1, k2]
      rfl
    · cases e'
  cases v with
  | str z =>
    cases g.rep rfl
    cases u with
    | str c =>
      cases h.rep rfl
      exact e
    | _ => cases e
  | tup vs => exact gen rfl (fun _ z => by cases z) e
  | rol vs => exact gen rfl (fun _ z => by cases z) e
  | lst vs => exact gen rfl (fun _ z => by cases z) e
  | _ => cases e
theorem cmp_sim {o : Cop} {a b : D} {u v : U} {k : Bool} (h : Rp F st a u) (g : Rp F st b v) (e : cmpU o u v = some k) : cmpD o st a b = some k := by
  cases o with
  | eq => exact eq_sim h g e
  | ne =>
    unfold cmpU at e
    obtain ⟨q, e1, e2⟩ := Option.map_eq_some_iff.mp e
    unfold cmpD
    rw [eq_sim h g e1, ← e2]
    rfl
  | in_ => exact in_sim h g e
  | nin =>
    unfold cmpU at e
    obtain ⟨q, e1, e2⟩ := Option.map_eq_some_iff.mp e
    unfold cmpD
    rw [in_sim h g e1, ← e2]
    rfl
  | is_ =>
    cases v <;> first | (cases e; done) | skip
    cases g.rep rfl
    cases u with
    | lst us =>
      obtain ⟨r, xs, rfl, l1, q1⟩ := h.lst
      exact e
    | _ => cases h.rep rfl <;> exact e
  | isn =>
    cases v <;> first | (cases e; done) | skip
    cases g.rep rfl
    cases u with
    | lst us =>
      obtain ⟨r, xs, rfl, l1, q1⟩ := h.lst
      exact e
    | _ => cases h.rep rfl <;> exact e
  | lt =>
    cases u <;> first | (cases e; done) | skip
    cases v <;> first | (cases e; done) | skip
    cases h.rep rfl
    cases g.rep rfl
    exact e
  | le =>
    cases u <;> first | (cases e; done) | skip
    cases v <;> first | (cases e; done) | skip
    cases h.rep rfl
    cases g.rep rfl
    exact e
  | gt =>
    cases u <;> first | (cases e; done) | skip
    cases v <;> first | (cases e; done) | skip
    cases h.rep rfl
    cases g.rep rfl
    exact e
  | ge =>
    cases u <;> first | (cases e; done) | skip
    cases v <;> first | (cases e; done) | skip
    cases h.rep rfl
    cases g.rep rfl
    exact e
theorem bin_sim {o : Bop} {a b : D} {u v z : U} {fr : Bool} (h : Rp F st a u) (g : Rp F st b v) (e : binU o u v = some (z, fr)) : OpS F st (binD o a b st) z fr := by
  cases o with
  | add =>
    cases u <;> first | (cases e; done) | skip
    · cases v <;> first | (cases e; done) | skip
      cases h.rep rfl
      cases g.rep rfl
      cases e
      exact .v rfl (.int _)
    · cases v <;> first | (cases e; done) | skip
      cases h.rep rfl
      cases g.rep rfl
      simp only [binU] at e
      split at e
      · rename_i c
        cases e
        exact .v (by simp only [binD]; rw [if_pos c]) (.str _)
      · cases e
    · cases v <;> first | (cases e; done) | skip
      cases h.rep rfl with
      | tup r1 =>
        cases g.rep rfl with
        | tup r2 =>
          simp only [binU] at e
          split at e
          · rename_i c
            cases e
            exact .v (by simp only [binD]; rw [if_pos (by rw [r1.length, r2.length]; exact c)]) (.tup (r1.append r2))
          · cases e
    · cases v <;> first | (cases e; done) | skip
      obtain ⟨r, xs, rfl, l1, q1⟩ := h.lst
      obtain ⟨s, ys, rfl, l2, q2⟩ := g.lst
      simp only [binU] at e
      split at e
      · rename_i c
        cases e
        exact .l (by simp only [binD, l1, l2]; rw [if_pos (by rw [q1.length, q2.length]; exact c)]) (q1.append q2)
      · cases e
  | _ =>
    cases u <;> first | (cases e; done) | skip
    cases v <;> first | (cases e; done) | skip
    cases h.rep rfl
    cases g.rep rfl
    simp only [binU] at e
    first
      | (cases e; exact .v rfl (.int _))
      | (split at e
         · rename_i c
           cases e
           exact .v (by simp only [binD]; rw [if_pos c]) (.int _)
         · cases e)
theorem idx_sim {a b : D} {u v z : U} {fr : Bool} (h : Rp F st a u) (g : Rp F st b v) (e : idxU u v = some (z, fr)) : OpS F st (idxD a b st) z fr := by
  cases v <;> first | (cases e; done) | skip
  rename_i i
  cases g.rep rfl
  have gen : ∀ {us}, itemsU u = some us → (match atI us i with | some d => some (d, false) | none => none) = some (z, fr) → (∀ q, a ≠ .str q) → OpS F st (idxD a (.int i) st) z fr := fun {us} hu e hn => by
    obtain ⟨xs, e1, q⟩ := h.items hu
    have hd : idxD a (.int i) st = match items st a with
        | some xs => match atI xs i with
          | some d => some (.ok d, st)
          | none => none
        | none => none := by
      unfold idxD
      dsimp only
      split
      · exact absurd rfl (hn _)
      · rfl
    rw [hd, e1]
    dsimp only
    unfold atI at e ⊢
    rw [q.length]
    cases hj : ixN us.length i with
    | none => rw [hj] at e; cases e
    | some j =>
      rw [hj] at e
      dsimp only [Option.bind] at e ⊢
      split at e
      · rename_i d hd2
        cases e
        obtain ⟨d', g1, g2⟩ := q.get hd2
        exact .v (by rw [g1]) g2
      · cases e
  cases u with
  | str s =>
    cases h.rep rfl
    simp only [idxU] at e
    split at e
    · rename_i c
      split at e
      · rename_i k hk
        cases e
        exact .v (by simp only [idxD]; rw [if_pos c, hk]) (.str _)
      · cases e
    · cases e
  | tup us =>
    refine gen rfl e (fun q z => ?_)
    subst z
    cases h.rep rfl
  | rol us =>
    refine gen rfl e (fun q z => ?_)
    subst z
    cases h.rep rfl
  | lst us =>
    refine gen rfl e (fun q z => ?_)
    subst z
    obtain ⟨r, xs, e, _⟩ := h.lst
    cases e
  | _ => cases e
theorem slc_sim {a : D} {u z : U} {l r : Option Int} {fr : Bool} (h : Rp F st a u) (e : slcU u l r = some (z, fr)) : OpS F st (slcO a l r st) z fr := by
  cases u with
  | str s =>
    cases h.rep rfl
    simp only [slcU] at e
    split at e
    · rename_i c
      cases e
      exact .v (by simp only [slcO]; rw [if_pos c]) (.str _)
    · cases e
  | tup us =>
    cases h.rep rfl with
    | tup q =>
      cases e
      refine .v rfl (.tup ?_)
      unfold cut
      rw [q.length]
      exact (q.drop _).take _
  | lst us =>
    obtain ⟨s, xs, rfl, l1, q⟩ := h.lst
    cases e
    refine .l (xs := cut xs l r) (by simp only [slcO, l1]) ?_
    unfold cut
    rw [q.length]
    exact (q.drop _).take _
  | _ => cases e
theorem rev_sim {a : D} {u z : U} {fr : Bool} (h : Rp F st a u) (e : revU u = some (z, fr)) : OpS F st (revD a st) z fr := by
  cases u with
  | lst us =>
    obtain ⟨s, xs, rfl, l1, q⟩ := h.lst
    cases e
    exact .l (by simp only [revD, l1]) q.reverse
  | _ => cases e
theorem isi_sim {t : Ty} {a : D} {u : U} {k : Bool} (h : Rp F st a u) (e : isiU t u = some k) : isiD t st a = some k := by
  cases u with
  | lst us =>
    obtain ⟨s, xs, rfl, l1, q⟩ := h.lst
    cases t <;> (simp only [isiD, l1]; exact e)
  | rol us => cases t <;> cases e
  | _ =>
    have hh := h.rep rfl
    cases hh
    all_goals (cases t <;> exact e)
theorem first_sim {x : D} {u : U} (hx : Rep F st x u) (hf : u.flat = true) : ∀ {ys : List D} {vs : List U} (k : Nat), Reps F st ys vs → firstAt x ys k = firstU u vs k
  | _, _, _, .nil => rfl
  | _, _, k, .cons a t => by
    unfold firstAt firstU
    rw [a.eqv_flat hx (.inr hf), first_sim hx hf (k + 1) t]
end
end Iv
end
section
set_option Elab.async false
set_option linter.all false
set_option maxRecDepth 100000
/-! IvVr2: built-ins, what is walked. -/
namespace Iv
open PySem L2
section
variable {F : Nat → Prop} {st : Store}
theorem Rps.one {ds : List D} {u : U} (h : Rps F st ds [u]) : ∃ d, ds = [d] ∧ Rp F st d u := by
  cases h with
  | cons a t =>
    cases t
    exact ⟨_, rfl, a⟩
theorem Rps.two {ds : List D} {u v : U} (h : Rps F st ds [u, v]) : ∃ d e, ds = [d, e] ∧ Rp F st d u ∧ Rp F st e v := by
  cases h with
  | cons a t =>
    obtain ⟨e, rfl, k⟩ := t.one
    exact ⟨_, _, rfl, a, k⟩
theorem Rps.nil' {ds : List D} (h : Rps F st ds []) : ds = [] := by
  cases h
  rfl
theorem lit_items {d : D} {xs : List D} (h : litems st d = some xs) : items st d = some xs := by
  cases d with
  | rol ys => exact h
  | ref r =>
    unfold litems lstAt at h
    unfold items
    exact h
  | _ => cases h
theorem int_of {d : D} {i : Int} (h : Rp F st d (.int i)) : d = .int i := by
  cases h.rep rfl
  rfl
theorem str_of {d : D} {i : Str} (h : Rp F st d (.str i)) : d = .str i := by
  cases h.rep rfl
  rfl
theorem not_int {d : D} {u : U} (h : Rp F st d u) (hn : ∀ i, u ≠ .int i) : ∀ i, d ≠ .int i := by
  intro i e
  subst e
  cases h with
  | ok h =>
    cases h
    exact hn _ rfl
theorem not_str {d : D} {u : U} (h : Rp F st d u) (hn : ∀ i, u ≠ .str i) : ∀ i, d ≠ .str i := by
  intro i e
  subst e
  cases h with
  | ok h =>
    cases h
    exact hn _ rfl
/-- of one list of numbers -/
theorem ints_sim {d : D} {u : U} {us : List U} {ns : List Int} (h : Rp F st d u) (e1 : litemsU u = some us) (e2 : intsU us = some ns) : ∃ xs, litems st d = some xs ∧ ints? xs = some ns := by
  obtain ⟨xs, g1, g2⟩ := h.litems e1
  exact ⟨xs, g1, by rw [g2.intsD, e2]⟩
theorem bi_sim {b : Bi} {ds : List D} {us : List U} {z : U} {fr : Bool} (h : Rps F st ds us) (e : biU b us = some (z, fr)) : OpS F st (biD b ds st) z fr := by
  cases b with
  | str => cases e
  | len =>
    simp only [biU] at e
    split at e
    · rename_i s
      split at e
      · rename_i c
        cases e
        obtain ⟨d, rfl, h1⟩ := h.one
        cases str_of h1
        exact .v (by simp only [biD]; rw [if_pos c]) (.int _)
      · cases e
    · rename_i a hns
      split at e
      · rename_i xs hx
        cases e
        obtain ⟨d, rfl, h1⟩ := h.one
        obtain ⟨ys, g1, g2⟩ := h1.items hx
        refine .v (d := .int ys.length) ?_ (by rw [g2.length]; exact .int _)
        have hn := not_str h1 (fun i q => hns i (by rw [q]))
        cases d with
        | str s => exact absurd rfl (hn s)
        | _ =>
          simp only [biD]
          rw [g1]
      · cases e
    · cases e
  | list =>
    simp only [biU] at e
    split at e
    · split at e
      · rename_i xs hx
        cases e
        obtain ⟨d, rfl, h1⟩ := h.one
        obtain ⟨ys, g1, g2⟩ := h1.items hx
        exact .l (by simp only [biD]; rw [g1]) g2
      · cases e
    · cases e
  | tuple =>
    simp only [biU] at e
    split at e
    · cases e
      obtain ⟨d, rfl, h1⟩ := h.one
      cases h1.rep rfl with
      | tup q => exact .v rfl (.tup q)
    · cases e
      obtain ⟨d, rfl, h1⟩ := h.one
      obtain ⟨r, xs, rfl, l, q⟩ := h1.lst
      exact .v (by simp only [biD]; rw [l]) (.tup q)
    · cases e
  | sorted =>
    simp only [biU] at e
    split at e
    · split at e
      · rename_i xs hx
        split at e
        · rename_i c
          obtain ⟨d, rfl, h1⟩ := h.one
          obtain ⟨ys, g1, g2⟩ := h1.litems hx
          split at e
          · rename_i ss hss
            cases e
            exact .l (by simp only [biD]; rw [g1]; dsimp only; rw [if_pos (by rw [g2.length]; exact c), g2.strsD, hss]) (Reps.strs _)
          · rename_i hss
            split at e
            · rename_i ns hns
              cases e
              exact .l (by simp only [biD]; rw [g1]; dsimp only; rw [if_pos (by rw [g2.length]; exact c), g2.strsD, hss, g2.intsD, hns]) (Reps.ints _)
            · cases e
        · cases e
      · cases e
    · cases e
  | max =>
    simp only [biU] at e
    split at e
    · cases e
      obtain ⟨d, d2, rfl, h1, h2⟩ := h.two
      cases int_of h1
      cases int_of h2
      exact .v rfl (.int _)
    · split at e
      · rename_i xs hx
        split at e
        · rename_i ns hns
          split at e
          · rename_i k hk
            cases e
            obtain ⟨d, rfl, h1⟩ := h.one
            obtain ⟨ys, g1, g2⟩ := ints_sim h1 hx hns
            exact .v (by simp only [biD]; rw [g1]; dsimp only; rw [g2]; dsimp only; rw [hk]) (.int _)
          · cases e
        · cases e
      · cases e
    · cases e
  | min =>
    simp only [biU] at e
    split at e
    · cases e
      obtain ⟨d, d2, rfl, h1, h2⟩ := h.two
      cases int_of h1
      cases int_of h2
      exact .v rfl (.int _)
    · split at e
      · rename_i xs hx
        split at e
        · rename_i ns hns
          split at e
          · rename_i k hk
            cases e
            obtain ⟨d, rfl, h1⟩ := h.one
            obtain ⟨ys, g1, g2⟩ := ints_sim h1 hx hns
            exact .v (by simp only [biD]; rw [g1]; dsimp only; rw [g2]; dsimp only; rw [hk]) (.int _)
          · cases e
        · cases e
      · cases e
    · cases e
  | abs =>
    simp only [biU] at e
    split at e
    · cases e
      obtain ⟨d, rfl, h1⟩ := h.one
      cases int_of h1
      exact .v rfl (.int _)
    · cases e
  | int =>
    simp only [biU] at e
    split at e
    · cases e
      obtain ⟨d, rfl, h1⟩ := h.one
      cases int_of h1
      exact .v rfl (.int _)
    · cases e
      obtain ⟨d, rfl, h1⟩ := h.one
      cases h1.rep rfl
      exact .v rfl (.int _)
    · cases e
  | sum =>
    simp only [biU] at e
    split at e
    · split at e
      · rename_i xs hx
        split at e
        · rename_i ns hns
          cases e
          obtain ⟨d, rfl, h1⟩ := h.one
          obtain ⟨ys, g1, g2⟩ := ints_sim h1 hx hns
          exact .v (by simp only [biD]; rw [g1]; dsimp only; rw [g2]) (.int _)
        · cases e
      · cases e
    · cases e
  | all =>
    simp only [biU] at e
    split at e
    · split at e
      · rename_i xs hx
        split at e
        · rename_i ns hns
          cases e
          obtain ⟨d, rfl, h1⟩ := h.one
          obtain ⟨ys, g1, g2⟩ := h1.litems hx
          exact .v (by simp only [biD]; rw [g1]; dsimp only; rw [g2.blsD, hns]) (.bl _)
        · cases e
      · cases e
    · cases e
  | any =>
    simp only [biU] at e
    split at e
    · split at e
      · rename_i xs hx
        split at e
        · rename_i ns hns
          cases e
          obtain ⟨d, rfl, h1⟩ := h.one
          obtain ⟨ys, g1, g2⟩ := h1.litems hx
          exact .v (by simp only [biD]; rw [g1]; dsimp only; rw [g2.blsD, hns]) (.bl _)
        · cases e
      · cases e
    · cases e
theorem mth_sim {m : Mt} {w : Wr} {a : D} {ds : List D} {u : U} {us : List U} {z : U} {fr : Bool} (h : Rp F st a u) (g : Rps F st ds us) (e : mthU m u us = some (z, fr)) : mtRcv m a = true ∧ OpS F st (mthD m w a ds st) z fr := by
  cases m with
  | index =>
    have key : ∀ {x : Str} {xs : List U}, us = [.str x] → itemsU u = some xs → (match strsU xs with
          | some _ => match firstU (.str x) xs 0 with
            | some k => some (U.int k, false)
            | none => none
          | none => none) = some (z, fr) → OpS F st (mthD .index w a ds st) z fr := fun {x xs} eu hx e2 => by
      subst eu
      obtain ⟨d, rfl, h1⟩ := g.one
      cases str_of h1
      obtain ⟨ys, g1, g2⟩ := h.items hx
      split at e2
      · rename_i ss hss
        split at e2
        · rename_i k hk
          cases e2
          refine .v (d := .int k) ?_ (.int _)
          simp only [mthD]
          rw [g1]
          dsimp only
          rw [g2.strsD, hss]
          dsimp only
          rw [first_sim (.str x) rfl 0 g2, hk]
        · cases e2
      · cases e2
    cases u with
    | tup vs =>
      cases h.rep rfl with
      | tup q =>
        refine ⟨rfl, ?_⟩
        simp only [mthU] at e
        split at e
        · rename_i x
          exact key rfl rfl e
        · cases e
    | lst vs =>
      obtain ⟨r, xs, rfl, l, q⟩ := h.lst
      refine ⟨rfl, ?_⟩
      simp only [mthU] at e
      split at e
      · rename_i x
        exact key rfl rfl e
      · cases e
    | rol vs => cases e
    | _ =>
      exfalso
      simp only [mthU] at e
      split at e
      · cases e
      · cases e
  | join =>
    simp only [mthU] at e
    split at e
    · rename_i zs a2
      split at e
      · rename_i xs hx
        split at e
        · rename_i ss hss
          split at e
          · rename_i c
            cases e
            cases str_of h
            obtain ⟨d, rfl, h1⟩ := g.one
            obtain ⟨ys, g1, g2⟩ := h1.items hx
            exact ⟨rfl, .v (by simp only [mthD]; rw [g1]; dsimp only; rw [g2.strsD, hss]; dsimp only; rw [if_pos c]) (.str _)⟩
          · cases e
        · cases e
      · cases e
    · cases e
  | _ => cases e
/-- what is walked -/
def SrcR (F : Nat → Prop) (st : Store) (ds : List D) (s : Src) (us : List U) : Prop := match s with
  | .ds xs => Reps F st xs us
  | .lr r => ds = [.ref r] ∧ ∃ xs, lstAt st r = some xs ∧ Reps F st xs us
theorem src_sim {k : Ik} {ds : List D} {us vs : List U} (h : Rps F st ds us) (e : srcU k us = some vs) : ∃ s, srcOf k ds st = some s ∧ SrcR F st ds s vs := by
  have rg : ∀ {a b}, rangeU us = some (a, b) → range? ds = some (a, b) := fun {a b} e => by
    unfold rangeU at e
    split at e
    · split at e
      · rename_i n c
        cases e
        obtain ⟨d, rfl, h1⟩ := h.one
        cases int_of h1
        simp only [range?]
        rw [if_pos c]
      · cases e
    · split at e
      · rename_i n n2 c
        cases e
        obtain ⟨d, d2, rfl, h1, h2⟩ := h.two
        cases int_of h1
        cases int_of h2
        simp only [range?]
        rw [if_pos c]
      · cases e
    · cases e
  cases k with
  | seq =>
    simp only [srcU] at e
    split at e
    · cases e
      obtain ⟨d, rfl, h1⟩ := h.one
      cases h1.rep rfl with
      | tup q => exact ⟨_, rfl, q⟩
    · cases e
      obtain ⟨d, rfl, h1⟩ := h.one
      cases h1.rep rfl with
      | rol q => exact ⟨_, rfl, q⟩
    · cases e
      obtain ⟨d, rfl, h1⟩ := h.one
      cases str_of h1
      exact ⟨_, rfl, Reps.signs _⟩
    · cases e
      obtain ⟨d, rfl, h1⟩ := h.one
      obtain ⟨r, xs, rfl, l, q⟩ := h1.lst
      exact ⟨.lr r, by simp only [srcOf]; rw [l], rfl, xs, l, q⟩
    · cases e
  | range =>
    simp only [srcU] at e
    split at e
    · rename_i a b hr
      cases e
      exact ⟨.ds (rngD a b), by simp only [srcOf]; rw [rg hr], Reps.rng a b⟩
    · cases e
  | rrange =>
    simp only [srcU] at e
    split at e
    · rename_i a b hr
      cases e
      exact ⟨.ds (rngD a b).reverse, by simp only [srcOf]; rw [rg hr], (Reps.rng a b).reverse⟩
    · cases e
  | zip =>
    simp only [srcU] at e
    split at e
    · cases e
      obtain ⟨d, d2, rfl, h1, h2⟩ := h.two
      cases h1.rep rfl with
      | tup q1 =>
        cases h2.rep rfl with
        | tup q2 => exact ⟨_, rfl, q1.zip2 q2⟩
    · cases e
end
end Iv
end
section
set_option Elab.async false
set_option linter.all false
set_option maxRecDepth 100000
/-! IvVs: names by the store; what is held. -/
namespace Iv
open PySem L2
theorem lstAt_eq {st st' : Store} {r : Nat} (h : st'[r]? = st[r]?) : lstAt st' r = lstAt st r := by
  unfold lstAt
  rw [h]
theorem lstAt_lt {st : Store} {r : Nat} {xs : List D} (h : lstAt st r = some xs) : r < st.length := by
  unfold lstAt at h
  split at h
  · rename_i e
    exact (List.getElem?_eq_some_iff.mp e).1
  · cases h
def Lst (F : Nat → Prop) (st : Store) (r : Nat) (us : List U) : Prop := ∃ xs, lstAt st r = some xs ∧ Reps F st xs us
/-- what frozen and looked-at lists go through -/
structure Stp (F B : Nat → Prop) (st : Store) (F' : Nat → Prop) (st' : Store) : Prop where
  sub : ∀ r, F r → F' r
  new : ∀ r, F' r → F r ∨ ¬ B r
  keep : ∀ r, F r ∨ B r → st'[r]? = st[r]?
  len : st.length ≤ st'.length
section
variable {F F' F2 B B' : Nat → Prop} {w : Wr} {st st' st2 : Store}
theorem Stp.refl : Stp F B st F st := ⟨fun _ h => h, fun _ h => .inl h, fun _ _ => rfl, Nat.le_refl _⟩
theorem Stp.trans (a : Stp F B st F' st') (b : Stp F' B st' F2 st2) : Stp F B st F2 st2 :=
  ⟨fun r h => b.sub r (a.sub r h), fun r h => (b.new r h).elim (a.new r) .inr, fun r h => (b.keep r (h.imp (a.sub r) id)).trans (a.keep r h), Nat.le_trans a.len b.len⟩
theorem Stp.lessB (h : ∀ r, B r → B' r) (a : Stp F B' st F' st') : Stp F B st F' st' :=
  ⟨a.sub, fun r q => (a.new r q).imp id fun z y => z (h r y), fun r q => a.keep r (q.imp id (h r)), a.len⟩
theorem Stp.rep (a : Stp F B st F' st') {d : D} {u : U} (h : Rep F st d u) : Rep F' st' d u := h.mono a.sub fun r q => lstAt_eq (a.keep r (.inl q))
theorem Stp.reps (a : Stp F B st F' st') {d : List D} {u : List U} (h : Reps F st d u) : Reps F' st' d u := h.mono a.sub fun r q => lstAt_eq (a.keep r (.inl q))
theorem Stp.lst (a : Stp F B st F' st') {r : Nat} {us : List U} (hk : st'[r]? = st[r]?) (h : Lst F st r us) : Lst F' st' r us := by
  obtain ⟨xs, e, q⟩ := h
  exact ⟨xs, (lstAt_eq hk).trans e, a.reps q⟩
/-- a name's entry -/
def Ent (F B : Nat → Prop) (w : Wr) (st : Store) (d : D) (u : U) (md : Md) : Prop := match md with
  | .frz => Rep F st d u
  | .bor => Rep F st d u ∨ ∃ r us, d = .ref r ∧ u = .lst us ∧ B r ∧ Lst F st r us
  | _ => ∃ r us, d = .ref r ∧ u = .lst us ∧ ¬ F r ∧ ¬ B r ∧ w.can r = true ∧ Lst F st r us
structure InvV (F B : Nat → Prop) (w : Wr) (st : Store) (env : Evn) (ve : VE) : Prop where
  len : env.length = ve.length
  lim : w.lim ≤ st.length
  low : ∀ r, F r ∨ B r → r < st.length
  at_ : ∀ (i : Nat) (u : U) (md : Md), ve[i]? = some (some (u, md)) → ∃ d, env[i]? = some (some d) ∧ Ent F B w st d u md
  sep : ∀ (i j : Nat) (ui uj : U) (mi mj : Md) (r : Nat), i ≠ j → ve[i]? = some (some (ui, mi)) → ve[j]? = some (some (uj, mj)) → mi.may = true → mj.may = true → env[i]? = some (some (.ref r)) → env[j]? = some (some (.ref r)) → False
/-- which entries are as they were -/
structure Bk (env : Evn) (ve : VE) (env' : Evn) (ve' : VE) : Prop where
  bor : ∀ (j : Nat) (u : U), ve'[j]? = some (some (u, .bor)) → ve[j]? = some (some (u, .bor)) ∧ env'[j]? = env[j]?
  mu : ∀ (j : Nat) (u : U), ve'[j]? = some (some (u, .mu)) → (∃ u0 : U, ve[j]? = some (some (u0, .mu))) ∧ env'[j]? = env[j]?
theorem Bk.refl {env : Evn} {ve : VE} : Bk env ve env ve := ⟨fun _ _ h => ⟨h, rfl⟩, fun _ u h => ⟨⟨u, h⟩, rfl⟩⟩
theorem Bk.trans {e1 e2 e3 : Evn} {v1 v2 v3 : VE} (a : Bk e1 v1 e2 v2) (b : Bk e2 v2 e3 v3) : Bk e1 v1 e3 v3 :=
  ⟨fun j u h => by
    obtain ⟨h1, h2⟩ := b.bor j u h
    obtain ⟨h3, h4⟩ := a.bor j u h1
    exact ⟨h3, h2.trans h4⟩, fun j u h => by
    obtain ⟨⟨u0, h1⟩, h2⟩ := b.mu j u h
    obtain ⟨h3, h4⟩ := a.mu j u0 h1
    exact ⟨h3, h2.trans h4⟩⟩
structure Out (F B : Nat → Prop) (w : Wr) (st : Store) (env : Evn) (ve : VE) (F' : Nat → Prop) (st' : Store) (env' : Evn) (ve' : VE) : Prop where
  stp : Stp F B st F' st'
  inv : InvV F' B w st' env' ve'
  bk : Bk env ve env' ve'
theorem Out.refl {env : Evn} {ve : VE} (I : InvV F B w st env ve) : Out F B w st env ve F st env ve := ⟨Stp.refl, I, Bk.refl⟩
theorem Out.trans {e1 e2 e3 : Evn} {v1 v2 v3 : VE} (a : Out F B w st e1 v1 F' st' e2 v2) (b : Out F' B w st' e2 v2 F2 st2 e3 v3) : Out F B w st e1 v1 F2 st2 e3 v3 :=
  ⟨a.stp.trans b.stp, b.inv, a.bk.trans b.bk⟩
/-- a new list that nobody else has -/
def Fresh (F B : Nat → Prop) (w : Wr) (st : Store) (env : Evn) (ve : VE) (r : Nat) (us : List U) : Prop :=
  ¬ F r ∧ ¬ B r ∧ w.can r = true ∧ Lst F st r us ∧ ∀ (i : Nat) (ui : U) (mi : Md), ve[i]? = some (some (ui, mi)) → mi.may = true → env[i]? ≠ some (some (.ref r))
/-- a result -/
def Res0 (F B : Nat → Prop) (w : Wr) (st : Store) (env : Evn) (ve : VE) (fr : Bool) (d : D) (u : U) : Prop := match fr with
  | true => ∃ r us, d = .ref r ∧ u = .lst us ∧ Fresh F B w st env ve r us
  | false => Rep F st d u
def Res (F B : Nat → Prop) (w : Wr) (st : Store) (env : Evn) (ve : VE) (e : E) (esc fr : Bool) (d : D) (u : U) : Prop :=
  Res0 F B w st env ve fr d u ∨ (esc = false ∧ fr = false ∧ ∃ (i : Nat) (mi : Md), e = .var i ∧ ve[i]? = some (some (u, mi)) ∧ env[i]? = some (some d))
theorem Ent.may {d : D} {u : U} {md : Md} (h : Ent F B w st d u md) (hm : md.may = true) : ∃ r us, d = .ref r ∧ u = .lst us ∧ ¬ F r ∧ ¬ B r ∧ w.can r = true ∧ Lst F st r us := by
  cases md with
  | own => exact h
  | mu => exact h
  | bor => cases hm
  | frz => cases hm
theorem Ent.rp {d : D} {u : U} {md : Md} (h : Ent F B w st d u md) : Rp F st d u := by
  cases md with
  | frz => exact .ok h
  | bor =>
    rcases h with h | ⟨r, us, rfl, rfl, _, xs, l, q⟩
    · exact .ok h
    · exact .ref l q
  | own =>
    obtain ⟨r, us, rfl, rfl, _, _, _, xs, l, q⟩ := h
    exact .ref l q
  | mu =>
    obtain ⟨r, us, rfl, rfl, _, _, _, xs, l, q⟩ := h
    exact .ref l q
theorem Rep.isRef {r : Nat} {u : U} (h : Rep F st (.ref r) u) : F r := by
  cases h with
  | ref f _ _ => exact f
/-- a result's value now -/
theorem Res.rp {env : Evn} {ve : VE} {e : E} {esc fr : Bool} {d : D} {u : U} (I : InvV F B w st env ve) (h : Res F B w st env ve e esc fr d u) : Rp F st d u := by
  rcases h with h | ⟨_, _, i, mi, _, h1, h2⟩
  · cases fr with
    | false => exact .ok h
    | true =>
      obtain ⟨r, us, rfl, rfl, _, _, _, ⟨xs, l, q⟩, _⟩ := h
      exact .ref l q
  · obtain ⟨d', e1, e2⟩ := I.at_ i u mi h1
    rw [h2] at e1
    cases e1
    exact e2.rp
/-- whose list it may be -/
theorem Res.whose {env : Evn} {ve : VE} {e : E} {esc fr : Bool} {r : Nat} {u : U} (I : InvV F B w st env ve) (h : Res F B w st env ve e esc fr (.ref r) u) {i : Nat} {ui : U} {mi : Md} (h1 : ve[i]? = some (some (ui, mi))) (hm : mi.may = true) (h2 : env[i]? = some (some (.ref r))) : e = .var i := by
  obtain ⟨d', e1, e2⟩ := I.at_ i ui mi h1
  rw [h2] at e1
  cases e1
  obtain ⟨r', us, er, eu, nf, nb, _, _⟩ := e2.may hm
  cases er
  rcases h with h | ⟨_, _, j, mj, ej, g1, g2⟩
  · cases fr with
    | false => exact absurd h.isRef nf
    | true =>
      obtain ⟨r2, us2, er2, _, _, _, _, _, hn⟩ := h
      cases er2
      exact absurd h2 (hn i ui mi h1 hm)
  · by_cases hj : j = i
    · rw [ej, hj]
    · obtain ⟨d2, k1, k2⟩ := I.at_ j u mj g1
      rw [g2] at k1
      cases k1
      cases hmj : mj.may with
      | true => exact (I.sep j i _ _ _ _ r hj g1 h1 hmj hm g2 h2).elim
      | false =>
        cases mj with
        | own => cases hmj
        | mu => cases hmj
        | frz => exact absurd (Rep.isRef k2) nf
        | bor =>
          rcases k2 with k2 | ⟨r3, us3, er3, _, b3, _⟩
          · exact absurd (Rep.isRef k2) nf
          · cases er3
            exact absurd b3 nb
theorem pinV_cases (a : E) (ve : VE) : pinV a ve = ve ∧ (∀ i : Nat, a = .var i → ∀ (u : U) (md : Md), ve[i]? = some (some (u, md)) → md.may = false) ∨ ∃ (i : Nat) (u : U) (md : Md), a = .var i ∧ ve[i]? = some (some (u, md)) ∧ md.may = true ∧ pinV a ve = ve.set i (some (u, .bor)) := by
  cases a with
  | var i =>
    unfold pinV
    dsimp only
    split
    · rename_i u md h
      cases hm : md.may with
      | true => exact .inr ⟨i, u, md, rfl, h, hm, by rw [if_pos rfl]⟩
      | false =>
        refine .inl ⟨by rw [if_neg Bool.false_ne_true], fun j e u2 m2 h2 => ?_⟩
        cases e
        rw [h] at h2
        cases h2
        exact hm
    · rename_i hn
      refine .inl ⟨rfl, fun j e u2 m2 h2 => ?_⟩
      cases e
      exact absurd h2 (hn u2 m2)
  | _ => exact .inl ⟨rfl, fun i e => by cases e⟩
theorem pin_bor {a : E} {ve : VE} {j : Nat} {u : U} (h : (pinV a ve)[j]? = some (some (u, .bor))) : ve[j]? = some (some (u, .bor)) ∨ ∃ (u0 : U) (md : Md), ve[j]? = some (some (u0, md)) ∧ md.may = true := by
  rcases pinV_cases a ve with ⟨e, _⟩ | ⟨i, ui, mi, ea, k1, hm, e⟩
  · rw [e] at h
    exact .inl h
  · rw [e] at h
    by_cases hij : j = i
    · subst hij
      exact .inr ⟨ui, mi, k1, hm⟩
    · rw [List.getElem?_set_ne (Ne.symm hij)] at h
      exact .inl h
/-- while a result is held -/
structure Held (F B B' : Nat → Prop) (w : Wr) (st : Store) (env : Evn) (ve : VE) (a : E) (fr : Bool) (d : D) (u : U) : Prop where
  sub : ∀ r, B r → B' r
  isB : ∀ r, d = .ref r → B' r
  inv : InvV F B' w st env (pinV a ve)
  val : ∀ F' st', Stp F B' st F' st' → Rp F' st' d u
  out : ∀ F' st' env' ve', Out F B' w st env (pinV a ve) F' st' env' ve' → Out F B w st env ve F' st' env' (unpinV a ve ve')
  res : ∀ F' st' env' ve', Out F B' w st env (pinV a ve) F' st' env' ve' → ∀ fr2 d2 u2, Res0 F' B' w st' env' ve' fr2 d2 u2 → Res0 F' B w st' env' (unpinV a ve ve') fr2 d2 u2
  new : fr = true → ∀ F' st' env' ve', Out F B' w st env (pinV a ve) F' st' env' ve' → Res0 F' B w st' env' (unpinV a ve ve') true d u
  apart : ∀ F' st' env' ve', Out F B' w st env (pinV a ve) F' st' env' ve' → ∀ (i : Nat) (ui : U) (mi : Md) (r : Nat), a ≠ .var i → ve'[i]? = some (some (ui, mi)) → mi.may = true → env'[i]? = some (some (.ref r)) → d ≠ .ref r
theorem lstAt_of {r : Nat} {us : List U} (h : Lst F st r us) : r < st.length := by
  obtain ⟨xs, e, _⟩ := h
  exact lstAt_lt e
def HB (B : Nat → Prop) (env : Evn) (ve : VE) (a : E) (d : D) (r : Nat) : Prop := B r ∨ d = .ref r ∨ ∃ (i : Nat) (u : U) (md : Md), a = .var i ∧ ve[i]? = some (some (u, md)) ∧ md.may = true ∧ env[i]? = some (some (.ref r))
theorem hold {env : Evn} {ve : VE} {a : E} {fr : Bool} {d : D} {u : U} (I : InvV F B w st env ve) (h : Res F B w st env ve a false fr d u) : Held F B (HB B env ve a d) w st env ve a fr d u := by
  have hsub : ∀ r, B r → HB B env ve a d r := fun r q => .inl q
  have hlow : ∀ r, HB B env ve a d r → r < st.length := fun r e => by
    rcases e with e | e | ⟨i, ui, md, _, h1, hm, h2⟩
    · exact I.low r (.inr e)
    · subst e
      cases h.rp I with
      | ok q =>
        cases q with
        | ref _ l _ => exact lstAt_lt l
      | ref l _ => exact lstAt_lt l
    · obtain ⟨dd, k1, k2⟩ := I.at_ i ui md h1
      rw [h2] at k1
      cases k1
      obtain ⟨r', us, er, _, _, _, _, l⟩ := k2.may hm
      cases er
      exact lstAt_of l
  -- an own list of another name is not held
  have hoth : ∀ (j : Nat) (uj : U) (mj : Md) (r : Nat), ve[j]? = some (some (uj, mj)) → mj.may = true → a ≠ .var j → env[j]? = some (some (.ref r)) → ¬ B r → ¬ HB B env ve a d r := fun j uj mj r h1 hm hne h2 nb q => by
    rcases q with q | q | ⟨i, ui, mi, ea, g1, gm, g2⟩
    · exact nb q
    · subst q
      exact hne (h.whose I h1 hm h2)
    · have hij : i ≠ j := fun e => hne (by rw [ea, e])
      exact I.sep i j _ _ _ _ r hij g1 h1 gm hm g2 h2
  have keyB : ∀ (i : Nat) (ui : U) (mi : Md), ve[i]? = some (some (ui, mi)) → mi.may = true → a ≠ .var i → ∀ dd, env[i]? = some (some dd) → Ent F B w st dd ui mi → Ent F (HB B env ve a d) w st dd ui mi := fun i ui mi h1 hm hne dd h2 en => by
    obtain ⟨r, us, rfl, rfl, nf, nb, cn, l⟩ := en.may hm
    have z : ∃ r' us', D.ref r = D.ref r' ∧ U.lst us = U.lst us' ∧ ¬ F r' ∧ ¬ HB B env ve a d r' ∧ w.can r' = true ∧ Lst F st r' us' := ⟨r, us, rfl, rfl, nf, hoth i _ mi r h1 hm hne h2 nb, cn, l⟩
    cases mi with
    | own => exact z
    | mu => exact z
    | bor => cases hm
    | frz => cases hm
  have keyN : ∀ {dd : D} {ui : U} {mi : Md}, mi.may = false → Ent F B w st dd ui mi → Ent F (HB B env ve a d) w st dd ui mi := fun {dd ui mi} hm en => by
    cases mi with
    | own => cases hm
    | mu => cases hm
    | frz => exact en
    | bor => exact en.imp id fun ⟨r, us, a1, a2, a3, a4⟩ => ⟨r, us, a1, a2, .inl a3, a4⟩
  have hinv : InvV F (HB B env ve a d) w st env (pinV a ve) := by
    rcases pinV_cases a ve with ⟨e, hn⟩ | ⟨i, ui, mi, ea, h1, hm, e⟩
    · rw [e]
      refine ⟨I.len, I.lim, fun r q => q.elim (fun z => I.low r (.inl z)) (hlow r), fun j uj mj hj => ?_, I.sep⟩
      obtain ⟨dd, k1, k2⟩ := I.at_ j uj mj hj
      refine ⟨dd, k1, ?_⟩
      cases hmj : mj.may with
      | false => exact keyN hmj k2
      | true => exact keyB j uj mj hj hmj (fun ea => by rw [hn j ea uj mj hj] at hmj; cases hmj) dd k1 k2
    · rw [e]
      have hil : i < ve.length := (List.getElem?_eq_some_iff.mp h1).1
      refine ⟨by rw [List.length_set]; exact I.len, I.lim, fun r q => q.elim (fun z => I.low r (.inl z)) (hlow r), fun j uj mj hj => ?_, fun j k uj uk mj mk r hjk hj hk hmj hmk => ?_⟩
      · by_cases hij : j = i
        · subst hij
          rw [List.getElem?_set_self hil] at hj
          cases hj
          obtain ⟨dd, k1, k2⟩ := I.at_ j ui mi h1
          refine ⟨dd, k1, ?_⟩
          obtain ⟨r, us, rfl, rfl, nf, nb, cn, l⟩ := k2.may hm
          exact .inr ⟨r, us, rfl, rfl, .inr (.inr ⟨j, _, mi, ea, h1, hm, k1⟩), l⟩
        · rw [List.getElem?_set_ne (Ne.symm hij)] at hj
          obtain ⟨dd, k1, k2⟩ := I.at_ j uj mj hj
          refine ⟨dd, k1, ?_⟩
          cases hmj : mj.may with
          | false => exact keyN hmj k2
          | true => exact keyB j uj mj hj hmj (fun z => by rw [ea] at z; cases z; exact hij rfl) dd k1 k2
      · have hj' : j ≠ i := fun z => by
          subst z
          rw [List.getElem?_set_self hil] at hj
          cases hj
          cases hmj
        have hk' : k ≠ i := fun z => by
          subst z
          rw [List.getElem?_set_self hil] at hk
          cases hk
          cases hmk
        rw [List.getElem?_set_ne (Ne.symm hj')] at hj
        rw [List.getElem?_set_ne (Ne.symm hk')] at hk
        exact I.sep j k uj uk mj mk r hjk hj hk hmj hmk
  -- behind it: how each entry of the unpinned names came
  have hun : ∀ F' st' env' ve', Out F (HB B env ve a d) w st env (pinV a ve) F' st' env' ve' → ∀ (j : Nat) (uj : U) (mj : Md), (unpinV a ve ve')[j]? = some (some (uj, mj)) →
      (ve'[j]? = some (some (uj, mj)) ∧ (mj = .bor → a ≠ .var j ∨ (pinV a ve = ve))) ∨ (a = .var j ∧ mj.may = true ∧ (∃ u0 : U, ve[j]? = some (some (u0, mj))) ∧ ve'[j]? = some (some (uj, .bor)) ∧ env'[j]? = env[j]?) := fun F' st' env' ve' o j uj mj hj => by
    cases a with
    | var i =>
      unfold unpinV at hj
      dsimp only at hj
      split at hj
      · rename_i u0 md h0
        cases hm : md.may with
        | true =>
          rw [hm, if_pos rfl] at hj
          split at hj
          · rename_i u1 h1
            have hil : i < ve'.length := (List.getElem?_eq_some_iff.mp h1).1
            by_cases hij : j = i
            · subst hij
              rw [List.getElem?_set_self hil] at hj
              cases hj
              exact .inr ⟨rfl, hm, ⟨u0, h0⟩, h1, (o.bk.bor j _ h1).2⟩
            · rw [List.getElem?_set_ne (Ne.symm hij)] at hj
              exact .inl ⟨hj, fun _ => .inl fun z => by cases z; exact hij rfl⟩
          · rename_i hn
            refine .inl ⟨hj, fun e => ?_⟩
            subst e
            by_cases hij : j = i
            · subst hij
              exact absurd hj (hn uj)
            · exact .inl fun z => by cases z; exact hij rfl
        | false =>
          rw [hm, if_neg Bool.false_ne_true] at hj
          refine .inl ⟨hj, fun _ => .inr ?_⟩
          unfold pinV
          dsimp only
          rw [h0]
          dsimp only
          rw [hm]
          rfl
      · rename_i hn
        refine .inl ⟨hj, fun _ => .inr ?_⟩
        unfold pinV
        dsimp only
        split
        · rename_i u0 md h0
          exact absurd h0 (hn u0 md)
        · rfl
    | _ => exact .inl ⟨hj, fun _ => .inl fun z => by cases z⟩
  have hbor : ∀ F' st' env' ve', Out F (HB B env ve a d) w st env (pinV a ve) F' st' env' ve' → ∀ (j : Nat) (uj : U), (unpinV a ve ve')[j]? = some (some (uj, .bor)) → ve[j]? = some (some (uj, .bor)) ∧ env'[j]? = env[j]? := fun F' st' env' ve' o j uj hj => by
    rcases hun F' st' env' ve' o j uj .bor hj with ⟨h1, h2⟩ | ⟨_, hm, _⟩
    · obtain ⟨g1, g2⟩ := o.bk.bor j uj h1
      refine ⟨?_, g2⟩
      rcases h2 rfl with z | z
      · rcases pinV_cases a ve with ⟨e, _⟩ | ⟨i, ui, mi, ea, k1, hm, e⟩
        · rw [e] at g1
          exact g1
        · rw [e, List.getElem?_set_ne (fun q => z (by rw [ea, q]))] at g1
          exact g1
      · rw [z] at g1
        exact g1
    · cases hm
  have hout : ∀ F' st' env' ve', Out F (HB B env ve a d) w st env (pinV a ve) F' st' env' ve' → Out F B w st env ve F' st' env' (unpinV a ve ve') := fun F' st' env' ve' o => by
    have hs := o.stp.lessB hsub
    have own_un : ∀ (j : Nat) (uj : U) (mj : Md), a = .var j → mj.may = true → (∃ u0 : U, ve[j]? = some (some (u0, mj))) → ve'[j]? = some (some (uj, .bor)) → env'[j]? = env[j]? → ∃ r us, env'[j]? = some (some (.ref r)) ∧ uj = .lst us ∧ ¬ F' r ∧ ¬ B r ∧ w.can r = true ∧ Lst F' st' r us ∧ HB B env ve a d r := fun j uj mj ea hm ⟨u0, h0⟩ h1 h2 => by
      obtain ⟨dd, k1, k2⟩ := I.at_ j u0 mj h0
      obtain ⟨r, us0, rfl, rfl, nf, nb, cn, l⟩ := k2.may hm
      have hr : HB B env ve a d r := .inr (.inr ⟨j, _, mj, ea, h0, hm, k1⟩)
      have nf' : ¬ F' r := fun q => (o.stp.new r q).elim nf fun z => z hr
      obtain ⟨dd, e1, e2⟩ := o.inv.at_ j uj .bor h1
      rw [h2, k1] at e1
      cases e1
      rcases e2 with e2 | ⟨r2, us, er, eu, _, l2⟩
      · exact absurd e2.isRef nf'
      · cases er
        subst eu
        exact ⟨r, us, h2.trans k1, rfl, nf', nb, cn, l2, hr⟩
    refine ⟨hs, ⟨?_, o.inv.lim, fun r q => o.inv.low r (q.imp id (hsub r)), fun j uj mj hj => ?_, fun j k uj uk mj mk r hjk hj hk hmj hmk hej hek => ?_⟩, ⟨fun j uj hj => hbor F' st' env' ve' o j uj hj, fun j uj hj => ?_⟩⟩
    · rw [o.inv.len]
      unfold unpinV
      repeat' split
      all_goals first | rfl | (rw [List.length_set])
    · rcases hun F' st' env' ve' o j uj mj hj with ⟨h1, h2⟩ | ⟨ea, hm, h0, h1, h2⟩
      · obtain ⟨dd, e1, e2⟩ := o.inv.at_ j uj mj h1
        refine ⟨dd, e1, ?_⟩
        cases mj with
        | frz => exact e2
        | own =>
          obtain ⟨r, us, a1, a2, a3, a4, a5, a6⟩ := e2
          exact ⟨r, us, a1, a2, a3, fun q => a4 (hsub r q), a5, a6⟩
        | mu =>
          obtain ⟨r, us, a1, a2, a3, a4, a5, a6⟩ := e2
          exact ⟨r, us, a1, a2, a3, fun q => a4 (hsub r q), a5, a6⟩
        | bor =>
          obtain ⟨g1, g2⟩ := hbor F' st' env' ve' o j uj hj
          obtain ⟨d2, k1, k2⟩ := I.at_ j uj .bor g1
          rw [g2, k1] at e1
          cases e1
          rcases k2 with k2 | ⟨r, us, a1, a2, a3, a4⟩
          · exact .inl (hs.rep k2)
          · exact .inr ⟨r, us, a1, a2, a3, hs.lst (hs.keep r (.inr a3)) a4⟩
      · obtain ⟨r, us, a1, a2, a3, a4, a5, a6, _⟩ := own_un j uj mj ea hm h0 h1 h2
        refine ⟨.ref r, a1, ?_⟩
        have z : ∃ r' us', D.ref r = D.ref r' ∧ uj = U.lst us' ∧ ¬ F' r' ∧ ¬ B r' ∧ w.can r' = true ∧ Lst F' st' r' us' := ⟨r, us, rfl, a2, a3, a4, a5, a6⟩
        cases mj with
        | own => exact z
        | mu => exact z
        | bor => cases hm
        | frz => cases hm
    · -- two names, one list?
      have nhb : ∀ (j : Nat) (uj : U) (mj : Md), ve'[j]? = some (some (uj, mj)) → mj.may = true → env'[j]? = some (some (.ref r)) → ¬ HB B env ve a d r := fun j uj mj h1 hm h2 => by
        obtain ⟨dd, e1, e2⟩ := o.inv.at_ j uj mj h1
        rw [h2] at e1
        cases e1
        obtain ⟨r', us, er, _, _, nb, _⟩ := e2.may hm
        cases er
        exact nb
      rcases hun F' st' env' ve' o j uj mj hj with ⟨h1, _⟩ | ⟨ea, hm, h0, h1, h2⟩
      · rcases hun F' st' env' ve' o k uk mk hk with ⟨g1, _⟩ | ⟨eb, gm, g0, g1, g2⟩
        · exact o.inv.sep j k uj uk mj mk r hjk h1 g1 hmj hmk hej hek
        · obtain ⟨r2, us, a1, _, _, _, _, _, hb⟩ := own_un k uk mk eb gm g0 g1 g2
          rw [hek] at a1
          cases a1
          exact nhb j uj mj h1 hmj hej hb
      · rcases hun F' st' env' ve' o k uk mk hk with ⟨g1, _⟩ | ⟨eb, gm, g0, g1, g2⟩
        · obtain ⟨r2, us, a1, _, _, _, _, _, hb⟩ := own_un j uj mj ea hm h0 h1 h2
          rw [hej] at a1
          cases a1
          exact nhb k uk mk g1 hmk hek hb
        · rw [ea] at eb
          cases eb
          exact hjk rfl
    · rcases hun F' st' env' ve' o j uj .mu hj with ⟨h1, _⟩ | ⟨ea, hm, h0, h1, h2⟩
      · obtain ⟨⟨u0, g1⟩, g2⟩ := o.bk.mu j uj h1
        refine ⟨⟨u0, ?_⟩, g2⟩
        rcases pinV_cases a ve with ⟨e, _⟩ | ⟨i, ui, mi, ea, k1, hm, e⟩
        · rw [e] at g1
          exact g1
        · rw [e] at g1
          by_cases hij : i = j
          · subst hij
            rw [List.getElem?_set_self (List.getElem?_eq_some_iff.mp k1).1] at g1
            cases g1
          · rw [List.getElem?_set_ne hij] at g1
            exact g1
      · exact ⟨h0, h2⟩
  have happ : ∀ F' st' env' ve', Out F (HB B env ve a d) w st env (pinV a ve) F' st' env' ve' → ∀ (i : Nat) (ui : U) (mi : Md) (r : Nat), ve'[i]? = some (some (ui, mi)) → mi.may = true → env'[i]? = some (some (.ref r)) → ¬ HB B env ve a d r := fun F' st' env' ve' o i ui mi r h1 hm h2 => by
    obtain ⟨dd, e1, e2⟩ := o.inv.at_ i ui mi h1
    rw [h2] at e1
    cases e1
    obtain ⟨r', us, er, _, _, nb, _⟩ := e2.may hm
    cases er
    exact nb
  refine ⟨hsub, fun r e => .inr (.inl e), hinv, fun F' st' s => ?_, hout, fun F' st' env' ve' o fr2 d2 u2 q => ?_, fun hfr F' st' env' ve' o => ?_, fun F' st' env' ve' o i ui mi r _ h1 hm h2 ed => happ F' st' env' ve' o i ui mi r h1 hm h2 (.inr (.inl ed))⟩
  · cases h.rp I with
    | ok q => exact .ok (s.rep q)
    | ref l q => exact .ref ((lstAt_eq (s.keep _ (.inr (.inr (.inl rfl))))).trans l) (s.reps q)
  · cases fr2 with
    | false => exact q
    | true =>
      obtain ⟨r, us, e1, e2, nf, nb, cn, l, hn⟩ := q
      refine ⟨r, us, e1, e2, nf, fun z => nb (hsub r z), cn, l, fun i ui mi h1 hm h2 => ?_⟩
      rcases hun F' st' env' ve' o i ui mi h1 with ⟨g1, _⟩ | ⟨ea, gm, ⟨u0, g0⟩, g1, g2⟩
      · exact hn i ui mi g1 hm h2
      · exact nb (.inr (.inr ⟨i, u0, mi, ea, g0, gm, g2.symm.trans h2⟩))
  · subst hfr
    rcases h with h | ⟨_, h, _⟩
    · obtain ⟨r, us, e1, e2, nf, nb, cn, l, hn⟩ := h
      have hr : HB B env ve a d r := .inr (.inl e1)
      refine ⟨r, us, e1, e2, fun q => (o.stp.new r q).elim nf fun z => z hr, nb, cn, o.stp.lst (o.stp.keep r (.inr hr)) l, fun i ui mi h1 hm h2 => ?_⟩
      rcases hun F' st' env' ve' o i ui mi h1 with ⟨g1, _⟩ | ⟨ea, gm, ⟨u0, g0⟩, g1, g2⟩
      · exact happ F' st' env' ve' o i ui mi r g1 hm h2 hr
      · exact hn i u0 mi g0 gm (g2.symm.trans h2)
    · cases h
end
end Iv
end
section
set_option Elab.async false
set_option linter.all false
set_option maxRecDepth 100000
/-! IvVx: steps of the two machines side by side. -/
namespace Iv
open PySem L2
section
variable {F F' F2 B B' : Nat → Prop} {w : Wr} {st st' st2 : Store} {env : Evn} {ve ve' : VE}
theorem InvV.ext (I : InvV F B w st env ve) (hl : st.length ≤ st'.length) (hk : ∀ r, r < st.length → st'[r]? = st[r]?) : InvV F B w st' env ve := by
  have hs : Stp F B st F st' := ⟨fun _ h => h, fun _ h => .inl h, fun r h => hk r (I.low r h), hl⟩
  refine ⟨I.len, Nat.le_trans I.lim hl, fun r h => Nat.lt_of_lt_of_le (I.low r h) hl, fun i u md h => ?_, I.sep⟩
  obtain ⟨d, e1, e2⟩ := I.at_ i u md h
  refine ⟨d, e1, ?_⟩
  cases md with
  | frz => exact hs.rep e2
  | bor => exact e2.imp hs.rep fun ⟨r, us, a1, a2, a3, a4⟩ => ⟨r, us, a1, a2, a3, hs.lst (hk r (lstAt_of a4)) a4⟩
  | own =>
    obtain ⟨r, us, a1, a2, a3, a4, a5, a6⟩ := e2
    exact ⟨r, us, a1, a2, a3, a4, a5, hs.lst (hk r (lstAt_of a6)) a6⟩
  | mu =>
    obtain ⟨r, us, a1, a2, a3, a4, a5, a6⟩ := e2
    exact ⟨r, us, a1, a2, a3, a4, a5, hs.lst (hk r (lstAt_of a6)) a6⟩
theorem out_app (I : InvV F B w st env ve) (l : Store) : Out F B w st env ve F (st ++ l) env ve := by
  have hl : st.length ≤ (st ++ l).length := by rw [List.length_append]; omega
  have hk : ∀ r, r < st.length → (st ++ l)[r]? = st[r]? := fun r h => List.getElem?_append_left h
  exact ⟨⟨fun _ h => h, fun _ h => .inl h, fun r h => hk r (I.low r h), hl⟩, I.ext hl hk, Bk.refl⟩
theorem lstAt_new {st : Store} {xs : List D} : lstAt (st ++ [.lst xs]) st.length = some xs := by
  unfold lstAt
  rw [List.getElem?_append_right (Nat.le_refl _), Nat.sub_self]
  rfl
theorem can_new {w : Wr} {r : Nat} (h : w.lim ≤ r) : w.can r = true := by
  unfold Wr.can
  rw [decide_eq_true h]
  rfl
/-- a new list is fresh -/
theorem fresh_new (I : InvV F B w st env ve) {xs : List D} {us : List U} (q : Reps F st xs us) : Fresh F B w (st ++ [.lst xs]) env ve st.length us := by
  refine ⟨fun h => Nat.lt_irrefl _ (I.low _ (.inl h)), fun h => Nat.lt_irrefl _ (I.low _ (.inr h)), can_new I.lim, ⟨xs, lstAt_new, (out_app I _).stp.reps q⟩, fun i ui mi h hm e => ?_⟩
  obtain ⟨d, e1, e2⟩ := I.at_ i ui mi h
  rw [e] at e1
  cases e1
  obtain ⟨r, us, er, _, _, _, _, l⟩ := e2.may hm
  cases er
  exact Nat.lt_irrefl _ (lstAt_of l)
theorem op_out (I : InvV F B w st env ve) {m : Rs D} {z : U} {fr : Bool} (h : OpS F st m z fr) : ∃ d st', m = some (.ok d, st') ∧ Out F B w st env ve F st' env ve ∧ Res0 F B w st' env ve fr d z := by
  rcases h with ⟨rfl, d, e, q⟩ | ⟨rfl, xs, zs, e, rfl, q⟩
  · exact ⟨d, st, e, Out.refl I, q⟩
  · exact ⟨_, _, e, out_app I _, _, zs, rfl, rfl, fresh_new I q⟩
/-- more is frozen: a fresh list -/
theorem freeze (I : InvV F B w st env ve) {d : D} {u : U} {fr : Bool} (h : Res0 F B w st env ve fr d u) : ∃ F', Out F B w st env ve F' st env ve ∧ Rep F' st d u := by
  cases fr with
  | false => exact ⟨F, Out.refl I, h⟩
  | true =>
    obtain ⟨r, us, rfl, rfl, nf, nb, cn, l, hn⟩ := h
    have hs : Stp F B st (fun q => F q ∨ q = r) st := ⟨fun _ h => .inl h, fun q h => h.imp id fun e => by rw [e]; exact nb, fun _ _ => rfl, Nat.le_refl _⟩
    refine ⟨fun q => F q ∨ q = r, ⟨hs, ⟨I.len, I.lim, fun q h => h.elim (fun z => z.elim (fun y => I.low q (.inl y)) fun e => by rw [e]; exact lstAt_of l) fun z => I.low q (.inr z), fun i u md h => ?_, I.sep⟩, Bk.refl⟩, ?_⟩
    · obtain ⟨d, e1, e2⟩ := I.at_ i u md h
      refine ⟨d, e1, ?_⟩
      have go : ∀ {q : Nat}, md.may = true → d = .ref q → ¬ F q → ¬ (F q ∨ q = r) := fun {q} hm ed nf' z => z.elim nf' fun e => by
        subst e
        subst ed
        exact hn i u md h hm e1
      cases md with
      | frz => exact hs.rep e2
      | bor => exact e2.imp hs.rep fun ⟨q, us, a1, a2, a3, a4⟩ => ⟨q, us, a1, a2, a3, hs.lst rfl a4⟩
      | own =>
        obtain ⟨q, us, a1, a2, a3, a4, a5, a6⟩ := e2
        exact ⟨q, us, a1, a2, go rfl a1 a3, a4, a5, hs.lst rfl a6⟩
      | mu =>
        obtain ⟨q, us, a1, a2, a3, a4, a5, a6⟩ := e2
        exact ⟨q, us, a1, a2, go rfl a1 a3, a4, a5, hs.lst rfl a6⟩
    · obtain ⟨xs, e, q⟩ := hs.lst rfl l
      exact .ref (.inr rfl) e q
/-- a name gets a value that no one changes -/
theorem InvV.put (I : InvV F B w st env ve) {d : D} {u : U} (h : Rep F st d u) (i : Nat) : InvV F B w st (env.set i (some d)) (ve.set i (some (u, .frz))) ∧ Bk env ve (env.set i (some d)) (ve.set i (some (u, .frz))) := by
  have other : ∀ {j : Nat} {x : U × Md}, x.2 ≠ .frz → (ve.set i (some (u, .frz)))[j]? = some (some x) → j ≠ i ∧ ve[j]? = some (some x) := fun {j x} hx e => by
    by_cases hj : j = i
    · subst hj
      have hl : j < ve.length := by
        have := (List.getElem?_eq_some_iff.mp e).1
        rw [List.length_set] at this
        exact this
      rw [List.getElem?_set_self hl] at e
      cases e
      exact absurd rfl hx
    · rw [List.getElem?_set_ne (Ne.symm hj)] at e
      exact ⟨hj, e⟩
  refine ⟨⟨by rw [List.length_set, List.length_set]; exact I.len, I.lim, I.low, fun j v md e => ?_, fun j k uj uk mj mk r hjk e1 e2 h1 h2 g1 g2 => ?_⟩, ⟨fun j v e => ?_, fun j v e => ?_⟩⟩
  · by_cases hj : j = i
    · subst hj
      have hl : j < ve.length := by
        have := (List.getElem?_eq_some_iff.mp e).1
        rw [List.length_set] at this
        exact this
      rw [List.getElem?_set_self hl] at e
      cases e
      exact ⟨d, List.getElem?_set_self (by rw [I.len]; exact hl), h⟩
    · rw [List.getElem?_set_ne (Ne.symm hj)] at e ⊢
      exact I.at_ j v md e
  · obtain ⟨nj, k1⟩ := other (fun z => by rw [show mj = .frz from z] at h1; cases h1) e1
    obtain ⟨nk, k2⟩ := other (fun z => by rw [show mk = .frz from z] at h2; cases h2) e2
    rw [List.getElem?_set_ne (Ne.symm nj)] at g1
    rw [List.getElem?_set_ne (Ne.symm nk)] at g2
    exact I.sep j k uj uk mj mk r hjk k1 k2 h1 h2 g1 g2
  · obtain ⟨nj, k1⟩ := other (fun z => by cases z) e
    exact ⟨k1, List.getElem?_set_ne (Ne.symm nj)⟩
  · obtain ⟨nj, k1⟩ := other (fun z => by cases z) e
    exact ⟨⟨v, k1⟩, List.getElem?_set_ne (Ne.symm nj)⟩
/-- a name gets a fresh list -/
theorem InvV.putL (I : InvV F B w st env ve) {r : Nat} {us : List U} (h : Fresh F B w st env ve r us) (i : Nat) : InvV F B w st (env.set i (some (.ref r))) (ve.set i (some (.lst us, .own))) ∧ Bk env ve (env.set i (some (.ref r))) (ve.set i (some (.lst us, .own))) := by
  have other : ∀ {j : Nat} {x : U × Md}, j ≠ i → (ve.set i (some (.lst us, .own)))[j]? = some (some x) → ve[j]? = some (some x) := fun {j x} hj e => by
    rw [List.getElem?_set_ne (Ne.symm hj)] at e
    exact e
  have self : ∀ {j : Nat} {x : U × Md}, j = i → (ve.set i (some (.lst us, .own)))[j]? = some (some x) → x = (.lst us, .own) ∧ i < ve.length := fun {j x} hj e => by
    subst hj
    have hl : j < ve.length := by
      have := (List.getElem?_eq_some_iff.mp e).1
      rw [List.length_set] at this
      exact this
    rw [List.getElem?_set_self hl] at e
    cases e
    exact ⟨rfl, hl⟩
  obtain ⟨nf, nb, cn, l, hn⟩ := h
  refine ⟨⟨by rw [List.length_set, List.length_set]; exact I.len, I.lim, I.low, fun j v md e => ?_, fun j k uj uk mj mk q hjk e1 e2 h1 h2 g1 g2 => ?_⟩, ⟨fun j v e => ?_, fun j v e => ?_⟩⟩
  · by_cases hj : j = i
    · obtain ⟨ex, hl⟩ := self hj e
      cases ex
      subst hj
      exact ⟨.ref r, List.getElem?_set_self (by rw [I.len]; exact hl), r, us, rfl, rfl, nf, nb, cn, l⟩
    · rw [List.getElem?_set_ne (Ne.symm hj)]
      exact I.at_ j v md (other hj e)
  · by_cases hj : j = i
    · by_cases hk : k = i
      · exact hjk (hj.trans hk.symm)
      · obtain ⟨_, hl⟩ := self hj e1
        subst hj
        rw [List.getElem?_set_self (by rw [I.len]; exact hl)] at g1
        cases g1
        rw [List.getElem?_set_ne (Ne.symm hk)] at g2
        exact hn k uk mk (other hk e2) h2 g2
    · by_cases hk : k = i
      · obtain ⟨_, hl⟩ := self hk e2
        subst hk
        rw [List.getElem?_set_self (by rw [I.len]; exact hl)] at g2
        cases g2
        rw [List.getElem?_set_ne (Ne.symm hj)] at g1
        exact hn j uj mj (other hj e1) h1 g1
      · rw [List.getElem?_set_ne (Ne.symm hj)] at g1
        rw [List.getElem?_set_ne (Ne.symm hk)] at g2
        exact I.sep j k uj uk mj mk q hjk (other hj e1) (other hk e2) h1 h2 g1 g2
  · by_cases hj : j = i
    · obtain ⟨ex, _⟩ := self hj e
      cases ex
    · exact ⟨other hj e, List.getElem?_set_ne (Ne.symm hj)⟩
  · by_cases hj : j = i
    · obtain ⟨ex, _⟩ := self hj e
      cases ex
    · exact ⟨⟨v, other hj e⟩, List.getElem?_set_ne (Ne.symm hj)⟩
/-- a name is given up -/
theorem InvV.drop (I : InvV F B w st env ve) (i : Nat) : InvV F B w st env (ve.set i none) ∧ Bk env ve env (ve.set i none) := by
  have other : ∀ {j : Nat} {x : U × Md}, (ve.set i none)[j]? = some (some x) → j ≠ i ∧ ve[j]? = some (some x) := fun {j x} e => by
    by_cases hj : j = i
    · subst hj
      have hl : j < ve.length := by
        have := (List.getElem?_eq_some_iff.mp e).1
        rw [List.length_set] at this
        exact this
      rw [List.getElem?_set_self hl] at e
      cases e
    · rw [List.getElem?_set_ne (Ne.symm hj)] at e
      exact ⟨hj, e⟩
  exact ⟨⟨by rw [List.length_set]; exact I.len, I.lim, I.low, fun j v md e => I.at_ j v md (other e).2, fun j k uj uk mj mk r hjk e1 e2 => I.sep j k uj uk mj mk r hjk (other e1).2 (other e2).2⟩,
    ⟨fun j v e => ⟨(other e).2, rfl⟩, fun j v e => ⟨⟨v, (other e).2⟩, rfl⟩⟩⟩
/-- the list that a name has gets other items -/
theorem InvV.chg (I : InvV F B w st env ve) {i : Nat} {us vs : List U} {md : Md} {r : Nat} {ys : List D} (h : ve[i]? = some (some (.lst us, md))) (hm : md.may = true) (he : env[i]? = some (some (.ref r))) (q : Reps F st ys vs) :
    Out F B w st env ve F (st.set r (.lst ys)) env (ve.set i (some (.lst vs, md))) := by
  obtain ⟨d, e1, e2⟩ := I.at_ i _ md h
  rw [he] at e1
  cases e1
  obtain ⟨r', us', er, eu, nf, nb, cn, l⟩ := e2.may hm
  cases er
  have hlen : (st.set r (.lst ys)).length = st.length := List.length_set
  have hk : ∀ q, q ≠ r → (st.set r (.lst ys))[q]? = st[q]? := fun q h => List.getElem?_set_ne (Ne.symm h)
  have hs : Stp F B st F (st.set r (.lst ys)) := ⟨fun _ h => h, fun _ h => .inl h, fun q h => hk q fun e => by
    subst e
    exact h.elim nf nb, by rw [hlen]; exact Nat.le_refl _⟩
  have hil := (List.getElem?_eq_some_iff.mp h).1
  have hself : Lst F (st.set r (.lst ys)) r vs := ⟨ys, by
    unfold lstAt
    rw [List.getElem?_set_self (lstAt_of l)], hs.reps q⟩
  refine ⟨hs, ⟨by rw [List.length_set]; exact I.len, by rw [hlen]; exact I.lim, fun q h => by rw [hlen]; exact I.low q h, fun j v mj e => ?_, fun j k uj uk mj mk q hjk e1 e2 h1 h2 g1 g2 => ?_⟩, ⟨fun j v e => ?_, fun j v e => ?_⟩⟩
  · by_cases hj : j = i
    · subst hj
      rw [List.getElem?_set_self hil] at e
      cases e
      refine ⟨.ref r, he, ?_⟩
      have z : ∃ r' us', D.ref r = D.ref r' ∧ U.lst vs = U.lst us' ∧ ¬ F r' ∧ ¬ B r' ∧ w.can r' = true ∧ Lst F (st.set r (.lst ys)) r' us' := ⟨r, vs, rfl, rfl, nf, nb, cn, hself⟩
      cases md with
      | own => exact z
      | mu => exact z
      | bor => cases hm
      | frz => cases hm
    · rw [List.getElem?_set_ne (Ne.symm hj)] at e
      obtain ⟨d2, k1, k2⟩ := I.at_ j v mj e
      refine ⟨d2, k1, ?_⟩
      have go : mj.may = true → ∃ r' us', d2 = D.ref r' ∧ v = U.lst us' ∧ ¬ F r' ∧ ¬ B r' ∧ w.can r' = true ∧ Lst F (st.set r (.lst ys)) r' us' := fun hmj => by
        obtain ⟨r2, us2, rfl, rfl, a3, a4, a5, a6⟩ := k2.may hmj
        exact ⟨r2, us2, rfl, rfl, a3, a4, a5, hs.lst (hk r2 fun e2 => by
          subst e2
          exact I.sep j i _ _ _ _ _ hj e h hmj hm k1 he) a6⟩
      cases mj with
      | frz => exact hs.rep k2
      | bor => exact k2.imp hs.rep fun ⟨q, us, a1, a2, a3, a4⟩ => ⟨q, us, a1, a2, a3, hs.lst (hs.keep q (.inr a3)) a4⟩
      | own => exact go rfl
      | mu => exact go rfl
  · have back : ∀ {j : Nat} {x : U × Md}, (ve.set i (some (.lst vs, md)))[j]? = some (some x) → ∃ u0, ve[j]? = some (some (u0, x.2)) := fun {j x} e => by
      by_cases hj : j = i
      · subst hj
        rw [List.getElem?_set_self hil] at e
        cases e
        exact ⟨_, h⟩
      · rw [List.getElem?_set_ne (Ne.symm hj)] at e
        exact ⟨_, e⟩
    obtain ⟨u1, k1⟩ := back e1
    obtain ⟨u2, k2⟩ := back e2
    exact I.sep j k u1 u2 mj mk q hjk k1 k2 h1 h2 g1 g2
  · by_cases hj : j = i
    · subst hj
      rw [List.getElem?_set_self hil] at e
      cases e
      cases hm
    · rw [List.getElem?_set_ne (Ne.symm hj)] at e
      exact ⟨e, rfl⟩
  · by_cases hj : j = i
    · subst hj
      rw [List.getElem?_set_self hil] at e
      cases e
      exact ⟨⟨_, h⟩, rfl⟩
    · rw [List.getElem?_set_ne (Ne.symm hj)] at e
      exact ⟨⟨_, e⟩, rfl⟩
/-- a name read -/
theorem rd_sim {i : Nat} {esc : Bool} {p : U × Bool} (I : InvV F B w st env ve) (h : rdU esc ve i = some (.ok p, ve')) : ∃ d F', env[i]? = some (some d) ∧ Out F B w st env ve F' st env ve' ∧ Res F' B w st env ve' (.var i) esc p.2 d p.1 := by
  unfold rdU at h
  split at h
  · rename_i u md hv
    obtain ⟨d, e1, e2⟩ := I.at_ i u md hv
    cases esc with
    | false =>
      cases h
      exact ⟨d, F, e1, Out.refl I, .inr ⟨rfl, rfl, i, md, rfl, hv, e1⟩⟩
    | true =>
      dsimp only at h
      cases md with
      | frz =>
        cases h
        exact ⟨d, F, e1, Out.refl I, .inl e2⟩
      | own =>
        cases h
        obtain ⟨r, us, rfl, rfl, nf, nb, cn, l⟩ := e2
        obtain ⟨I2, K2⟩ := I.drop i
        have hfr : Fresh F B w st env (ve.set i none) r us := ⟨nf, nb, cn, l, fun j uj mj hj hm e => by
          by_cases hji : j = i
          · subst hji
            rw [List.getElem?_set_self (List.getElem?_eq_some_iff.mp hv).1] at hj
            cases hj
          · rw [List.getElem?_set_ne (Ne.symm hji)] at hj
            exact I.sep j i _ _ _ _ r hji hj hv hm rfl e e1⟩
        obtain ⟨F', o, q⟩ := freeze I2 (fr := true) (d := .ref r) (u := .lst us) ⟨r, us, rfl, rfl, hfr⟩
        obtain ⟨I3, K3⟩ := o.inv.put q i
        rw [List.set_set] at I3 K3
        have henv : env.set i (some (.ref r)) = env := by
          apply List.ext_getElem?
          intro j
          by_cases hji : j = i
          · subst hji
            rw [List.getElem?_set_self (List.getElem?_eq_some_iff.mp e1).1, e1]
          · rw [List.getElem?_set_ne (Ne.symm hji)]
        rw [henv] at I3 K3
        exact ⟨.ref r, F', e1, ⟨o.stp, I3, K2.trans K3⟩, .inl q⟩
      | bor =>
        dsimp only at h
        split at h
        · cases h
        · rename_i hl
          cases h
          refine ⟨d, F, e1, Out.refl I, .inl ?_⟩
          rcases e2 with e2 | ⟨r, us, _, rfl, _⟩
          · exact e2
          · exact absurd rfl hl
      | mu => cases h
  · cases h
theorem rd_ex {i : Nat} {esc : Bool} {x : XU} : rdU esc ve i ≠ some (.ex x, ve') := fun h => by
  unfold rdU at h
  repeat' split at h
  all_goals cases h
/-! ### steps -/
/-- a step of the machine, and of the values -/
def Sm {A X : Type} (F B : Nat → Prop) (w : Wr) (st : Store) (env : Evn) (ve : VE) (m : Rs A) (r : RV X) (ve' : VE) (Rl : (Nat → Prop) → Store → A → X → Prop) : Prop := match r with
  | .ok x => ∃ a st' F', m = some (.ok a, st') ∧ Out F B w st env ve F' st' env ve' ∧ Rl F' st' a x
  | .ex x => ∃ ds st' F', m = some (.ex ⟨x.cls, ds⟩, st') ∧ Out F B w st env ve F' st' env ve' ∧ Reps F' st' ds x.args
theorem bndV_some {A C : Type} {m : Vs A} {f : A → VE → Vs C} {r : RV C} {ve2 : VE} (h : bndV m f = some (r, ve2)) : (∃ x, m = some (.ex x, ve2) ∧ r = .ex x) ∨ ∃ a ve1, m = some (.ok a, ve1) ∧ f a ve1 = some (r, ve2) := by
  unfold bndV at h
  split at h
  · exact .inr ⟨_, _, rfl, h⟩
  · cases h
    exact .inl ⟨_, rfl, rfl⟩
  · cases h
theorem unpV_some {A : Type} {a : E} {ve0 : VE} {m : Vs A} {r : RV A} {ve2 : VE} (h : unpV a ve0 m = some (r, ve2)) : ∃ ve1, m = some (r, ve1) ∧ ve2 = unpinV a ve0 ve1 := by
  unfold unpV at h
  split at h
  · cases h
    exact ⟨_, rfl, rfl⟩
  · cases h
theorem Sm.bnd {A C X Y : Type} {m : Rs A} {f : A → Store → Rs C} {r : RV X} {s : RV Y} {ve1 ve2 : VE} {R1 : (Nat → Prop) → Store → A → X → Prop} {R2 : (Nat → Prop) → Store → C → Y → Prop} (h : Sm F B w st env ve m r ve1 R1)
    (hx : ∀ x, r = .ex x → s = .ex x ∧ ve2 = ve1)
    (hf : ∀ x a st1 F1, r = .ok x → Out F B w st env ve F1 st1 env ve1 → R1 F1 st1 a x → Sm F1 B w st1 env ve1 (f a st1) s ve2 R2) : Sm F B w st env ve (bnd m f) s ve2 R2 := by
  cases r with
  | ex x =>
    obtain ⟨rfl, rfl⟩ := hx x rfl
    obtain ⟨ds, st', F', e, o, q⟩ := h
    refine ⟨ds, st', F', ?_, o, q⟩
    rw [e]
    rfl
  | ok x =>
    obtain ⟨a, st1, F1, e, o, q⟩ := h
    have z := hf x a st1 F1 rfl o q
    cases s with
    | ok y =>
      obtain ⟨b, st2, F2, e2, o2, q2⟩ := z
      exact ⟨b, st2, F2, by rw [e]; exact e2, o.trans o2, q2⟩
    | ex y =>
      obtain ⟨b, st2, F2, e2, o2, q2⟩ := z
      exact ⟨b, st2, F2, by rw [e]; exact e2, o.trans o2, q2⟩
theorem Sm.now {A X : Type} {m : Rs A} {a : A} {x : X} {Rl : (Nat → Prop) → Store → A → X → Prop} (I : InvV F B w st env ve) (e : m = some (.ok a, st)) (q : Rl F st a x) : Sm F B w st env ve m (.ok x) ve Rl := ⟨a, st, F, e, Out.refl I, q⟩
theorem Sm.mono {A X : Type} {m : Rs A} {r : RV X} {R1 R2 : (Nat → Prop) → Store → A → X → Prop} (h : Sm F B w st env ve m r ve' R1) (k : ∀ F' st' a x, Out F B w st env ve F' st' env ve' → R1 F' st' a x → R2 F' st' a x) : Sm F B w st env ve m r ve' R2 := by
  cases r with
  | ok x =>
    obtain ⟨a, st', F', e, o, q⟩ := h
    exact ⟨a, st', F', e, o, k F' st' a x o q⟩
  | ex x => exact h
/-- a step while something is held -/
theorem Sm.held {A X : Type} {m : Rs A} {r : RV X} {a : E} {fr : Bool} {d : D} {u : U} {ve1 : VE} {R1 R2 : (Nat → Prop) → Store → A → X → Prop} (hd : Held F B B' w st env ve a fr d u) (h : Sm F B' w st env (pinV a ve) m r ve1 R1)
    (k : ∀ F' st' a' x, Out F B' w st env (pinV a ve) F' st' env ve1 → R1 F' st' a' x → R2 F' st' a' x) : Sm F B w st env ve m r (unpinV a ve ve1) R2 := by
  cases r with
  | ok x =>
    obtain ⟨b, st', F', e, o, q⟩ := h
    exact ⟨b, st', F', e, hd.out _ _ _ _ o, k _ _ _ _ o q⟩
  | ex x =>
    obtain ⟨ds, st', F', e, o, q⟩ := h
    exact ⟨ds, st', F', e, hd.out _ _ _ _ o, q⟩
/-- an operation as the last step -/
theorem Sm.op (I : InvV F B w st env ve) {m : Rs D} {o : Option (U × Bool)} {r : RV (U × Bool)} (h : retV o ve = some (r, ve')) (hs : ∀ z fr, o = some (z, fr) → OpS F st m z fr) : Sm F B w st env ve m r ve' (fun F' st' d p => Res0 F' B w st' env ve' p.2 d p.1) := by
  unfold retV at h
  split at h
  · rename_i p
    cases h
    obtain ⟨z, fr⟩ := p
    obtain ⟨d, st', e, o, q⟩ := op_out I (hs z fr rfl)
    exact ⟨d, st', F, e, o, q⟩
  · cases h
end
end Iv
end
section
set_option Elab.async false
set_option linter.all false
set_option maxRecDepth 100000
/-! IvVy: targets, comprehensions' turns, arguments, calls. -/
namespace Iv
open PySem L2
section
variable {F F' F2 B B' : Nat → Prop} {w : Wr} {st st' st2 : Store} {env : Evn} {ve ve' : VE}
def Tg.slots : Tg → List Nat
  | .name i => [i]
  | .tup l => l
theorem bindL_sim : ∀ {l : List Nat} {xs : List D} {us : List U} {e : Evn} {v v1 : VE}, InvV F B w st e v → Reps F st xs us → bindLU l us v = some v1 → ∃ e2, bindL l xs e = some e2 ∧ InvV F B w st e2 v1 ∧ Bk e v e2 v1 ∧ ∀ j, j ∉ l → v1[j]? = v[j]?
  | [], _, _, e, v, v1, I, .nil, h => by
    cases h
    exact ⟨e, rfl, I, Bk.refl, fun _ _ => rfl⟩
  | i :: is, _, _, e, v, v1, I, .cons (d := d) (u := u) a t, h => by
    have h' : bindLU is _ (v.set i (some (u, .frz))) = some v1 := h
    obtain ⟨I2, K2⟩ := I.put a i
    obtain ⟨e2, h1, h2, h3, h4⟩ := bindL_sim I2 t h'
    refine ⟨e2, h1, h2, K2.trans h3, fun j hj => ?_⟩
    rw [h4 j fun z => hj (List.mem_cons_of_mem _ z), List.getElem?_set_ne fun z => hj (by rw [z]; exact List.mem_cons_self)]
  | [], _, _, _, _, _, _, .cons _ _, h => by cases h
  | _ :: _, _, _, _, _, _, _, .nil, h => by cases h
theorem bind_sim {g : Tg} {x : D} {u : U} {e : Evn} {v v1 : VE} (I : InvV F B w st e v) (r : Rep F st x u) (h : g.bindU u v = some v1) : ∃ e2, g.bind x e = some e2 ∧ InvV F B w st e2 v1 ∧ Bk e v e2 v1 ∧ ∀ j, j ∉ g.slots → v1[j]? = v[j]? := by
  cases g with
  | name i =>
    cases h
    obtain ⟨I2, K2⟩ := I.put r i
    exact ⟨_, rfl, I2, K2, fun j hj => List.getElem?_set_ne fun z => hj (by rw [← z]; exact List.mem_cons_self)⟩
  | tup l =>
    cases u with
    | tup us =>
      cases r with
      | tup q => exact bindL_sim I q h
    | _ => cases h
theorem bindL_agree : ∀ {l : List Nat} {xs : List D} {e b e2 : Evn} {A : Nat → Prop}, bindL l xs e = some e2 → e.length = b.length → (∀ j, A j → e[j]? = b[j]?) → ∃ b2, bindL l xs b = some b2 ∧ b2.length = b.length ∧ e2.length = e.length ∧ (∀ j, A j ∨ j ∈ l → e2[j]? = b2[j]?) ∧ ∀ j, j ∉ l → b2[j]? = b[j]?
  | [], [], e, b, e2, A, h, hl, ha => by
    cases h
    exact ⟨b, rfl, rfl, rfl, fun j hj => hj.elim (ha j) (fun z => nomatch z), fun _ _ => rfl⟩
  | i :: is, x :: xs, e, b, e2, A, h, hl, ha => by
    have h' : bindL is xs (e.set i (some x)) = some e2 := h
    obtain ⟨b2, h1, h2, h3, h4, h5⟩ := bindL_agree (b := b.set i (some x)) (A := fun j => A j ∨ j = i) h' (by rw [List.length_set, List.length_set]; exact hl) (fun j hj => by
      by_cases hji : j = i
      · subst hji
        by_cases hlt : j < e.length
        · rw [List.getElem?_set_self hlt, List.getElem?_set_self (by rw [← hl]; exact hlt)]
        · rw [List.getElem?_eq_none (by rw [List.length_set]; omega), List.getElem?_eq_none (by rw [List.length_set]; omega)]
      · rw [List.getElem?_set_ne (Ne.symm hji), List.getElem?_set_ne (Ne.symm hji)]
        exact ha j (hj.resolve_right hji))
    refine ⟨b2, h1, by rw [h2, List.length_set], by rw [h3, List.length_set], fun j hj => h4 j ?_, fun j hj => ?_⟩
    · rcases hj with z | z
      · exact .inl (.inl z)
      · rcases List.mem_cons.mp z with y | y
        · exact .inl (.inr y)
        · exact .inr y
    · rw [h5 j fun z => hj (List.mem_cons_of_mem _ z), List.getElem?_set_ne fun z => hj (by rw [z]; exact List.mem_cons_self)]
  | [], _ :: _, _, _, _, _, h, _, _ => by cases h
  | _ :: _, [], _, _, _, _, h, _, _ => by cases h
/-- what a target binds does not hang on what stood there -/
theorem bind_agree {g : Tg} {x : D} {e b e2 : Evn} (h : g.bind x e = some e2) (hl : e.length = b.length) (ha : ∀ j, j ∉ g.slots → e[j]? = b[j]?) : g.bind x b = some e2 ∧ ∀ j, j ∉ g.slots → e2[j]? = b[j]? := by
  cases g with
  | name i =>
    obtain ⟨b2, h1, h2, h3, h4, h5⟩ := bindL_agree (l := [i]) (xs := [x]) (A := fun j => j ∉ [i]) (show bindL [i] [x] e = some e2 from h) hl ha
    have : b2 = e2 := by
      apply List.ext_getElem?
      intro j
      by_cases hj : j ∈ [i]
      · exact (h4 j (.inr hj)).symm
      · exact (h4 j (.inl hj)).symm
    subst this
    exact ⟨h1, h5⟩
  | tup l =>
    cases x with
    | tup xs =>
      obtain ⟨b2, h1, h2, h3, h4, h5⟩ := bindL_agree (A := fun j => j ∉ l) (show bindL l xs e = some e2 from h) hl ha
      have : b2 = e2 := by
        apply List.ext_getElem?
        intro j
        by_cases hj : j ∈ l
        · exact (h4 j (.inr hj)).symm
        · exact (h4 j (.inl hj)).symm
      subst this
      exact ⟨h1, h5⟩
    | _ => cases h
/-! ### a comprehension's turns -/
/-- a turn -/
def SimF (w : Wr) (f : Evn → Store → Rs (Option D)) (fV : VE → Vs (Option U)) : Prop := ∀ (F B : Nat → Prop) (st : Store) (e : Evn) (v v2 : VE) (r : RV (Option U)), InvV F B w st e v → fV v = some (r, v2) →
  Sm F B w st e v (f e st) r v2 fun F' st' od ov => match ov with
    | none => od = none
    | some u => ∃ d, od = some d ∧ Rep F' st' d u
/-- the state between two turns -/
structure Cst (F B : Nat → Prop) (w : Wr) (st : Store) (base e : Evn) (v : VE) (S : List Nat) (p : Nat) (acc : List U) : Prop where
  inv : InvV F B w st e v
  len : e.length = base.length
  agr : ∀ j, j ∉ S → e[j]? = base[j]?
  fr : Fresh F B w st e v p acc
def BkS (S : List Nat) (v v2 : VE) : Prop := ∀ j, j ∉ S → (∀ u, v2[j]? = some (some (u, .bor)) → v[j]? = some (some (u, .bor))) ∧ ∀ u, v2[j]? = some (some (u, .mu)) → ∃ u0, v[j]? = some (some (u0, .mu))
theorem BkS.refl {S : List Nat} {v : VE} : BkS S v v := fun _ _ => ⟨fun _ h => h, fun u h => ⟨u, h⟩⟩
theorem BkS.trans {S : List Nat} {a b c : VE} (x : BkS S a b) (y : BkS S b c) : BkS S a c := fun j hj => ⟨fun u h => (x j hj).1 u ((y j hj).1 u h), fun u h => by
  obtain ⟨u0, h0⟩ := (y j hj).2 u h
  exact (x j hj).2 u0 h0⟩
theorem fresh_set {p : Nat} {us vs : List U} {ys : List D} (I : InvV F B w st env ve) (h : Fresh F B w st env ve p us) (q : Reps F st ys vs) : Stp F B st F (st.set p (.lst ys)) ∧ InvV F B w (st.set p (.lst ys)) env ve ∧ Fresh F B w (st.set p (.lst ys)) env ve p vs := by
  obtain ⟨nf, nb, cn, l, hn⟩ := h
  have hlen : (st.set p (.lst ys)).length = st.length := List.length_set
  have hk : ∀ q, q ≠ p → (st.set p (.lst ys))[q]? = st[q]? := fun q h => List.getElem?_set_ne (Ne.symm h)
  have hs : Stp F B st F (st.set p (.lst ys)) := ⟨fun _ h => h, fun _ h => .inl h, fun q h => hk q fun e => by
    subst e
    exact h.elim nf nb, by rw [hlen]; exact Nat.le_refl _⟩
  refine ⟨hs, ⟨I.len, by rw [hlen]; exact I.lim, fun q h => by rw [hlen]; exact I.low q h, fun j v mj e => ?_, I.sep⟩, nf, nb, cn, ⟨ys, by
    unfold lstAt
    rw [List.getElem?_set_self (lstAt_of l)], hs.reps q⟩, hn⟩
  obtain ⟨d2, k1, k2⟩ := I.at_ j v mj e
  refine ⟨d2, k1, ?_⟩
  have go : mj.may = true → ∃ r' us', d2 = D.ref r' ∧ v = U.lst us' ∧ ¬ F r' ∧ ¬ B r' ∧ w.can r' = true ∧ Lst F (st.set p (.lst ys)) r' us' := fun hmj => by
    obtain ⟨r2, us2, rfl, rfl, a3, a4, a5, a6⟩ := k2.may hmj
    exact ⟨r2, us2, rfl, rfl, a3, a4, a5, hs.lst (hk r2 fun e2 => by
      subst e2
      exact hn j _ mj e hmj k1) a6⟩
  cases mj with
  | frz => exact hs.rep k2
  | bor => exact k2.imp hs.rep fun ⟨q, us, a1, a2, a3, a4⟩ => ⟨q, us, a1, a2, a3, hs.lst (hs.keep q (.inr a3)) a4⟩
  | own => exact go rfl
  | mu => exact go rfl
def accU (ov : Option U) (acc : List U) : List U := match ov with
  | some y => acc ++ [y]
  | none => acc
theorem comp_turn {f : Evn → Store → Rs (Option D)} {fV : VE → Vs (Option U)} (hF : SimF w f fV) {g : Tg} {base e : Evn} {v v1 v2 : VE} {p : Nat} {acc : List U} (C : Cst F B w st base e v g.slots p acc) {x : D} {u : U} (rx : Rep F st x u)
    {ov : Option U} (h1 : g.bindU u v = some v1) (h2 : fV v1 = some (.ok ov, v2)) (hz : ∀ y, ov = some y → acc.length < 1000000) :
    ∃ e2 st2 F2, g.bind x base = some e2 ∧ (∀ K : Store → Rs D, addTo p (f e2 st) K = K st2) ∧ Stp F B st F2 st2 ∧ Cst F2 B w st2 base e2 v2 g.slots p (accU ov acc) ∧ BkS g.slots v v2 := by
  obtain ⟨e2, b1, I1, K1, b4⟩ := bind_sim C.inv rx h1
  obtain ⟨b2, b3⟩ := bind_agree b1 C.len C.agr
  have hlen2 : e2.length = base.length := by
    have := I1.len
    rw [this]
    have hv := C.inv.len
    rw [← C.len, hv]
    have : ∀ {l : List Nat} {us : List U} {v v1 : VE}, bindLU l us v = some v1 → v1.length = v.length := by
      intro l
      induction l with
      | nil =>
        intro us v v1 h
        cases us with
        | nil => cases h; rfl
        | cons _ _ => cases h
      | cons i is ih =>
        intro us v v1 h
        cases us with
        | nil => cases h
        | cons a t =>
          rw [ih (show bindLU is t _ = some v1 from h), List.length_set]
    cases g with
    | name i =>
      cases h1
      rw [List.length_set]
    | tup l =>
      cases u with
      | tup us => exact this h1
      | _ => cases h1
  -- the new list is still fresh
  have fr1 : Fresh F B w st e2 v1 p acc := by
    obtain ⟨nf, nb, cn, l, hn⟩ := C.fr
    refine ⟨nf, nb, cn, l, fun i ui mi hi hm he => ?_⟩
    by_cases hs : i ∈ g.slots
    · -- bound by the target: frozen
      have key : ∀ {l : List Nat} {us : List U} {v v1 : VE}, bindLU l us v = some v1 → i ∈ l → i < v.length → ∃ u, v1[i]? = some (some (u, .frz)) := by
        intro l
        induction l with
        | nil =>
          intro us v v1 h hi
          cases hi
        | cons k ks ih =>
          intro us v v1 h hi hlt
          cases us with
          | nil => cases h
          | cons a t =>
            have h' : bindLU ks t (v.set k (some (a, .frz))) = some v1 := h
            by_cases hks : i ∈ ks
            · exact ih h' hks (by rw [List.length_set]; exact hlt)
            · have hik : i = k := (List.mem_cons.mp hi).resolve_right hks
              subst hik
              have keep : ∀ {l : List Nat} {us : List U} {v v1 : VE}, bindLU l us v = some v1 → i ∉ l → v1[i]? = v[i]? := by
                intro l
                induction l with
                | nil =>
                  intro us v v1 h _
                  cases us with
                  | nil => cases h; rfl
                  | cons _ _ => cases h
                | cons q qs ih =>
                  intro us v v1 h hq
                  cases us with
                  | nil => cases h
                  | cons a t =>
                    rw [ih (show bindLU qs t _ = some v1 from h) fun z => hq (List.mem_cons_of_mem _ z), List.getElem?_set_ne fun z => hq (by rw [z]; exact List.mem_cons_self)]
              exact ⟨a, by rw [keep h' hks, List.getElem?_set_self hlt]⟩
      have hlt : i < v.length := by
        have := (List.getElem?_eq_some_iff.mp hi).1
        have e3 := I1.len
        rw [hlen2, ← C.len, C.inv.len] at e3
        omega
      have : ∃ u, v1[i]? = some (some (u, .frz)) := by
        cases g with
        | name k =>
          exact key (l := [k]) (us := [u]) (show bindLU [k] [u] v = some v1 from h1) hs hlt
        | tup l =>
          cases u with
          | tup us => exact key h1 hs hlt
          | _ => cases h1
      obtain ⟨u', hu⟩ := this
      rw [hu] at hi
      cases hi
      cases hm
    · rw [b4 i hs] at hi
      rw [b3 i hs, ← C.agr i hs] at he
      exact hn i ui mi hi hm he
  have hd := hold (a := .cst .non) I1 (fr := true) (d := .ref p) (u := .lst acc) (.inl ⟨p, acc, rfl, rfl, fr1⟩)
  have hpin : pinV (.cst .non) v1 = v1 := rfl
  have I1' : InvV F (HB B e2 v1 (.cst .non) (.ref p)) w st e2 v1 := hd.inv
  obtain ⟨od, st2, F2, hf, o, hR⟩ := hF _ _ st e2 v1 v2 (.ok ov) I1' h2
  have o' := hd.out F2 st2 e2 v2 o
  obtain ⟨p', acc', ep, ea, fr2⟩ := hd.new rfl F2 st2 e2 v2 o
  cases ep
  cases ea
  have o2 : Out F B w st e2 v1 F2 st2 e2 v2 := o'
  have fr3 : Fresh F2 B w st2 e2 v2 p acc := fr2
  have bks : BkS g.slots v v2 := fun j hj => ⟨fun u h => by
    have := (o2.bk.bor j u h).1
    rw [b4 j hj] at this
    exact this, fun u h => by
    have := (o2.bk.mu j u h).1
    rw [b4 j hj] at this
    exact this⟩
  cases ov with
  | none =>
    subst hR
    refine ⟨e2, st2, F2, b2, fun K => ?_, o2.stp, ⟨o2.inv, hlen2, b3, fr3⟩, bks⟩
    unfold addTo
    rw [hf]
  | some y =>
    obtain ⟨d, rfl, q⟩ := hR
    obtain ⟨nf, nb, cn, ⟨xs, l, qs⟩, hn⟩ := fr3
    obtain ⟨s3, I3, fr4⟩ := fresh_set (ys := xs ++ [d]) (vs := acc ++ [y]) o2.inv ⟨nf, nb, cn, ⟨xs, l, qs⟩, hn⟩ (qs.append (.cons q .nil))
    refine ⟨e2, st2.set p (.lst (xs ++ [d])), F2, b2, fun K => ?_, o2.stp.trans s3, ⟨I3, hlen2, b3, fr4⟩, bks⟩
    unfold addTo
    rw [hf]
    dsimp only
    rw [l]
    dsimp only
    rw [if_pos (by rw [qs.length]; exact hz y rfl)]
theorem cmpV_cons {fV : VE → Vs (Option U)} {g : Tg} {u : U} {us acc ys : List U} {v v2 : VE} (h : cmpV fV g (u :: us) acc v = some (.ok ys, v2)) : ∃ v1 ov v3, g.bindU u v = some v1 ∧ fV v1 = some (.ok ov, v3) ∧ (∀ y, ov = some y → acc.length < 1000000) ∧ cmpV fV g us (accU ov acc) v3 = some (.ok ys, v2) := by
  unfold cmpV at h
  split at h
  · rename_i v1 hb
    rcases bndV_some h with ⟨x, _, e⟩ | ⟨ov, v3, h1, h2⟩
    · cases e
    · cases ov with
      | none => exact ⟨v1, none, v3, hb, h1, (fun y e => nomatch e), h2⟩
      | some y =>
        dsimp only at h2
        split at h2
        · rename_i c
          exact ⟨v1, some y, v3, hb, h1, fun _ _ => c, h2⟩
        · cases h2
  · cases h
theorem cmpT_sim {f : Evn → Store → Rs (Option D)} {fV : VE → Vs (Option U)} (hF : SimF w f fV) {g : Tg} {base : Evn} {p : Nat} : ∀ {us : List U} {xs : List D} {F : Nat → Prop} {st : Store} {e : Evn} {v v2 : VE} {acc ys : List U}, Cst F B w st base e v g.slots p acc → Reps F st xs us → cmpV fV g us acc v = some (.ok ys, v2) →
    ∃ e2 st2 F2, cmpT f g base p xs st = some (.ok (.ref p), st2) ∧ Stp F B st F2 st2 ∧ Cst F2 B w st2 base e2 v2 g.slots p ys ∧ BkS g.slots v v2
  | [], _, F, st, e, v, v2, acc, ys, C, .nil, h => by
    cases h
    exact ⟨e, st, F, rfl, Stp.refl, C, BkS.refl⟩
  | u :: us, _, F, st, e, v, v2, acc, ys, C, .cons a t, h => by
    obtain ⟨v1, ov, v3, h1, h2, h3, h4⟩ := cmpV_cons h
    obtain ⟨e2, st2, F2, b1, hK, s2, C2, K2⟩ := comp_turn hF C a h1 h2 h3
    obtain ⟨e3, st3, F3, r1, r2, r3, r4⟩ := cmpT_sim hF C2 (s2.reps t) h4
    refine ⟨e3, st3, F3, ?_, s2.trans r2, r3, K2.trans r4⟩
    unfold cmpT
    rw [b1]
    dsimp only
    rw [hK, r1]
theorem cmpL_sim {f : Evn → Store → Rs (Option D)} {fV : VE → Vs (Option U)} (hF : SimF w f fV) {g : Tg} {base : Evn} {p r : Nat} {xs : List D} : ∀ {us : List U} {k i : Nat} {F : Nat → Prop} {st : Store} {e : Evn} {v v2 : VE} {acc ys : List U}, Cst F B w st base e v g.slots p acc → lstAt st r = some xs → (F r ∨ B r) → Reps F st (xs.drop i) us → us.length < k → cmpV fV g us acc v = some (.ok ys, v2) →
    ∃ e2 st2 F2, cmpL f g base p r k i st = some (.ok (.ref p), st2) ∧ Stp F B st F2 st2 ∧ Cst F2 B w st2 base e2 v2 g.slots p ys ∧ BkS g.slots v v2
  | [], k, i, F, st, e, v, v2, acc, ys, C, hl, hb, hr, hk, h => by
    cases h
    have hx : xs.drop i = [] := by
      cases hd : xs.drop i with
      | nil => rfl
      | cons a t =>
        rw [hd] at hr
        cases hr
    cases k with
    | zero => exact absurd hk (Nat.not_lt_zero _)
    | succ k =>
      refine ⟨e, st, F, ?_, Stp.refl, C, BkS.refl⟩
      unfold cmpL
      rw [hl]
      dsimp only
      rw [List.getElem?_eq_none (List.drop_eq_nil_iff.mp hx)]
  | u :: us, k, i, F, st, e, v, v2, acc, ys, C, hl, hb, hr, hk, h => by
    cases k with
    | zero => exact absurd hk (Nat.not_lt_zero _)
    | succ k =>
      have hx : ∃ x, xs[i]? = some x ∧ Rep F st x u ∧ Reps F st (xs.drop (i + 1)) us := by
        cases hd : xs.drop i with
        | nil =>
          rw [hd] at hr
          cases hr
        | cons a t =>
          rw [hd] at hr
          cases hr with
          | cons h1 h2 =>
            have hlt : i < xs.length := by
              refine Nat.lt_of_not_le fun z => ?_
              rw [List.drop_eq_nil_of_le z] at hd
              cases hd
            rw [List.drop_eq_getElem_cons hlt] at hd
            cases hd
            exact ⟨_, List.getElem?_eq_getElem hlt, h1, h2⟩
      obtain ⟨x, hx1, a, t⟩ := hx
      obtain ⟨v1, ov, v3, h1, h2, h3, h4⟩ := cmpV_cons h
      obtain ⟨e2, st2, F2, b1, hK, s2, C2, K2⟩ := comp_turn hF C a h1 h2 h3
      obtain ⟨e3, st3, F3, r1, r2, r3, r4⟩ := cmpL_sim hF C2 ((lstAt_eq (s2.keep r hb)).trans hl) (hb.imp (s2.sub r) id) (s2.reps t) (Nat.lt_of_succ_lt_succ hk) h4
      refine ⟨e3, st3, F3, ?_, s2.trans r2, r3, K2.trans r4⟩
      unfold cmpL
      rw [hl]
      dsimp only
      rw [hx1]
      dsimp only
      rw [b1]
      dsimp only
      rw [hK, r1]
end
end Iv
end
section
set_option Elab.async false
set_option linter.all false
set_option maxRecDepth 100000
/-! IvVz: a comprehension as a whole; arguments; calls. -/
namespace Iv
open PySem L2
section
variable {F F' F2 B B' : Nat → Prop} {w : Wr} {st st' st2 : Store} {env : Evn} {ve ve' : VE}
theorem unpin_pin (e : E) (v : VE) : unpinV e v (pinV e v) = v := by
  rcases pinV_cases e v with ⟨h, hn⟩ | ⟨i, u, md, rfl, h1, hm, h⟩
  · rw [h]
    cases e with
    | var i =>
      unfold unpinV
      dsimp only
      split
      · rename_i u md h0
        rw [hn i rfl u md h0, if_neg Bool.false_ne_true]
      · rfl
    | _ => rfl
  · rw [h]
    unfold unpinV
    dsimp only
    rw [h1]
    dsimp only
    rw [hm, if_pos rfl, List.getElem?_set_self (List.getElem?_eq_some_iff.mp h1).1]
    dsimp only
    rw [List.set_set]
    apply List.ext_getElem?
    intro j
    by_cases hj : j = i
    · subst hj
      rw [List.getElem?_set_self (List.getElem?_eq_some_iff.mp h1).1, h1]
    · rw [List.getElem?_set_ne (Ne.symm hj)]
theorem unpinV_other {e : E} {v0 v1 : VE} {i : Nat} (h : e ≠ .var i) : (unpinV e v0 v1)[i]? = v1[i]? := by
  cases e with
  | var j =>
    have hj : j ≠ i := fun z => h (by rw [z])
    unfold unpinV
    dsimp only
    repeat' split
    all_goals first | rfl | exact List.getElem?_set_ne hj
  | _ => rfl
theorem Res.strict {e : E} {fr : Bool} {d : D} {u : U} (h : Res F B w st env ve e true fr d u) : Res0 F B w st env ve fr d u := by
  rcases h with h | ⟨z, _⟩
  · exact h
  · cases z
abbrev RR (B : Nat → Prop) (w : Wr) (env : Evn) (ve : VE) : (Nat → Prop) → Store → D → (U × Bool) → Prop := fun F' st' d p => Res0 F' B w st' env ve p.2 d p.1
/-- the bind of both -/
theorem Sm.bindV {A C X Y : Type} {m : Rs A} {f : A → Store → Rs C} {mV : Vs X} {fV : X → VE → Vs Y} {s : RV Y} {ve2 : VE} {R1 : VE → (Nat → Prop) → Store → A → X → Prop} {R2 : (Nat → Prop) → Store → C → Y → Prop} (h : bndV mV fV = some (s, ve2))
    (h1 : ∀ r ve1, mV = some (r, ve1) → Sm F B w st env ve m r ve1 (R1 ve1))
    (h2 : ∀ x ve1 a st1 F1, mV = some (.ok x, ve1) → Out F B w st env ve F1 st1 env ve1 → R1 ve1 F1 st1 a x → fV x ve1 = some (s, ve2) → Sm F1 B w st1 env ve1 (f a st1) s ve2 R2) : Sm F B w st env ve (Iv.bnd m f) s ve2 R2 := by
  rcases bndV_some h with ⟨x, e1, e2⟩ | ⟨x, ve1, e1, e2⟩
  · subst e2
    exact Sm.bnd (h1 _ _ e1) (fun y hy => by cases hy; exact ⟨rfl, rfl⟩) (fun y a st1 F1 hy => by cases hy)
  · refine Sm.bnd (h1 _ _ e1) (fun y hy => by cases hy) (fun y a st1 F1 hy o q => ?_)
    cases hy
    exact h2 _ _ a st1 F1 e1 o q e2
/-- while a's value is held -/
theorem Sm.hold {A X : Type} {m : Rs A} {mV : Vs X} {r : RV X} {a : E} {fr : Bool} {d : D} {u : U} {ve2 : VE} {R1 : (Nat → Prop) → VE → (Nat → Prop) → Store → A → X → Prop} {R2 : (Nat → Prop) → Store → A → X → Prop} (I : InvV F B w st env ve) (hr : Res F B w st env ve a false fr d u)
    (h : unpV a ve mV = some (r, ve2))
    (h1 : ∀ B' ve1, Held F B B' w st env ve a fr d u → mV = some (r, ve1) → Sm F B' w st env (pinV a ve) m r ve1 (R1 B' ve1))
    (h2 : ∀ B' ve1 F' st' x y, Held F B B' w st env ve a fr d u → ve2 = unpinV a ve ve1 → Out F B' w st env (pinV a ve) F' st' env ve1 → R1 B' ve1 F' st' x y → R2 F' st' x y) : Sm F B w st env ve m r ve2 R2 := by
  obtain ⟨ve1, e1, e2⟩ := unpV_some h
  have hd := Iv.hold I hr
  have z := Sm.held (R2 := R2) hd (h1 _ ve1 hd e1) (fun F' st' x y o q => h2 _ ve1 F' st' x y hd e2 o q)
  rw [e2]
  exact z
theorem Sm.hold0 {m : Rs D} {mV : Vs (U × Bool)} {r : RV (U × Bool)} {a : E} {fr : Bool} {d : D} {u : U} {ve2 : VE} (I : InvV F B w st env ve) (hr : Res F B w st env ve a false fr d u)
    (h : unpV a ve mV = some (r, ve2))
    (h1 : ∀ B' ve1, Held F B B' w st env ve a fr d u → mV = some (r, ve1) → Sm F B' w st env (pinV a ve) m r ve1 (RR B' w env ve1)) : Sm F B w st env ve m r ve2 (RR B w env ve2) :=
  Sm.hold (R1 := fun B' ve1 => RR B' w env ve1) I hr h h1 fun B' ve1 F' st' x y hd e2 o q => by
    rw [e2]
    exact hd.res F' st' env ve1 o _ _ _ q
/-! ### wiping -/
theorem wipeV_some {own : List Nat} {v : VE} {j : Nat} {x : U × Md} : (wipeV v own)[j]? = some (some x) → j ∉ own ∧ v[j]? = some (some x) := by
  induction own with
  | nil => exact fun h => ⟨(fun z => nomatch z), h⟩
  | cons i is ih =>
    intro h
    have h' : ((wipeV v is).set i none)[j]? = some (some x) := h
    by_cases hj : j = i
    · subst hj
      have hl : j < (wipeV v is).length := by
        have := (List.getElem?_eq_some_iff.mp h').1
        rw [List.length_set] at this
        exact this
      rw [List.getElem?_set_self hl] at h'
      cases h'
    · rw [List.getElem?_set_ne (Ne.symm hj)] at h'
      obtain ⟨a, b⟩ := ih h'
      exact ⟨fun z => (List.mem_cons.mp z).elim hj a, b⟩
theorem wipeV_ne {own : List Nat} {v : VE} {j : Nat} (h : j ∉ own) : (wipeV v own)[j]? = v[j]? := by
  induction own with
  | nil => rfl
  | cons i is ih =>
    show ((wipeV v is).set i none)[j]? = _
    rw [List.getElem?_set_ne fun z => h (by rw [z]; exact List.mem_cons_self), ih fun z => h (List.mem_cons_of_mem _ z)]
theorem wipeD_ne {own : List Nat} {v : Evn} {j : Nat} (h : j ∉ own) : (wipeD v own)[j]? = v[j]? := by
  induction own with
  | nil => rfl
  | cons i is ih =>
    show ((wipeD v is).set i none)[j]? = _
    rw [List.getElem?_set_ne fun z => h (by rw [z]; exact List.mem_cons_self), ih fun z => h (List.mem_cons_of_mem _ z)]
theorem wipeV_len {own : List Nat} {v : VE} : (wipeV v own).length = v.length := by
  induction own with
  | nil => rfl
  | cons i is ih =>
    show ((wipeV v is).set i none).length = _
    rw [List.length_set, ih]
theorem wipeD_len {own : List Nat} {v : Evn} : (wipeD v own).length = v.length := by
  induction own with
  | nil => rfl
  | cons i is ih =>
    show ((wipeD v is).set i none).length = _
    rw [List.length_set, ih]
theorem backV_len {own : List Nat} {v0 v1 : VE} : (backV v0 own v1).length = v1.length := by
  induction own with
  | nil => rfl
  | cons i is ih =>
    show ((backV v0 is v1).set i _).length = _
    rw [List.length_set, ih]
theorem backV_out {own : List Nat} {v0 v1 : VE} {j : Nat} (h : j ∉ own) : (backV v0 own v1)[j]? = v1[j]? := by
  induction own with
  | nil => rfl
  | cons i is ih =>
    show ((backV v0 is v1).set i _)[j]? = _
    rw [List.getElem?_set_ne fun z => h (by rw [z]; exact List.mem_cons_self), ih fun z => h (List.mem_cons_of_mem _ z)]
theorem backV_in {own : List Nat} {v0 v1 : VE} {j : Nat} {x : U × Md} (h : j ∈ own) (e : (backV v0 own v1)[j]? = some (some x)) : safeV v0[j]? = some x := by
  induction own with
  | nil => cases h
  | cons i is ih =>
    have e' : ((backV v0 is v1).set i (safeV v0[i]?))[j]? = some (some x) := e
    by_cases hj : j = i
    · subst hj
      have hl : j < (backV v0 is v1).length := by
        have := (List.getElem?_eq_some_iff.mp e').1
        rw [List.length_set] at this
        exact this
      rw [List.getElem?_set_self hl] at e'
      exact Option.some.inj e'
    · rw [List.getElem?_set_ne (Ne.symm hj)] at e'
      exact ih ((List.mem_cons.mp h).resolve_left hj) e'
theorem safeV_some {o : Option (Option (U × Md))} {x : U × Md} (h : safeV o = some x) : o = some (some x) ∧ x.2.may = false := by
  unfold safeV at h
  split at h
  · split at h
    · cases h
    · rename_i hm
      cases h
      exact ⟨rfl, by
        cases q : Md.may _ with
        | true => exact absurd q hm
        | false => rfl⟩
  · cases h
theorem InvV.wiped (I : InvV F B w st env ve) (own : List Nat) : InvV F B w st (wipeD env own) (wipeV ve own) := by
  refine ⟨by rw [wipeD_len, wipeV_len]; exact I.len, I.lim, I.low, fun i u md h => ?_, fun i j ui uj mi mj r hij h1 h2 m1 m2 e1 e2 => ?_⟩
  · obtain ⟨a, b⟩ := wipeV_some h
    rw [wipeD_ne a]
    exact I.at_ i u md b
  · obtain ⟨a1, b1⟩ := wipeV_some h1
    obtain ⟨a2, b2⟩ := wipeV_some h2
    rw [wipeD_ne a1] at e1
    rw [wipeD_ne a2] at e2
    exact I.sep i j ui uj mi mj r hij b1 b2 m1 m2 e1 e2
def srcE : Es → E
  | .cons e .nil => e
  | _ => .cst .non
theorem pinS_eq (es : Es) (v : VE) : pinS es v = pinV (srcE es) v := by
  match es with
  | .nil => rfl
  | .cons _ .nil => rfl
  | .cons _ (.cons _ _) => rfl
theorem unpinS_eq (es : Es) (v0 v1 : VE) : unpinS es v0 v1 = unpinV (srcE es) v0 v1 := by
  match es with
  | .nil => rfl
  | .cons _ .nil => rfl
  | .cons _ (.cons _ _) => rfl
theorem slots_own {own : List Nat} {g : Tg} (h : tgOwn own g = true) : ∀ j, j ∈ g.slots → j ∈ own := by
  intro j hj
  cases g with
  | name i =>
    have : j = i := by simpa [Tg.slots] using hj
    subst this
    have : own.contains j = true := h
    simpa using this
  | tup l =>
    have := List.all_eq_true.mp (show l.all own.contains = true from h) j hj
    simpa using this
/-- none of the slots is one of the caller's -/
theorem cmp_nob {f : Evn → Store → Rs (Option D)} {fV : VE → Vs (Option U)} (hF : SimF w f fV) {g : Tg} : True := trivial
/-- the whole comprehension behind its source -/
theorem comp_sim {f : Evn → Store → Rs (Option D)} {fV : VE → Vs (Option U)} (hF : SimF w f fV) {g : Tg} {own : List Nat} (ho : tgOwn own g = true) {a : E} {fr : Bool} {d : D} {u : U} (I : InvV F B w st env ve) (hr : Res F B w st env ve a false fr d u)
    {s : Src} {us ys : List U} {v2 : VE} (hs : (∃ xs, s = .ds xs ∧ Reps F st xs us) ∨ ∃ r xs, s = .lr r ∧ d = .ref r ∧ lstAt st r = some xs ∧ Reps F st xs us)
    (h : cmpV fV g us [] (wipeV (pinV a ve) own) = some (.ok ys, v2)) :
    ∃ d' st' F', cmpSrc f g (wipeD env own) s st = some (.ok d', st') ∧ Out F B w st env ve F' st' env (backV ve own (unpinV a ve v2)) ∧ Res0 F' B w st' env (backV ve own (unpinV a ve v2)) true d' (.lst ys) := by
  have hd := hold I hr
  have hB : ∀ r, d = .ref r → HB B env ve a d r := fun r e => .inr (.inl e)
  have I1 := (hd.inv.wiped own)
  -- the new list
  have I2 := (out_app I1 [O.lst []]).inv
  have fr0 := fresh_new (xs := []) (us := []) I1 .nil
  have C0 : Cst F (HB B env ve a d) w (st ++ [O.lst []]) (wipeD env own) (wipeD env own) (wipeV (pinV a ve) own) g.slots st.length [] := ⟨I2, rfl, fun _ _ => rfl, fr0⟩
  have s0 : Stp F (HB B env ve a d) st F (st ++ [O.lst []]) := (out_app I1 [O.lst []]).stp
  have run : ∃ e2 st2 F2, cmpSrc f g (wipeD env own) s st = some (.ok (.ref st.length), st2) ∧ Stp F (HB B env ve a d) (st ++ [O.lst []]) F2 st2 ∧ Cst F2 (HB B env ve a d) w st2 (wipeD env own) e2 v2 g.slots st.length ys ∧ BkS g.slots (wipeV (pinV a ve) own) v2 := by
    rcases hs with ⟨xs, rfl, q⟩ | ⟨r, xs, rfl, ed, l, q⟩
    · obtain ⟨e2, st2, F2, r1, r2⟩ := cmpT_sim hF C0 (s0.reps q) h
      exact ⟨e2, st2, F2, r1, r2⟩
    · have hl : lstAt (st ++ [O.lst []]) r = some xs := (lstAt_eq (s0.keep r (.inr (hB r ed)))).trans l
      obtain ⟨e2, st2, F2, r1, r2⟩ := cmpL_sim (i := 0) (k := xs.length + 1) hF C0 hl (.inr (hB r ed)) (by rw [List.drop_zero]; exact s0.reps q) (by rw [q.length]; exact Nat.lt_succ_self _) h
      refine ⟨e2, st2, F2, ?_, r2⟩
      show (match lstAt st r with
        | some xs => cmpL f g (wipeD env own) st.length r (xs.length + 1) 0 (st ++ [O.lst []])
        | none => none) = _
      rw [l]
      exact r1
  obtain ⟨e2, st2, F2, r1, s2, C2, K2⟩ := run
  -- no slot of the target is one looked at, or the caller's
  have nob : ∀ j, j ∈ own → (∀ u, v2[j]? = some (some (u, .bor)) → j ∈ g.slots) ∧ ∀ u, v2[j]? = some (some (u, .mu)) → j ∈ g.slots := fun j hj => by
    refine ⟨fun u h => Classical.byContradiction fun hn => ?_, fun u h => Classical.byContradiction fun hn => ?_⟩
    · exact (wipeV_some ((K2 j hn).1 u h)).1 hj
    · obtain ⟨u0, h0⟩ := (K2 j hn).2 u h
      exact (wipeV_some h0).1 hj
  have hfix : ∀ v : VE, v.length = v2.length → (∀ j, j ∉ own → v[j]? = v2[j]?) → (∀ j, j ∈ own → ∀ x, v[j]? = some (some x) → False) → InvV F2 (HB B env ve a d) w st2 env v := fun v hvl hvo hvi => by
    refine ⟨by rw [hvl, ← C2.inv.len, C2.len, wipeD_len], C2.inv.lim, C2.inv.low, fun j uj mj hj => ?_, fun j k uj uk mj mk r hjk hj hk m1 m2 g1 g2 => ?_⟩
    · have hno : j ∉ own := fun z => hvi j z _ hj
      rw [hvo j hno] at hj
      obtain ⟨dd, k1, k2⟩ := C2.inv.at_ j uj mj hj
      rw [C2.agr j fun z => hno (slots_own ho j z), wipeD_ne hno] at k1
      exact ⟨dd, k1, k2⟩
    · have n1 : j ∉ own := fun z => hvi j z _ hj
      have n2 : k ∉ own := fun z => hvi k z _ hk
      rw [hvo j n1] at hj
      rw [hvo k n2] at hk
      rw [← wipeD_ne (own := own) n1, ← C2.agr j fun z => n1 (slots_own ho j z)] at g1
      rw [← wipeD_ne (own := own) n2, ← C2.agr k fun z => n2 (slots_own ho k z)] at g2
      exact C2.inv.sep j k uj uk mj mk r hjk hj hk m1 m2 g1 g2
  -- its own names given up: the same names as ahead
  have I3 : InvV F2 (HB B env ve a d) w st2 env (wipeV v2 own) := hfix _ wipeV_len (fun j hj => wipeV_ne hj) fun j hj x hx => (wipeV_some hx).1 hj
  have K3 : Bk env (pinV a ve) env (wipeV v2 own) := ⟨fun j uj hj => by
      obtain ⟨n1, h1⟩ := wipeV_some hj
      have h2 := (K2 j fun z => n1 (slots_own ho j z)).1 uj h1
      exact ⟨(wipeV_some h2).2, rfl⟩, fun j uj hj => by
      obtain ⟨n1, h1⟩ := wipeV_some hj
      obtain ⟨u0, h2⟩ := (K2 j fun z => n1 (slots_own ho j z)).2 uj h1
      exact ⟨⟨u0, (wipeV_some h2).2⟩, rfl⟩⟩
  have o3 : Out F (HB B env ve a d) w st env (pinV a ve) F2 st2 env (wipeV v2 own) := ⟨s0.trans s2, I3, K3⟩
  have o4 := hd.out _ _ _ _ o3
  have fr3 : Res0 F2 (HB B env ve a d) w st2 env (wipeV v2 own) true (.ref st.length) (.lst ys) := by
    obtain ⟨nf, nb, cn, l, hn⟩ := C2.fr
    refine ⟨_, _, rfl, rfl, nf, nb, cn, l, fun i ui mi hi hm he => ?_⟩
    obtain ⟨n1, h1⟩ := wipeV_some hi
    rw [← wipeD_ne (own := own) n1, ← C2.agr i fun z => n1 (slots_own ho i z)] at he
    exact hn i ui mi h1 hm he
  have fr4 := hd.res _ _ _ _ o3 true _ _ fr3
  -- the names outside, unpinned, are the same by either way
  have heq : ∀ j, j ∉ own → (unpinV a ve v2)[j]? = (unpinV a ve (wipeV v2 own))[j]? := fun j hj => by
    cases a with
    | var i =>
      by_cases hij : j = i
      · subst hij
        unfold unpinV
        dsimp only
        have hw := wipeV_ne (v := v2) hj
        split
        · split
          · rw [hw]
            split
            · rename_i u1 h1
              have hl1 := (List.getElem?_eq_some_iff.mp h1).1
              rw [List.getElem?_set_self hl1, List.getElem?_set_self (by rw [wipeV_len]; exact hl1)]
            · exact hw.symm
          · exact hw.symm
        · exact hw.symm
      · rw [unpinV_other (fun z => by cases z; exact hij rfl), unpinV_other (fun z => by cases z; exact hij rfl), wipeV_ne hj]
    | _ => exact (wipeV_ne hj).symm
  have hlenU : ∀ x : VE, (unpinV a ve x).length = x.length := fun x => by
    unfold unpinV
    repeat' split
    all_goals first | rfl | rw [List.length_set]
  refine ⟨.ref st.length, st2, F2, r1, ⟨o4.stp, ⟨?_, o4.inv.lim, o4.inv.low, fun j uj mj hj => ?_, fun j k uj uk mj mk r hjk hj hk m1 m2 g1 g2 => ?_⟩, ⟨fun j uj hj => ?_, fun j uj hj => ?_⟩⟩, ?_⟩
  · rw [backV_len, hlenU]
    have := o4.inv.len
    rw [hlenU, wipeV_len] at this
    exact this
  · by_cases hjo : j ∈ own
    · obtain ⟨h1, hm⟩ := safeV_some (backV_in hjo hj)
      obtain ⟨dd, k1, k2⟩ := I.at_ j uj mj h1
      refine ⟨dd, k1, ?_⟩
      cases mj with
      | own => cases hm
      | mu => cases hm
      | frz => exact o4.stp.rep k2
      | bor => exact k2.imp o4.stp.rep fun ⟨q, us, a1, a2, a3, a4⟩ => ⟨q, us, a1, a2, a3, o4.stp.lst (o4.stp.keep q (.inr a3)) a4⟩
    · rw [backV_out hjo, heq j hjo] at hj
      exact o4.inv.at_ j uj mj hj
  · have out1 : ∀ {j : Nat} {x : U} {md : Md}, (backV ve own (unpinV a ve v2))[j]? = some (some (x, md)) → md.may = true → (unpinV a ve (wipeV v2 own))[j]? = some (some (x, md)) := fun {j x md} e hm => by
      by_cases hjo : j ∈ own
      · obtain ⟨h1, hm2⟩ := safeV_some (backV_in hjo e)
        rw [show md.may = false from hm2] at hm
        cases hm
      · rw [backV_out hjo, heq j hjo] at e
        exact e
    exact o4.inv.sep j k uj uk mj mk r hjk (out1 hj m1) (out1 hk m2) m1 m2 g1 g2
  · by_cases hjo : j ∈ own
    · exact ⟨(safeV_some (backV_in hjo hj)).1, rfl⟩
    · rw [backV_out hjo, heq j hjo] at hj
      exact o4.bk.bor j uj hj
  · by_cases hjo : j ∈ own
    · have := (safeV_some (backV_in hjo hj)).2
      cases this
    · rw [backV_out hjo, heq j hjo] at hj
      exact o4.bk.mu j uj hj
  · obtain ⟨r, us', e1, e2', nf, nb, cn, l, hn⟩ := fr4
    refine ⟨r, us', e1, e2', nf, nb, cn, l, fun i ui mi hi hm he => ?_⟩
    by_cases hjo : i ∈ own
    · have := (safeV_some (backV_in hjo hi)).2
      rw [show mi.may = false from this] at hm
      cases hm
    · rw [backV_out hjo, heq i hjo] at hi
      exact hn i ui mi hi hm he
end
end Iv
end
section
set_option Elab.async false
set_option linter.all false
set_option maxRecDepth 100000
/-! IvVa: arguments, calls. -/
namespace Iv
open PySem L2
/-- the arguments as they lie; rs: the new lists that are handed in to be changed -/
inductive AR (F B : Nat → Prop) (w : Wr) (st : Store) (env : Evn) (ve : VE) (T : List Nat) : (Nat → Prop) → List D → List Ag → List Nat → Prop
  | nil {P : Nat → Prop} : AR F B w st env ve T P [] [] []
  | see {P : Nat → Prop} {d : D} {u : U} {ds : List D} {xs : List Ag} {rs : List Nat} : Rp F st d u → (∀ (i : Nat), i ∈ T → ∀ (ui : U) (mi : Md) (r : Nat), ve[i]? = some (some (ui, mi)) → mi.may = true → env[i]? = some (some (.ref r)) → d ≠ .ref r) → (∀ p, P p → d ≠ .ref p) → (∀ r, r ∈ rs → d ≠ .ref r) →
      AR F B w st env ve T P ds xs rs → AR F B w st env ve T P (d :: ds) (.see u :: xs) rs
  | give {P : Nat → Prop} {d : D} {i : Nat} {ds : List D} {xs : List Ag} {rs : List Nat} : env[i]? = some (some d) → AR F B w st env ve T P ds xs rs → AR F B w st env ve T P (d :: ds) (.give i :: xs) rs
  | temp {P : Nat → Prop} {r : Nat} {us : List U} {ds : List D} {xs : List Ag} {rs : List Nat} : Fresh F B w st env ve r us → ¬ P r → AR F B w st env ve T (fun p => P p ∨ p = r) ds xs rs → AR F B w st env ve T P (.ref r :: ds) (.temp us :: xs) (r :: rs)
/-- the names told, the new lists, all that may be changed -/
def Tells (env : Evn) : List (Option Nat) → List Nat → List Nat → Prop
  | [], [], [] => True
  | some i :: is, rs, k :: ks => env[i]? = some (some (.ref k)) ∧ Tells env is rs ks
  | none :: is, r :: rs, k :: ks => r = k ∧ Tells env is rs ks
  | _, _, _ => False
/-- what a call has changed -/
def Outs (F : Nat → Prop) (st : Store) : List Nat → List (List U) → Prop
  | [], [] => True
  | k :: ks, o :: os => ¬ F k ∧ Lst F st k o ∧ Outs F st ks os
  | _, _ => False
/-- a call's result -/
def CRes (F : Nat → Prop) (st0 st : Store) (res : R D) (r : RV (U × Bool)) : Prop := match r with
  | .ok (u, true) => ∃ q us, res = .ok (.ref q) ∧ u = .lst us ∧ st0.length ≤ q ∧ ¬ F q ∧ Lst F st q us
  | .ok (u, false) => ∃ d, res = .ok d ∧ Rep F st d u
  | .ex x => ∃ ds, res = .ex ⟨x.cls, ds⟩ ∧ Reps F st ds x.args
def SimC (c : Cfg) (cf : Wr → Nat → List D → Store → Rs D) (cV : Nat → List U → Option (RV (U × Bool) × List (List U))) : Prop :=
  ∀ (f : Nat) (us : List U) (r : RV (U × Bool)) (os : List (List U)), cV f us = some (r, os) → ∀ (F : Nat → Prop) (w : Wr) (st : Store) (ds : List D) (oks : List Nat), w.lim ≤ st.length → (∀ q, F q → q < st.length) → Rps F st ds us → refsAt ds (psOf c f) = some oks →
    (∀ k, k ∈ oks → ¬ F k ∧ w.can k = true ∧ k < st.length) → oks.Nodup → (∀ (j : Nat) (d : D), ds[j]? = some d → j ∉ psOf c f → ∀ k, k ∈ oks → d ≠ .ref k) →
    ∃ res st' F', cf w f ds st = some (res, st') ∧ Stp F (fun q => q < st.length ∧ q ∉ oks) st F' st' ∧ (∀ q, F' q → q < st'.length) ∧ Outs F' st' oks os ∧ CRes F' st st' res r
section
variable {F F' F2 B B' : Nat → Prop} {w : Wr} {st st' st2 : Store} {env : Evn} {ve ve' : VE}
theorem lstV_some {i : Nat} {us : List U} {md : Md} (h : lstV ve i = some (us, md)) : ve[i]? = some (some (.lst us, md)) ∧ md.may = true := by
  unfold lstV at h
  split at h
  · rename_i ys m2 hv
    split at h
    · rename_i hm
      cases h
      exact ⟨hv, hm⟩
    · cases h
  · cases h
theorem AR.rps {T : List Nat} {P : Nat → Prop} {ds : List D} {xs : List Ag} {rs : List Nat} (A : AR F B w st env ve T P ds xs rs) (I : InvV F B w st env ve) : ∀ {us : List U}, fillV ve xs = some us → Rps F st ds us := by
  induction A with
  | nil =>
    intro us h
    cases h
    exact .nil
  | see r _ _ _ t ih =>
    intro us h
    unfold fillV at h
    obtain ⟨vs, h1, h2⟩ := Option.map_eq_some_iff.mp h
    subst h2
    exact .cons r (ih h1)
  | give e t ih =>
    intro us h
    unfold fillV at h
    split at h
    · rename_i zs md hl
      obtain ⟨vs, h1, h2⟩ := Option.map_eq_some_iff.mp h
      subst h2
      refine .cons ?_ (ih h1)
      obtain ⟨hv, hm⟩ := lstV_some hl
      obtain ⟨d, e1, e2⟩ := I.at_ _ _ _ hv
      rw [e] at e1
      cases e1
      exact e2.rp
    · cases h
  | temp f _ t ih =>
    intro us h
    unfold fillV at h
    obtain ⟨vs, h1, h2⟩ := Option.map_eq_some_iff.mp h
    subst h2
    obtain ⟨_, _, _, ⟨zs, l, q⟩, _⟩ := f
    exact .cons (.ref l q) (ih h1)
/-- the new lists are new -/
theorem AR.temps {T : List Nat} {P : Nat → Prop} {ds : List D} {xs : List Ag} {rs : List Nat} (A : AR F B w st env ve T P ds xs rs) : ∀ r, r ∈ rs → ¬ P r ∧ ∃ us, Fresh F B w st env ve r us := by
  induction A with
  | nil => exact fun r hr => nomatch hr
  | see _ _ _ _ t ih => exact ih
  | give _ t ih => exact ih
  | temp f np t ih =>
    intro r hr
    rcases List.mem_cons.mp hr with e | e
    · subst e
      exact ⟨np, _, f⟩
    · obtain ⟨a, b⟩ := ih r e
      exact ⟨fun z => a (.inl z), b⟩
theorem AR.tells {T : List Nat} {P : Nat → Prop} {ds : List D} {xs : List Ag} {rs : List Nat} (A : AR F B w st env ve T P ds xs rs) (I : InvV F B w st env ve) : ∀ {us : List U}, fillV ve xs = some us → ∀ pre : List D, ∃ oks, refsAt (pre ++ ds) (posV pre.length xs) = some oks ∧ Tells env (tellV xs) rs oks ∧
    (∀ k, k ∈ oks → ¬ F k ∧ ¬ B k ∧ w.can k = true ∧ k < st.length) := by
  induction A with
  | nil => exact fun _ pre => ⟨[], rfl, trivial, fun k hk => nomatch hk⟩
  | @see P d u ds xs rs r _ _ _ t ih =>
    intro us h pre
    unfold fillV at h
    obtain ⟨vs, h1, h2⟩ := Option.map_eq_some_iff.mp h
    obtain ⟨oks, g1, g2⟩ := ih h1 (pre ++ [d])
    rw [List.append_assoc, List.length_append] at g1
    exact ⟨oks, g1, g2⟩
  | @give P d i ds xs rs e t ih =>
    intro us h pre
    unfold fillV at h
    split at h
    · rename_i zs md hl
      obtain ⟨vs, h1, h2⟩ := Option.map_eq_some_iff.mp h
      obtain ⟨hv, hm⟩ := lstV_some hl
      obtain ⟨d2, e1, e2⟩ := I.at_ i _ _ hv
      rw [e] at e1
      cases e1
      obtain ⟨r, us', rfl, _, nf, nb, cn, l⟩ := e2.may hm
      obtain ⟨oks, g1, g2, g3⟩ := ih h1 (pre ++ [D.ref r])
      rw [List.append_assoc, List.length_append] at g1
      refine ⟨r :: oks, ?_, ⟨e, g2⟩, fun k hk => (List.mem_cons.mp hk).elim (fun z => by rw [z]; exact ⟨nf, nb, cn, lstAt_of l⟩) (g3 k)⟩
      show refsAt (pre ++ D.ref r :: ds) (pre.length :: posV (pre.length + 1) xs) = _
      have hp : (pre ++ D.ref r :: ds)[pre.length]? = some (D.ref r) := by
        rw [List.getElem?_append_right (Nat.le_refl _), Nat.sub_self]
        rfl
      unfold refsAt
      rw [hp]
      dsimp only
      have g1' : refsAt (pre ++ D.ref r :: ds) (posV (pre.length + 1) xs) = some oks := g1
      rw [g1']
    · cases h
  | @temp P r us ds xs rs f np t ih =>
    intro us h pre
    unfold fillV at h
    obtain ⟨vs, h1, h2⟩ := Option.map_eq_some_iff.mp h
    obtain ⟨nf, nb, cn, l, _⟩ := f
    obtain ⟨oks, g1, g2, g3⟩ := ih h1 (pre ++ [D.ref r])
    rw [List.append_assoc, List.length_append] at g1
    refine ⟨r :: oks, ?_, ⟨rfl, g2⟩, fun k hk => (List.mem_cons.mp hk).elim (fun z => by rw [z]; exact ⟨nf, nb, cn, lstAt_of l⟩) (g3 k)⟩
    show refsAt (pre ++ D.ref r :: ds) (pre.length :: posV (pre.length + 1) xs) = _
    have hp : (pre ++ D.ref r :: ds)[pre.length]? = some (D.ref r) := by
      rw [List.getElem?_append_right (Nat.le_refl _), Nat.sub_self]
      rfl
    unfold refsAt
    rw [hp]
    dsimp only
    have g1' : refsAt (pre ++ D.ref r :: ds) (posV (pre.length + 1) xs) = some oks := g1
    rw [g1']
theorem Tells.back : ∀ {is : List (Option Nat)} {rs ks : List Nat} {k : Nat}, Tells env is rs ks → k ∈ ks → (∃ i, some i ∈ is ∧ env[i]? = some (some (.ref k))) ∨ k ∈ rs
  | [], [], [], _, _, h => nomatch h
  | some j :: is, rs, k :: ks, k', ⟨h1, h2⟩, h => by
    rcases List.mem_cons.mp h with e | e
    · subst e
      exact .inl ⟨j, List.mem_cons_self, h1⟩
    · exact (Tells.back h2 e).imp (fun ⟨i', a, b⟩ => ⟨i', List.mem_cons_of_mem _ a, b⟩) id
  | none :: is, r :: rs, k :: ks, k', ⟨h1, h2⟩, h => by
    rcases List.mem_cons.mp h with e | e
    · subst e
      subst h1
      exact .inr List.mem_cons_self
    · exact (Tells.back h2 e).imp (fun ⟨i', a, b⟩ => ⟨i', List.mem_cons_of_mem _ a, b⟩) (List.mem_cons_of_mem _)
theorem tellN_of {xs : List Ag} {i : Nat} : some i ∈ tellV xs → i ∈ tellN xs := by
  induction xs with
  | nil => exact fun h => nomatch h
  | cons x xs ih =>
    intro h
    cases x with
    | see u => exact ih h
    | give j =>
      rcases List.mem_cons.mp (show some i ∈ some j :: tellV xs from h) with e | e
      · cases e
        exact List.mem_cons_self
      · exact List.mem_cons_of_mem _ (ih e)
    | temp us =>
      rcases List.mem_cons.mp (show some i ∈ none :: tellV xs from h) with e | e
      · cases e
      · exact ih e
theorem tellV_of {xs : List Ag} {i : Nat} : i ∈ tellN xs → some i ∈ tellV xs := by
  induction xs with
  | nil => exact fun h => nomatch h
  | cons x xs ih =>
    intro h
    cases x with
    | see u => exact ih h
    | give j =>
      rcases List.mem_cons.mp (show i ∈ j :: tellN xs from h) with e | e
      · subst e
        exact List.mem_cons_self
      · exact List.mem_cons_of_mem _ (ih e)
    | temp us => exact List.mem_cons_of_mem _ (ih h)
/-- each told name is one's own -/
theorem fill_may : ∀ {xs : List Ag} {us : List U}, fillV ve xs = some us → ∀ i, i ∈ tellN xs → ∃ zs md, ve[i]? = some (some (.lst zs, md)) ∧ md.may = true := by
  intro xs
  induction xs with
  | nil => intro us _ i hi; cases hi
  | cons x xs ih =>
    intro us h i hi
    cases x with
    | see u =>
      unfold fillV at h
      obtain ⟨vs, h1, _⟩ := Option.map_eq_some_iff.mp h
      exact ih h1 i hi
    | temp u =>
      unfold fillV at h
      obtain ⟨vs, h1, _⟩ := Option.map_eq_some_iff.mp h
      exact ih h1 i hi
    | give k =>
      unfold fillV at h
      split at h
      · rename_i zs md hl
        obtain ⟨vs, h1, _⟩ := Option.map_eq_some_iff.mp h
        rcases List.mem_cons.mp (show i ∈ k :: tellN xs from hi) with e | e
        · subst e
          obtain ⟨a, b⟩ := lstV_some hl
          exact ⟨zs, md, a, b⟩
        · exact ih h1 i e
      · cases h
theorem AR.nodup {T : List Nat} {P : Nat → Prop} {ds : List D} {xs : List Ag} {rs : List Nat} (A : AR F B w st env ve T P ds xs rs) (I : InvV F B w st env ve) (hm : ∀ i, i ∈ tellN xs → ∃ zs md, ve[i]? = some (some (.lst zs, md)) ∧ md.may = true) (hn : (tellN xs).Nodup) :
    ∀ {ks : List Nat}, Tells env (tellV xs) rs ks → ks.Nodup := by
  induction A with
  | nil =>
    intro ks h
    match ks, h with
    | [], _ => exact .nil
  | see _ _ _ _ t ih => exact ih hm hn
  | @give P d i ds xs rs e t ih =>
    intro ks h
    match ks, h with
    | k :: ks, ⟨h1, h2⟩ =>
      have hn' := List.nodup_cons.mp (show (i :: tellN xs).Nodup from hn)
      refine List.nodup_cons.mpr ⟨fun hk => ?_, ih (fun j hj => hm j (List.mem_cons_of_mem _ hj)) hn'.2 h2⟩
      obtain ⟨z1, m1, a1, b1⟩ := hm i List.mem_cons_self
      rcases h2.back hk with ⟨j, hj, ej⟩ | hr
      · have hj' := tellN_of hj
        obtain ⟨z2, m2, a2, b2⟩ := hm j (List.mem_cons_of_mem _ hj')
        exact I.sep i j _ _ _ _ k (fun e => hn'.1 (e ▸ hj')) a1 a2 b1 b2 h1 ej
      · obtain ⟨_, us, _, _, _, _, hno⟩ := t.temps k hr
        exact hno i _ _ a1 b1 h1
  | @temp P r us ds xs rs f np t ih =>
    intro ks h
    match ks, h with
    | k :: ks, ⟨h1, h2⟩ =>
      subst h1
      refine List.nodup_cons.mpr ⟨fun hk => ?_, ih hm hn h2⟩
      rcases h2.back hk with ⟨j, hj, ej⟩ | hr
      · obtain ⟨z2, m2, a2, b2⟩ := hm j (tellN_of (xs := xs) hj)
        exact f.2.2.2.2 j _ _ a2 b2 ej
      · exact (t.temps r hr).1 (.inr rfl)
theorem give_spec : ∀ {is : List (Option Nat)} {os : List (List U)} {ve ve2 : VE}, giveV ve is os = some ve2 → (is.filterMap id).Nodup → ve2.length = ve.length ∧ (∀ j, some j ∉ is → ve2[j]? = ve[j]?) ∧ ∀ (rs ks : List Nat) (F : Nat → Prop) (st : Store), Tells env is rs ks → Outs F st ks os → ∀ i, some i ∈ is → ∃ u md o k, ve[i]? = some (some (u, md)) ∧ ve2[i]? = some (some (.lst o, md)) ∧ env[i]? = some (some (.ref k)) ∧ k ∈ ks ∧ ¬ F k ∧ Lst F st k o
  | [], [], ve, ve2, h, _ => by
    cases h
    exact ⟨rfl, fun _ _ => rfl, fun _ _ _ _ _ _ i hi => nomatch hi⟩
  | none :: is, o :: os, ve, ve2, h, hn => by
    obtain ⟨h1, h2, h3⟩ := give_spec (is := is) (show giveV ve is os = some ve2 from h) hn
    refine ⟨h1, fun j hj => h2 j fun z => hj (List.mem_cons_of_mem _ z), fun rs ks F st ht hO j hj => ?_⟩
    match rs, ks, ht, hO with
    | r :: rs, k :: ks, ⟨t1, t2⟩, ⟨o1, o2, o3⟩ =>
      obtain ⟨u', md', o', k', a1, a2, a3, a4, a5, a6⟩ := h3 rs ks F st t2 o3 j ((List.mem_cons.mp hj).resolve_left (fun z => by cases z))
      exact ⟨u', md', o', k', a1, a2, a3, List.mem_cons_of_mem _ a4, a5, a6⟩
  | some i :: is, o :: os, ve, ve2, h, hn => by
    unfold giveV at h
    split at h
    · rename_i u md hv
      have hn' := List.nodup_cons.mp (show (i :: is.filterMap id).Nodup from hn)
      obtain ⟨h1, h2, h3⟩ := give_spec (is := is) h hn'.2
      rw [List.length_set] at h1
      have hil := (List.getElem?_eq_some_iff.mp hv).1
      have hmem : ∀ {j}, some j ∈ is → j ∈ is.filterMap id := fun {j} hj => List.mem_filterMap.mpr ⟨some j, hj, rfl⟩
      refine ⟨h1, fun j hj => ?_, fun rs ks F st ht hO j hj => ?_⟩
      · rw [h2 j fun z => hj (List.mem_cons_of_mem _ z), List.getElem?_set_ne fun z => hj (by rw [z]; exact List.mem_cons_self)]
      · match rs, ks, ht, hO with
        | rs, k :: ks, ⟨t1, t2⟩, ⟨o1, o2, o3⟩ =>
          by_cases hji : some j ∈ is
          · obtain ⟨u', md', o', k', a1, a2, a3, a4, a5, a6⟩ := h3 rs ks F st t2 o3 j hji
            have hne : i ≠ j := fun e => hn'.1 (hmem (e ▸ hji))
            rw [List.getElem?_set_ne hne] at a1
            exact ⟨u', md', o', k', a1, a2, a3, List.mem_cons_of_mem _ a4, a5, a6⟩
          · have e : j = i := by
              have := (List.mem_cons.mp hj).resolve_right hji
              cases this
              rfl
            subst e
            exact ⟨u, md, o, k, hv, by rw [h2 j hji, List.getElem?_set_self hil], t1, List.mem_cons_self, o1, o2⟩
    · cases h
  | [], _ :: _, _, _, h, _ => by cases h
  | some _ :: _, [], _, _, h, _ => by cases h
  | none :: _, [], _, _, h, _ => by cases h
theorem tell_filter (xs : List Ag) : (tellV xs).filterMap id = tellN xs := by
  induction xs with
  | nil => rfl
  | cons x xs ih =>
    cases x with
    | see u => exact ih
    | give i => exact congrArg (i :: ·) ih
    | temp us => exact ih
/-- what is looked at is not what is changed -/
theorem AR.apart {T : List Nat} {P : Nat → Prop} {ds : List D} {ys : List Ag} {rs : List Nat} (A : AR F B w st env ve T P ds ys rs) {O : Nat → Prop} (hO : ∀ k, O k → (∃ i ui mi, i ∈ T ∧ ve[i]? = some (some (ui, mi)) ∧ mi.may = true ∧ env[i]? = some (some (.ref k))) ∨ P k ∨ k ∈ rs) :
    ∀ (n j : Nat) (d : D), ds[j]? = some d → (n + j) ∉ posV n ys → ∀ k, O k → d ≠ .ref k := by
  induction A with
  | nil => intro n j d hj; cases hj
  | @see P d u ds xs rs r hT hP hR t ih =>
    intro n j d' hj hn k hk
    cases j with
    | zero =>
      cases hj
      rcases hO k hk with ⟨i, ui, mi, a1, a2, a3, a4⟩ | z | z
      · exact hT i a1 ui mi k a2 a3 a4
      · exact hP k z
      · exact hR k z
    | succ j => exact ih hO (n + 1) j d' hj (by rw [show n + 1 + j = n + (j + 1) by omega]; exact hn) k hk
  | give e t ih =>
    intro n j d' hj hn k hk
    cases j with
    | zero => exact absurd List.mem_cons_self hn
    | succ j => exact ih hO (n + 1) j d' hj (fun z => hn (List.mem_cons_of_mem _ (by rw [show n + (j + 1) = n + 1 + j by omega]; exact z))) k hk
  | @temp P r us ds xs rs f np t ih =>
    intro n j d' hj hn k hk
    cases j with
    | zero => exact absurd List.mem_cons_self hn
    | succ j =>
      refine ih (fun k hk => ?_) (n + 1) j d' hj (fun z => hn (List.mem_cons_of_mem _ (by rw [show n + (j + 1) = n + 1 + j by omega]; exact z))) k hk
      rcases hO k hk with z | z | z
      · exact .inl z
      · exact .inr (.inl (.inl z))
      · rcases List.mem_cons.mp z with e | e
        · exact .inr (.inl (.inr e))
        · exact .inr (.inr e)
/-- a call -/
theorem call_sim {c : Cfg} {cf : Wr → Nat → List D → Store → Rs D} {cV : Nat → List U → Option (RV (U × Bool) × List (List U))} (hC : SimC c cf cV) {f : Nat} {ds : List D} {xs : List Ag} {rs : List Nat} {us : List U} {r : RV (U × Bool)} {os : List (List U)} {ve2 : VE}
    (I : InvV F B w st env ve) (A : AR F B w st env ve (tellN xs) (fun _ => False) ds xs rs) (h1 : fillV ve xs = some us) (h2 : (tellN xs).Nodup) (h3 : posV 0 xs = psOf c f) (h4 : cV f us = some (r, os)) (h5 : giveV ve (tellV xs) os = some ve2) :
    Sm F B w st env ve (cf w f ds st) r ve2 (RR B w env ve2) := by
  obtain ⟨oks, k1, k2, k3⟩ := A.tells I h1 []
  have k1' : refsAt ds (psOf c f) = some oks := by
    rw [← h3]
    exact k1
  have hmay := fill_may h1
  have hnd := A.nodup I hmay h2 k2
  have hap : ∀ (j : Nat) (d : D), ds[j]? = some d → j ∉ psOf c f → ∀ k, k ∈ oks → d ≠ .ref k := by
    rw [← h3]
    intro j d hj hn k hk
    refine A.apart (O := fun k => k ∈ oks) (fun k hk => ?_) 0 j d hj (by rw [Nat.zero_add]; exact hn) k hk
    rcases k2.back hk with ⟨i, hi, ei⟩ | hr
    · obtain ⟨zs, md, a, b⟩ := hmay i (tellN_of hi)
      exact .inl ⟨i, _, md, tellN_of hi, a, b, ei⟩
    · exact .inr (.inr hr)
  obtain ⟨res, st1, F1, e1, s1, low1, hO, hR⟩ := hC f us r os h4 F w st ds oks I.lim (fun q h => I.low q (.inl h)) (A.rps I h1) k1' (fun k hk => ⟨(k3 k hk).1, (k3 k hk).2.2.1, (k3 k hk).2.2.2⟩) hnd hap
  have sB : Stp F B st F1 st1 := s1.lessB fun q hq => ⟨I.low q (.inr hq), fun hk => (k3 q hk).2.1 hq⟩
  obtain ⟨g1, g2, g3⟩ := give_spec (env := env) h5 (by rw [tell_filter]; exact h2)
  have g4 := g3 rs oks F1 st1 k2 hO
  -- the others' lists
  have hoth : ∀ (j : Nat) (uj : U) (mj : Md) (q : Nat), some j ∉ tellV xs → ve[j]? = some (some (uj, mj)) → mj.may = true → env[j]? = some (some (.ref q)) → q < st.length → q ∉ oks := fun j uj mj q hj hv hm he hq hk => by
    rcases k2.back hk with ⟨i, hi, ei⟩ | hr
    · obtain ⟨zs, md, a, b⟩ := hmay i (tellN_of hi)
      exact I.sep i j _ _ _ _ q (fun e => hj (e ▸ hi)) a hv b hm ei he
    · obtain ⟨_, us, _, _, _, _, hno⟩ := A.temps q hr
      exact hno j _ _ hv hm he
  have back : ∀ (j : Nat) (x : U × Md), ve2[j]? = some (some x) → ∃ u0, ve[j]? = some (some (u0, x.2)) := fun j x h => by
    by_cases hj : some j ∈ tellV xs
    · obtain ⟨u, md, o, k, a1, a2, _⟩ := g4 j hj
      rw [a2] at h
      cases h
      exact ⟨u, a1⟩
    · rw [g2 j hj] at h
      exact ⟨x.1, h⟩
  have I2 : InvV F1 B w st1 env ve2 := by
    refine ⟨by rw [g1]; exact I.len, Nat.le_trans I.lim s1.len, fun q h => h.elim (low1 q) fun z => Nat.lt_of_lt_of_le (I.low q (.inr z)) s1.len, fun j uj mj hj => ?_, fun j k uj uk mj mk q hjk hj hk m1 m2 e2 e3 => ?_⟩
    · by_cases hjt : some j ∈ tellV xs
      · obtain ⟨u, md, o, k, a1, a2, a3, a4, a5, a6⟩ := g4 j hjt
        rw [a2] at hj
        cases hj
        refine ⟨_, a3, ?_⟩
        obtain ⟨zs, md', b1, b2⟩ := hmay j (tellN_of hjt)
        rw [a1] at b1
        cases b1
        have z : ∃ r' us', D.ref k = D.ref r' ∧ U.lst o = U.lst us' ∧ ¬ F1 r' ∧ ¬ B r' ∧ w.can r' = true ∧ Lst F1 st1 r' us' := ⟨k, o, rfl, rfl, a5, (k3 k a4).2.1, (k3 k a4).2.2.1, a6⟩
        cases mj with
        | own => exact z
        | mu => exact z
        | bor => cases b2
        | frz => cases b2
      · rw [g2 j hjt] at hj
        obtain ⟨dd, e2, e3⟩ := I.at_ j uj mj hj
        refine ⟨dd, e2, ?_⟩
        have go : mj.may = true → ∃ r' us', dd = D.ref r' ∧ uj = U.lst us' ∧ ¬ F1 r' ∧ ¬ B r' ∧ w.can r' = true ∧ Lst F1 st1 r' us' := fun hm => by
          obtain ⟨q, us2, rfl, rfl, nf, nb, cn, l⟩ := e3.may hm
          have hq := lstAt_of l
          have hk := hoth j _ mj q hjt hj hm e2 hq
          exact ⟨q, us2, rfl, rfl, fun z => (s1.new q z).elim nf fun y => y ⟨hq, hk⟩, nb, cn, s1.lst (s1.keep q (.inr ⟨hq, hk⟩)) l⟩
        cases mj with
        | frz => exact sB.rep e3
        | bor => exact e3.imp sB.rep fun ⟨q, us, a1, a2, a3, a4⟩ => ⟨q, us, a1, a2, a3, sB.lst (sB.keep q (.inr a3)) a4⟩
        | own => exact go rfl
        | mu => exact go rfl
    · obtain ⟨u1, b1⟩ := back j _ hj
      obtain ⟨u2, b2⟩ := back k _ hk
      exact I.sep j k u1 u2 mj mk q hjk b1 b2 m1 m2 e2 e3
  have K2 : Bk env ve env ve2 := ⟨fun j uj hj => by
      by_cases hjt : some j ∈ tellV xs
      · obtain ⟨u, md, o, k, a1, a2, _⟩ := g4 j hjt
        rw [a2] at hj
        cases hj
        obtain ⟨zs, md', b1, b2⟩ := hmay j (tellN_of hjt)
        rw [a1] at b1
        cases b1
        cases b2
      · rw [g2 j hjt] at hj
        exact ⟨hj, rfl⟩, fun j uj hj => by
      obtain ⟨u0, h0⟩ := back j _ hj
      exact ⟨⟨u0, h0⟩, rfl⟩⟩
  have o2 : Out F B w st env ve F1 st1 env ve2 := ⟨sB, I2, K2⟩
  cases r with
  | ok p =>
    obtain ⟨u, fr⟩ := p
    cases fr with
    | false =>
      obtain ⟨d, rfl, q⟩ := hR
      exact ⟨d, st1, F1, e1, o2, q⟩
    | true =>
      obtain ⟨q, us2, rfl, rfl, hq, nf, l⟩ := hR
      refine ⟨.ref q, st1, F1, e1, o2, q, us2, rfl, rfl, nf, fun z => Nat.lt_irrefl _ (Nat.lt_of_le_of_lt hq (I.low q (.inr z))), can_new (Nat.le_trans I.lim hq), l, fun i ui mi hi hm he => ?_⟩
      obtain ⟨u0, h0⟩ := back i _ hi
      obtain ⟨dd, a1, a2⟩ := I.at_ i u0 mi h0
      rw [he] at a1
      cases a1
      obtain ⟨q2, _, eq2, _, _, _, _, l2⟩ := a2.may hm
      cases eq2
      exact Nat.lt_irrefl _ (Nat.lt_of_le_of_lt hq (lstAt_of l2))
  | ex x =>
    obtain ⟨ds', rfl, q⟩ := hR
    exact ⟨ds', st1, F1, e1, o2, q⟩
end
end Iv
end
section
set_option Elab.async false
set_option linter.all false
set_option maxRecDepth 100000
/-! IvVe: expressions by values. -/
namespace Iv
open PySem L2
section
variable {c : Cfg} {cf : Wr → Nat → List D → Store → Rs D} {cV : Nat → List U → Option (RV (U × Bool) × List (List U))} {w : Wr}
abbrev RE (e : E) (esc : Bool) (B : Nat → Prop) (w : Wr) (env : Evn) (ve : VE) : (Nat → Prop) → Store → D → (U × Bool) → Prop := fun F' st' d p => Res F' B w st' env ve e esc p.2 d p.1
def SimE (c : Cfg) (cf : Wr → Nat → List D → Store → Rs D) (cV : Nat → List U → Option (RV (U × Bool) × List (List U))) (w : Wr) (e : E) : Prop :=
  ∀ (esc : Bool) (F B : Nat → Prop) (env : Evn) (ve : VE) (st : Store) (r : RV (U × Bool)) (ve' : VE), InvV F B w st env ve → evV c cV e esc ve = some (r, ve') → Sm F B w st env ve (evE c cf w e env st) r ve' (RE e esc B w env ve')
def SimEs (c : Cfg) (cf : Wr → Nat → List D → Store → Rs D) (cV : Nat → List U → Option (RV (U × Bool) × List (List U))) (w : Wr) (es : Es) : Prop :=
  ∀ (F B : Nat → Prop) (env : Evn) (ve : VE) (st : Store) (r : RV (List U)) (ve' : VE), InvV F B w st env ve → evVs c cV es ve = some (r, ve') → Sm F B w st env ve (evEs c cf w es env st) r ve' (fun F' st' ds us => Reps F' st' ds us)
def SimVl (c : Cfg) (cf : Wr → Nat → List D → Store → Rs D) (cV : Nat → List U → Option (RV (U × Bool) × List (List U))) (w : Wr) (es : Es) : Prop :=
  ∀ (F B : Nat → Prop) (env : Evn) (ve : VE) (st : Store) (r : RV (List U)) (ve' : VE), InvV F B w st env ve → evVl c cV es ve = some (r, ve') → Sm F B w st env ve (evEs c cf w es env st) r ve' (fun F' st' ds us => Rps F' st' ds us)
def SimVa (c : Cfg) (cf : Wr → Nat → List D → Store → Rs D) (cV : Nat → List U → Option (RV (U × Bool) × List (List U))) (w : Wr) (es : Es) : Prop :=
  ∀ (ps T : List Nat) (k : Nat) (P F B : Nat → Prop) (env : Evn) (ve : VE) (st : Store) (r : RV (List Ag)) (ve' : VE), apartV ps T k es = true → (∀ p, P p → B p ∧ ¬ F p ∧ ∀ (j : Nat) (u : U), ve[j]? = some (some (u, .bor)) → env[j]? ≠ some (some (.ref p))) →
    InvV F B w st env ve → evVa c cV ps k es ve = some (r, ve') → Sm F B w st env ve (evEs c cf w es env st) r ve' (fun F' st' ds us => ∃ rs, AR F' B w st' env ve' T P ds us rs)
def SimAnd (c : Cfg) (cf : Wr → Nat → List D → Store → Rs D) (cV : Nat → List U → Option (RV (U × Bool) × List (List U))) (w : Wr) (es : Es) : Prop :=
  ∀ (F B : Nat → Prop) (env : Evn) (ve : VE) (st : Store) (r : RV (U × Bool)) (ve' : VE), InvV F B w st env ve → evVAnd c cV es ve = some (r, ve') → Sm F B w st env ve (evAnd c cf w es env st) r ve' (RR B w env ve')
def SimOr (c : Cfg) (cf : Wr → Nat → List D → Store → Rs D) (cV : Nat → List U → Option (RV (U × Bool) × List (List U))) (w : Wr) (es : Es) : Prop :=
  ∀ (F B : Nat → Prop) (env : Evn) (ve : VE) (st : Store) (r : RV (U × Bool)) (ve' : VE), InvV F B w st env ve → evVOr c cV es ve = some (r, ve') → Sm F B w st env ve (evOr c cf w es env st) r ve' (RR B w env ve')
theorem Rep.r0 {F B : Nat → Prop} {st : Store} {env : Evn} {ve : VE} {d : D} {u : U} (h : Rep F st d u) : Res0 F B w st env ve false d u := h
theorem rcv_sim {F : Nat → Prop} {st : Store} {m : Mt} {d : D} {u : U} (h : Rp F st d u) (e : rcvU m u = true) : mtRcv m d = true := by
  cases m with
  | index =>
    cases u <;> first | (cases e; done) | skip
    · cases h.rep rfl
      rfl
    · obtain ⟨r, xs, rfl, _⟩ := h.lst
      rfl
  | join =>
    cases u <;> first | (cases e; done) | skip
    cases h.rep rfl
    rfl
  | _ => cases e
/-- no longer held -/
theorem AR.unhold {F F1 B B' : Nat → Prop} {st st1 : Store} {env : Evn} {v0 v1 : VE} {T : List Nat} {a : E} {fr : Bool} {d0 : D} {u0 : U} (hd : Held F B B' w st env v0 a fr d0 u0) (o : Out F B' w st env (pinV a v0) F1 st1 env v1) (hne : ∀ i, i ∈ T → a ≠ .var i) {P : Nat → Prop} {ds : List D} {xs : List Ag} {rs : List Nat}
    (A : AR F1 B' w st1 env v1 T P ds xs rs) : AR F1 B w st1 env (unpinV a v0 v1) T P ds xs rs := by
  induction A with
  | nil => exact .nil
  | see r h h2 h3 t ih => exact .see r (fun i hi ui mi q h1 h2 h3 => h i hi ui mi q (by rw [unpinV_other (hne i hi)] at h1; exact h1) h2 h3) h2 h3 ih
  | give e1 t ih => exact .give e1 ih
  | @temp P r us ds xs rs f np t ih =>
    refine .temp ?_ np ih
    obtain ⟨r', us', e1, e2, hf⟩ := hd.res F1 st1 env v1 o true (.ref r) (.lst us) ⟨r, us, rfl, rfl, f⟩
    cases e1
    cases e2
    exact hf
theorem bnd_assoc {A C G : Type} (m : Rs A) (f : A → Store → Rs C) (g : C → Store → Rs G) : Iv.bnd (Iv.bnd m f) g = Iv.bnd m fun a s => Iv.bnd (f a s) g := by
  cases m with
  | none => rfl
  | some p =>
    obtain ⟨r, s⟩ := p
    cases r <;> rfl
theorem evEs_one (e : E) (env : Evn) (st : Store) : evEs c cf w (.cons e .nil) env st = Iv.bnd (evE c cf w e env st) fun x s1 => some (.ok [x], s1) := by
  unfold evEs
  unfold evEs
  rfl
theorem va_one {e : E} {ve v1 : VE} {r : RV (List U)} (h : evVl c cV (.cons e .nil) ve = some (r, v1)) : ∃ r0, evV c cV e false ve = some (r0, v1) ∧ match r0 with
    | .ok x => r = .ok [x.1]
    | .ex x => r = .ex x := by
  unfold evVl at h
  rcases bndV_some h with ⟨x, e1, e2⟩ | ⟨x, v2, e1, e2⟩
  · exact ⟨.ex x, e1, e2⟩
  · obtain ⟨v3, e3, e4⟩ := unpV_some e2
    unfold evVl at e3
    rcases bndV_some e3 with ⟨x, e5, _⟩ | ⟨ys, v4, e5, e6⟩
    · cases e5
    · cases e5
      cases e6
      rw [unpin_pin] at e4
      subst e4
      exact ⟨.ok x, e1, rfl⟩
def Es.len : Es → Nat
  | .nil => 0
  | .cons _ es => Es.len es + 1
theorem va_len : ∀ {es : Es} {ve v1 : VE} {xs : List U}, evVl c cV es ve = some (.ok xs, v1) → xs.length = es.len
  | .nil, ve, v1, xs, h => by
    unfold evVl at h
    cases h
    rfl
  | .cons e es, ve, v1, xs, h => by
    unfold evVl at h
    rcases bndV_some h with ⟨x, _, e2⟩ | ⟨x, v1, e1, e2⟩
    · cases e2
    · obtain ⟨v2, e3, _⟩ := unpV_some e2
      rcases bndV_some e3 with ⟨x, _, e4⟩ | ⟨ys, v3, e4, e5⟩
      · cases e4
      · cases e5
        exact congrArg (· + 1) (va_len (es := es) e4)
theorem Rps.length {F : Nat → Prop} {st : Store} : ∀ {ds : List D} {us : List U}, Rps F st ds us → ds.length = us.length
  | _, _, .nil => rfl
  | _, _, .cons _ t => congrArg (· + 1) t.length
theorem last_sim {F : Nat → Prop} {st : Store} {xs : List D} {us : List U} {u : U} (q : Reps F st xs us) (h : us.getLast? = some u) : ∃ d, xs.getLast? = some d ∧ Rep F st d u := by
  rw [List.getLast?_eq_getElem?] at h ⊢
  rw [q.length]
  exact q.get h
theorem Sm.re {F B : Nat → Prop} {st : Store} {env : Evn} {ve ve' : VE} {m : Rs D} {r : RV (U × Bool)} {e : E} {esc : Bool} (h : Sm F B w st env ve m r ve' (RR B w env ve')) : Sm F B w st env ve m r ve' (RE e esc B w env ve') := h.mono fun _ _ _ _ _ q => .inl q
theorem apart_nil (ps : List Nat) : ∀ (es : Es) (k : Nat), apartV ps [] k es = true
  | .nil, _ => rfl
  | .cons e es, k => by
    unfold apartV
    rw [apart_nil ps es (k + 1)]
    cases e <;> first | rfl | (simp only [List.contains_nil, Bool.not_false, Bool.or_true, Bool.true_and])
theorem int_rp {F : Nat → Prop} {st : Store} {d : D} {i : Int} (h : Rp F st d (.int i)) : d = .int i := int_of h
theorem bl_rp {F : Nat → Prop} {st : Store} {d : D} {i : Bool} (h : Rp F st d (.bl i)) : d = .bl i := by
  cases h.rep rfl
  rfl
def turnD (c : Cfg) (cf : Wr → Nat → List D → Store → Rs D) (w : Wr) (cs : Es) (e : E) : Evn → Store → Rs (Option D) := fun e1 s2 => match cs with
  | .nil => Iv.bnd (evE c cf w e e1 s2) fun d s3 => some (.ok (some d), s3)
  | .cons t .nil => Iv.bnd (evE c cf w t e1 s2) fun k s3 => match k with
    | .bl true => Iv.bnd (evE c cf w e e1 s3) fun d s4 => some (.ok (some d), s4)
    | .bl false => some (.ok none, s3)
    | _ => none
  | _ => none
def turnU (c : Cfg) (cV : Nat → List U → Option (RV (U × Bool) × List (List U))) (cs : Es) (e : E) : VE → Vs (Option U) := fun e2 => match cs with
  | .nil => bndV (evV c cV e true e2) fun d e3 => some (.ok (some d.1), e3)
  | .cons t .nil => bndV (evV c cV t false e2) fun k e3 => match k.1 with
    | .bl true => bndV (evV c cV e true e3) fun d e4 => some (.ok (some d.1), e4)
    | .bl false => some (.ok none, e3)
    | _ => none
  | _ => none
theorem noEx_some {A : Type} {m : Vs A} {r : RV A} {v : VE} (h : noEx m = some (r, v)) : ∃ a, r = .ok a ∧ m = some (.ok a, v) := by
  unfold noEx at h
  split at h
  · cases h
    exact ⟨_, rfl, rfl⟩
  · cases h
/-- a comprehension behind its source -/
theorem comp_fin {F : Nat → Prop} {B : Nat → Prop} {st : Store} {env : Evn} {ve ve' : VE} {f : Evn → Store → Rs (Option D)} {fV : VE → Vs (Option U)} (hF : SimF w f fV) {g : Tg} {own : List Nat} {k : Ik} {es : Es} {r : RV (U × Bool)}
    {a : E} {fr : Bool} {d : D} {u : U} {ds : List D} {us : List U} (I : InvV F B w st env ve) (hr : Res F B w st env ve a false fr d u) (hp : ∀ v, pinS es v = pinV a v) (hu : ∀ v v', unpinS es v v' = unpinV a v v') (hds : Rps F st ds us) (h1 : ∀ q, ds = [.ref q] → d = .ref q)
    (h : (match srcU k us with
      | some us => if !tgOwn own g then none else bndV (unpS es ve (noEx (cmpV fV g us [] (wipeV (pinS es ve) own)))) fun ys e2 => some (.ok (.lst ys, true), backV ve own e2)
      | none => none) = some (r, ve')) :
    Sm F B w st env ve (match srcOf k ds st with
      | some s => cmpSrc f g (wipeD env own) s st
      | none => none) r ve' (RR B w env ve') := by
  split at h
  · rename_i vs hvs
    split at h
    · cases h
    · rename_i ho
      have ho' : tgOwn own g = true := by
        cases hb : tgOwn own g with
        | true => rfl
        | false => rw [hb] at ho; exact absurd rfl ho
      rcases bndV_some h with ⟨x, e1, _⟩ | ⟨ys, v2, e1, e2⟩
      · unfold unpS at e1
        split at e1
        · rename_i hh
          cases e1
          obtain ⟨_, e3, _⟩ := noEx_some hh
          cases e3
        · cases e1
      · cases e2
        unfold unpS at e1
        split at e1
        · rename_i r0 v3 hh
          cases e1
          obtain ⟨ys', e3, e4⟩ := noEx_some hh
          cases e3
          rw [hp] at e4
          obtain ⟨s, hs, hR⟩ := src_sim hds hvs
          rw [hs]
          have hs' : (∃ xs, s = .ds xs ∧ Reps F st xs vs) ∨ ∃ r xs, s = .lr r ∧ d = .ref r ∧ lstAt st r = some xs ∧ Reps F st xs vs := by
            cases s with
            | ds xs => exact .inl ⟨xs, rfl, hR⟩
            | lr q =>
              obtain ⟨ed, xs, l, qs⟩ := hR
              exact .inr ⟨q, xs, rfl, h1 q ed, l, qs⟩
          obtain ⟨d', st', F', k1, k2, k3⟩ := comp_sim hF ho' I hr hs' e4
          rw [hu]
          exact ⟨d', st', F', k1, k2, k3⟩
        · cases e1
  · cases h
/-- behind a method's receiver -/
theorem var_ev {i : Nat} {d : D} {env : Evn} {st : Store} (h : env[i]? = some (some d)) : evE c cf w (.var i) env st = some (.ok d, st) := by
  unfold evE
  rw [h]
mutual
theorem sim_E (hC : SimC c cf cV) : ∀ e : E, SimE c cf cV w e
  | .var i => fun esc F B env ve st r ve' I h => by
    have h' : rdU esc ve i = some (r, ve') := by
      unfold evV at h
      exact h
    cases r with
    | ok p =>
      obtain ⟨d, F', e1, o, q⟩ := rd_sim I h'
      exact ⟨d, st, F', var_ev e1, o, q⟩
    | ex x => exact absurd h' rd_ex
  | .glb i => fun esc F B env ve st r ve' I h => by
    unfold evV at h
    split at h
    · rename_i d hd
      split at h
      · rename_i hp
        cases h
        refine Sm.now (a := d) I ?_ (.inl (Rep.r0 (Rep.up hp)))
        unfold evE
        rw [hd]
      · cases h
    · cases h
  | .cst d => fun esc F B env ve st r ve' I h => by
    unfold evV at h
    split at h
    · rename_i hp
      cases h
      refine Sm.now (a := d) I ?_ (.inl (Rep.r0 (Rep.up hp)))
      unfold evE
      rfl
    · cases h
  | .bin o a b => fun esc F B env ve st r ve' I h => by
    unfold evV at h
    unfold evE
    refine Sm.re (Sm.bindV h (fun r1 v1 e => sim_E hC a false F B env ve st r1 v1 I e) fun x v1 d st1 F1 e o1 q h2 => ?_)
    refine Sm.hold0 o1.inv q h2 fun B' v2 hd e2 => ?_
    refine Sm.bindV e2 (fun r1 v1 e => sim_E hC b false F1 B' env _ st1 r1 v1 hd.inv e) fun y v3 dy st2 F2 e3 o2 q2 h3 => ?_
    exact Sm.op o2.inv h3 fun z fr hz => bin_sim (hd.val _ _ o2.stp) (q2.rp o2.inv) hz
  | .neg a => fun esc F B env ve st r ve' I h => by
    unfold evV at h
    unfold evE
    refine Sm.bindV h (fun r1 v1 e => sim_E hC a false F B env ve st r1 v1 I e) fun x v1 d st1 F1 e o1 q h2 => ?_
    obtain ⟨xu, xf⟩ := x
    dsimp only at h2
    split at h2
    · rename_i i
      cases h2
      have ed := int_of (q.rp o1.inv)
      subst ed
      exact Sm.now (a := .int (-i)) o1.inv rfl (.inl (Rep.r0 (.int _)))
    · cases h2
  | .cmp o a b => fun esc F B env ve st r ve' I h => by
    unfold evV at h
    unfold evE
    refine Sm.re (Sm.bindV h (fun r1 v1 e => sim_E hC a false F B env ve st r1 v1 I e) fun x v1 d st1 F1 e o1 q h2 => ?_)
    refine Sm.hold0 o1.inv q h2 fun B' v2 hd e2 => ?_
    refine Sm.bindV e2 (fun r1 v1 e => sim_E hC b false F1 B' env _ st1 r1 v1 hd.inv e) fun y v3 dy st2 F2 e3 o2 q2 h3 => ?_
    split at h3
    · rename_i k hk
      cases h3
      have hc := cmp_sim (hd.val _ _ o2.stp) (q2.rp o2.inv) hk
      exact Sm.now (a := .bl k) o2.inv (by rw [hc]) (Rep.r0 (.bl k))
    · cases h3
  | .cmp2 o1 o2 a b e => fun esc F B env ve st r ve' I h => by
    unfold evV at h
    unfold evE
    refine Sm.re (Sm.bindV h (fun r1 v1 e => sim_E hC a false F B env ve st r1 v1 I e) fun x v1 d st1 F1 e1 oo q h2 => ?_)
    refine Sm.hold0 oo.inv q h2 fun B' v2 hd e2 => ?_
    refine Sm.bindV e2 (fun r1 v1 e => sim_E hC b false F1 B' env _ st1 r1 v1 hd.inv e) fun y v3 dy st2 F2 e3 o2' q2 h3 => ?_
    split at h3
    · rename_i hk
      have hc := cmp_sim (hd.val _ _ o2'.stp) (q2.rp o2'.inv) hk
      rw [hc]
      refine Sm.hold0 o2'.inv q2 h3 fun B2 v4 hd2 e4 => ?_
      refine Sm.bindV e4 (fun r1 v1 e' => sim_E hC e false F2 B2 env _ st2 r1 v1 hd2.inv e') fun z v5 dz st3 F3 e5 o3 q3 h4 => ?_
      split at h4
      · rename_i k hk2
        cases h4
        have hc2 := cmp_sim (hd2.val _ _ o3.stp) (q3.rp o3.inv) hk2
        exact Sm.now (a := .bl k) o3.inv (by rw [hc2]) (Rep.r0 (.bl k))
      · cases h4
    · rename_i hk
      cases h3
      have hc := cmp_sim (hd.val _ _ o2'.stp) (q2.rp o2'.inv) hk
      exact Sm.now (a := .bl false) o2'.inv (by rw [hc]) (Rep.r0 (.bl false))
    · cases h3
  | .and es => fun esc F B env ve st r ve' I h => by
    unfold evV at h
    unfold evE
    exact Sm.re (sim_And hC es F B env ve st r ve' I h)
  | .or es => fun esc F B env ve st r ve' I h => by
    unfold evV at h
    unfold evE
    exact Sm.re (sim_Or hC es F B env ve st r ve' I h)
  | .not a => fun esc F B env ve st r ve' I h => by
    unfold evV at h
    unfold evE
    refine Sm.bindV h (fun r1 v1 e => sim_E hC a false F B env ve st r1 v1 I e) fun x v1 d st1 F1 e o1 q h2 => ?_
    obtain ⟨xu, xf⟩ := x
    dsimp only at h2
    split at h2
    · rename_i i
      cases h2
      have ed := bl_rp (q.rp o1.inv)
      subst ed
      exact Sm.now (a := .bl (!i)) o1.inv rfl (.inl (Rep.r0 (.bl _)))
    · cases h2
  | .ife e a b => fun esc F B env ve st r ve' I h => by
    unfold evV at h
    unfold evE
    refine Sm.re (Sm.bindV h (fun r1 v1 e' => sim_E hC e false F B env ve st r1 v1 I e') fun x v1 d st1 F1 e' o1 q h2 => ?_)
    obtain ⟨xu, xf⟩ := x
    dsimp only at h2
    split at h2
    · have ed := bl_rp (q.rp o1.inv)
      subst ed
      exact (sim_E hC a true F1 B env v1 st1 r ve' o1.inv h2).mono fun _ _ _ _ _ q => q.strict
    · have ed := bl_rp (q.rp o1.inv)
      subst ed
      exact (sim_E hC b true F1 B env v1 st1 r ve' o1.inv h2).mono fun _ _ _ _ _ q => q.strict
    · cases h2
  | .tup es => fun esc F B env ve st r ve' I h => by
    unfold evV at h
    unfold evE
    refine Sm.re (Sm.bindV h (fun r1 v1 e => sim_Es hC es F B env ve st r1 v1 I e) fun xs v1 ds st1 F1 e o1 q h2 => ?_)
    split at h2
    · rename_i hz
      cases h2
      exact Sm.now (a := .tup ds) o1.inv (by rw [if_pos (by rw [q.length]; exact hz)]) (Rep.r0 (.tup q))
    · cases h2
  | .lst es => fun esc F B env ve st r ve' I h => by
    unfold evV at h
    unfold evE
    refine Sm.re (Sm.bindV h (fun r1 v1 e => sim_Es hC es F B env ve st r1 v1 I e) fun xs v1 ds st1 F1 e o1 q h2 => ?_)
    split at h2
    · rename_i hz
      cases h2
      obtain ⟨d, st2, e1, o2, q2⟩ := op_out o1.inv (OpS.l (m := newL st1 ds) rfl q)
      exact ⟨d, st2, F1, by rw [if_pos (by rw [q.length]; exact hz)]; exact e1, o2, q2⟩
    · cases h2
  | .idx a b => fun esc F B env ve st r ve' I h => by
    unfold evV at h
    unfold evE
    refine Sm.re (Sm.bindV h (fun r1 v1 e => sim_E hC a false F B env ve st r1 v1 I e) fun x v1 d st1 F1 e o1 q h2 => ?_)
    refine Sm.hold0 o1.inv q h2 fun B' v2 hd e2 => ?_
    refine Sm.bindV e2 (fun r1 v1 e => sim_E hC b false F1 B' env _ st1 r1 v1 hd.inv e) fun y v3 dy st2 F2 e3 o2 q2 h3 => ?_
    exact Sm.op o2.inv h3 fun z fr hz => idx_sim (hd.val _ _ o2.stp) (q2.rp o2.inv) hz
  | .slc a lo hi => fun esc F B env ve st r ve' I h => by
    unfold evV at h
    unfold evE
    refine Sm.re (Sm.bindV h (fun r1 v1 e => sim_E hC a false F B env ve st r1 v1 I e) fun x v1 d st1 F1 e o1 q h2 => ?_)
    refine Sm.hold0 o1.inv q h2 fun B' v2 hd e2 => ?_
    refine Sm.bindV e2 (fun r1 v1 e => sim_Es hC lo F1 B' env _ st1 r1 v1 hd.inv e) fun y v3 dy st2 F2 e3 o2 q2 h3 => ?_
    split at h3
    · rename_i l hl
      rw [q2.partD, hl]
      refine Sm.bindV h3 (fun r1 v1 e => sim_Es hC hi F2 B' env _ st2 r1 v1 o2.inv e) fun y v3 dy st3 F3 e4 o3 q3 h4 => ?_
      split at h4
      · rename_i h hh
        rw [q3.partD, hh]
        exact Sm.op o3.inv h4 fun z fr hz => slc_sim (hd.val _ _ (o2.trans o3).stp) hz
      · cases h4
    · cases h3
  | .rev a => fun esc F B env ve st r ve' I h => by
    unfold evV at h
    unfold evE
    refine Sm.re (Sm.bindV h (fun r1 v1 e => sim_E hC a false F B env ve st r1 v1 I e) fun x v1 d st1 F1 e o1 q h2 => ?_)
    exact Sm.op o1.inv h2 fun z fr hz => rev_sim (q.rp o1.inv) hz
  | .call f es => fun esc F B env ve st r ve' I h => by
    unfold evV at h
    unfold evE
    refine Sm.re ?_
    rcases bndV_some h with ⟨x, e1, e2⟩ | ⟨xs, v1, e1, h2⟩
    · subst e2
      exact Sm.bnd (sim_Va hC es (psOf c f) [] 0 (fun _ => False) F B env ve st _ _ (apart_nil _ es 0) (fun p z => z.elim) I e1) (fun y hy => by cases hy; exact ⟨rfl, rfl⟩) (fun y a st1 F1 hy => by cases hy)
    · split at h2
      · rename_i us hus
        split at h2
        · rename_i hcond
          simp only [Bool.and_eq_true] at hcond
          obtain ⟨⟨c1, c2⟩, c3⟩ := hcond
          have z := sim_Va hC es (psOf c f) (tellN xs) 0 (fun _ => False) F B env ve st _ _ c2 (fun p z => z.elim) I e1
          refine Sm.bnd z (fun y hy => by cases hy) (fun y ds st1 F1 hy o1 ⟨rs, q⟩ => ?_)
          cases hy
          split at h2
          · rename_i r2 os hcv
            split at h2
            · rename_i v2 hg
              cases h2
              exact call_sim hC o1.inv q hus (of_decide_eq_true c1) (of_decide_eq_true c3) hcv hg
            · cases h2
          · cases h2
        · cases h2
      · cases h2
  | .bi b es => fun esc F B env ve st r ve' I h => by
    unfold evV at h
    unfold evE
    refine Sm.re (Sm.bindV h (fun r1 v1 e => sim_Vl hC es F B env ve st r1 v1 I e) fun xs v1 ds st1 F1 e o1 q h2 => ?_)
    exact Sm.op o1.inv h2 fun z fr hz => bi_sim q hz
  | .lrg es => fun esc F B env ve st r ve' I h => by
    unfold evV at h
    unfold evE
    refine Sm.re (Sm.bindV h (fun r1 v1 e => sim_Es hC es F B env ve st r1 v1 I e) fun xs v1 ds st1 F1 e o1 q h2 => ?_)
    split at h2
    · rename_i a b hr
      split at h2
      · rename_i hz
        cases h2
        obtain ⟨d, st2, e1, o2, q2⟩ := op_out o1.inv (OpS.l (m := newL st1 (rngD a b)) rfl (Reps.rng a b))
        refine ⟨d, st2, F1, ?_, o2, q2⟩
        rw [q.rangeD, hr]
        dsimp only
        rw [if_pos hz]
        exact e1
      · cases h2
    · cases h2
  | .mth m o es => fun esc F B env ve st r ve' I h => by
    have gen : ∀ m, rcvU m = rcvU m → (bndV (evV c cV o false ve) fun x e1 => if !rcvU m x.1 then none else unpV o e1 (bndV (evVl c cV es (pinV o e1)) fun xs e2 => retV (mthU m x.1 xs) e2)) = some (r, ve') →
        Sm F B w st env ve (Iv.bnd (evE c cf w o env st) fun x s1 => if mtRcv m x then Iv.bnd (evEs c cf w es env s1) fun xs s2 => mthD m w x xs s2 else none) r ve' (RE (.mth m o es) esc B w env ve') := fun m _ h => by
      refine Sm.re (Sm.bindV h (fun r1 v1 e => sim_E hC o false F B env ve st r1 v1 I e) fun x v1 d st1 F1 e o1 q h2 => ?_)
      split at h2
      · cases h2
      · rename_i hrc
        have hrc' : rcvU m x.1 = true := by
          cases hb : rcvU m x.1 with
          | true => rfl
          | false => rw [hb] at hrc; exact absurd rfl hrc
        rw [if_pos (rcv_sim (q.rp o1.inv) hrc')]
        refine Sm.hold0 o1.inv q h2 fun B' v2 hd e2 => ?_
        refine Sm.bindV e2 (fun r1 v1 e => sim_Vl hC es F1 B' env _ st1 r1 v1 hd.inv e) fun y v3 dy st2 F2 e3 o2 q2 h3 => ?_
        exact Sm.op o2.inv h3 fun z fr hz => (mth_sim (hd.val _ _ o2.stp) q2 hz).2
    cases m with
    | append =>
      cases o <;> first | (unfold evV at h; cases h; done) | skip
      rename_i i
      cases es with
      | nil => unfold evV at h; cases h
      | cons e es =>
        cases es with
        | cons _ _ => unfold evV at h; cases h
        | nil =>
          unfold evV at h
          dsimp only at h
          split at h
          · rename_i z0 hl0
            obtain ⟨hv, hm⟩ := lstV_some (us := z0.1) (md := z0.2) hl0
            obtain ⟨d0, e1, e2⟩ := I.at_ i _ _ hv
            obtain ⟨r0, us0, rfl, _⟩ := e2.may hm
            unfold evE
            rw [var_ev e1]
            show Sm F B w st env ve (Iv.bnd (evEs c cf w (.cons e .nil) env st) fun xs s2 => mthD .append w (.ref r0) xs s2) r ve' _
            rw [evEs_one, bnd_assoc]
            refine Sm.re (Sm.bindV h (fun r1 v1 e' => sim_E hC e true F B env ve st r1 v1 I e') fun x v1 d st1 F1 e3 o1 q h2 => ?_)
            obtain ⟨F2, o2, q2⟩ := freeze o1.inv q.strict
            split at h2
            · rename_i xs md hl1
              split at h2
              · rename_i hz
                cases h2
                obtain ⟨hv1, hm1⟩ := lstV_some hl1
                obtain ⟨d1, k1, k2⟩ := o2.inv.at_ i _ _ hv1
                rw [e1] at k1
                cases k1
                obtain ⟨r1, us1, er, eu, nf, nb, cn, ys, l, qs⟩ := k2.may hm1
                cases er
                cases eu
                have o3 := o2.inv.chg (ys := ys ++ [d]) hv1 hm1 e1 (qs.append (.cons q2 .nil))
                refine ⟨.non, _, F2, ?_, o2.trans o3, Rep.r0 .non⟩
                show mthD .append w (.ref r0) [d] st1 = _
                simp only [mthD]
                rw [l]
                dsimp only
                rw [cn, qs.length, decide_eq_true hz]
                rfl
              · cases h2
            · cases h2
          · cases h
    | extend =>
      cases o <;> first | (unfold evV at h; cases h; done) | skip
      rename_i i
      cases es with
      | nil => unfold evV at h; cases h
      | cons e es =>
        cases es with
        | cons _ _ => unfold evV at h; cases h
        | nil =>
          unfold evV at h
          dsimp only at h
          split at h
          · rename_i z0 hl0
            obtain ⟨hv, hm⟩ := lstV_some (us := z0.1) (md := z0.2) hl0
            obtain ⟨d0, e1, e2⟩ := I.at_ i _ _ hv
            obtain ⟨r0, us0, rfl, _⟩ := e2.may hm
            unfold evE
            rw [var_ev e1]
            show Sm F B w st env ve (Iv.bnd (evEs c cf w (.cons e .nil) env st) fun xs s2 => mthD .extend w (.ref r0) xs s2) r ve' _
            rw [evEs_one, bnd_assoc]
            refine Sm.re (Sm.bindV h (fun r1 v1 e' => sim_E hC e false F B env ve st r1 v1 I e') fun x v1 d st1 F1 e3 o1 q h2 => ?_)
            obtain ⟨xu, xf⟩ := x
            split at h2
            · rename_i xs md ys hl1 hx
              split at h2
              · rename_i hz
                cases h2
                dsimp only at hx
                subst hx
                obtain ⟨hv1, hm1⟩ := lstV_some hl1
                obtain ⟨d1, k1, k2⟩ := o1.inv.at_ i _ _ hv1
                rw [e1] at k1
                cases k1
                obtain ⟨r1, us1, er, eu, nf, nb, cn, zs, l, qs⟩ := k2.may hm1
                cases er
                cases eu
                obtain ⟨r2, ws, rfl, l2, q2⟩ := (q.rp o1.inv).lst
                have o3 := o1.inv.chg (ys := zs ++ ws) hv1 hm1 e1 (qs.append q2)
                refine ⟨.non, _, F1, ?_, o3, Rep.r0 .non⟩
                show mthD .extend w (.ref r0) [.ref r2] st1 = _
                simp only [mthD]
                rw [l, l2]
                dsimp only
                rw [cn, qs.length, q2.length, decide_eq_true hz]
                rfl
              · cases h2
            · cases h2
          · cases h
    | pop =>
      cases o <;> first | (unfold evV at h; cases h; done) | skip
      rename_i i
      cases es with
      | cons _ _ => unfold evV at h; cases h
      | nil =>
        unfold evV at h
        dsimp only at h
        split at h
        · rename_i xs md hl1
          split at h
          · rename_i x hx
            cases h
            obtain ⟨hv1, hm1⟩ := lstV_some hl1
            obtain ⟨d1, k1, k2⟩ := I.at_ i _ _ hv1
            obtain ⟨r1, us1, rfl, eu, nf, nb, cn, zs, l, qs⟩ := k2.may hm1
            cases eu
            obtain ⟨d, g1, g2⟩ := last_sim qs hx
            have o3 := I.chg (ys := zs.dropLast) hv1 hm1 k1 qs.dropLast
            refine ⟨d, _, F, ?_, o3, .inl (Rep.r0 (o3.stp.rep g2))⟩
            unfold evE
            rw [var_ev k1]
            unfold evEs
            show mthD .pop w (.ref r1) [] st = _
            simp only [mthD]
            rw [l]
            dsimp only
            rw [g1]
            dsimp only
            rw [if_pos cn]
          · cases h
        · cases h
    | _ =>
      unfold evV at h
      unfold evE
      exact gen _ rfl h
  | .isi e t => fun esc F B env ve st r ve' I h => by
    unfold evV at h
    unfold evE
    refine Sm.bindV h (fun r1 v1 e' => sim_E hC e false F B env ve st r1 v1 I e') fun x v1 d st1 F1 e' o1 q h2 => ?_
    split at h2
    · rename_i k hk
      cases h2
      exact Sm.now (a := .bl k) o1.inv (by rw [isi_sim (q.rp o1.inv) hk]) (.inl (Rep.r0 (.bl k)))
    · cases h2
  | .comp g k es cs e own => fun esc F B env ve st r ve' I h => by
    have hF : SimF w (turnD c cf w cs e) (turnU c cV cs e) := by
      intro F B st env v v2 r I h
      have elem : ∀ {F : Nat → Prop} {st : Store} {v : VE}, InvV F B w st env v → (bndV (evV c cV e true v) fun d e3 => some (.ok (some d.1), e3)) = some (r, v2) → Sm F B w st env v (Iv.bnd (evE c cf w e env st) fun d s3 => some (.ok (some d), s3)) r v2 fun F' st' od ov => match ov with
          | none => od = none
          | some u => ∃ d, od = some d ∧ Rep F' st' d u := fun {F st v} I h => by
        refine Sm.bindV h (fun r1 v1 e' => sim_E hC e true F B env v st r1 v1 I e') fun x v1 d st1 F1 e3 o1 q h2 => ?_
        obtain ⟨F2, o2, q2⟩ := freeze o1.inv q.strict
        cases h2
        exact ⟨some d, st1, F2, rfl, o2, d, rfl, q2⟩
      cases cs with
      | nil => exact elem I h
      | cons t ts =>
        cases ts with
        | cons _ _ => cases h
        | nil =>
          refine Sm.bindV h (fun r1 v1 e' => sim_E hC t false F B env v st r1 v1 I e') fun x v1 d st1 F1 e3 o1 q h2 => ?_
          obtain ⟨xu, xf⟩ := x
          dsimp only at h2
          split at h2
          · have ed := bl_rp (q.rp o1.inv)
            subst ed
            exact elem o1.inv h2
          · have ed := bl_rp (q.rp o1.inv)
            subst ed
            cases h2
            exact Sm.now (a := none) o1.inv rfl rfl
          · cases h2
    unfold evV at h
    unfold evE
    refine Sm.re ?_
    have hfin := @comp_fin w
    rcases bndV_some h with ⟨x, e1, e2⟩ | ⟨xs, v1, e1, h2⟩
    · subst e2
      exact Sm.bnd (sim_Vl hC es F B env ve st _ _ I e1) (fun y hy => by cases hy; exact ⟨rfl, rfl⟩) (fun y a st1 F1 hy => by cases hy)
    · by_cases hone : ∃ e0, es = .cons e0 .nil
      · obtain ⟨e0, rfl⟩ := hone
        obtain ⟨r0, k1, k2⟩ := va_one e1
        cases r0 with
        | ex x => cases k2
        | ok x =>
          cases k2
          show Sm F B w st env ve (Iv.bnd (evEs c cf w (.cons e0 .nil) env st) fun xs s1 => match srcOf k xs s1 with
            | some s => cmpSrc (turnD c cf w cs e) g (wipeD env own) s s1
            | none => none) r ve' _
          rw [evEs_one, bnd_assoc]
          have hE0 : SimE c cf cV w e0 := by
            cases hC' : (Es.cons e0 .nil) with
            | nil => cases hC'
            | cons a b =>
              cases hC'
              exact sim_E hC e0
          refine Sm.bnd (hE0 false F B env ve st _ _ I k1) (fun y hy => by cases hy) (fun y d st1 F1 hy o1 q => ?_)
          cases hy
          exact comp_fin hF o1.inv q (fun v => rfl) (fun v v' => rfl) (.cons (q.rp o1.inv) .nil) (fun q hq => by cases hq; rfl) h2
      · refine Sm.bnd (sim_Vl hC es F B env ve st _ _ I e1) (fun y hy => by cases hy) (fun y ds st1 F1 hy o1 q => ?_)
        cases hy
        have hps := q
        refine comp_fin (a := .cst .non) (fr := false) (d := .non) (u := .non) hF o1.inv (.inl (Rep.r0 .non)) (fun v => ?_) (fun v v' => ?_) hps (fun q2 hq => ?_) h2
        · match es, hone with
          | .nil, _ => rfl
          | .cons e0 .nil, hh => exact absurd ⟨e0, rfl⟩ hh
          | .cons _ (.cons _ _), _ => rfl
        · match es, hone with
          | .nil, _ => rfl
          | .cons e0 .nil, hh => exact absurd ⟨e0, rfl⟩ hh
          | .cons _ (.cons _ _), _ => rfl
        · have hl := hps.length
          rw [hq, va_len e1] at hl
          match es, hone, hl with
          | .nil, _, hl => cases hl
          | .cons e0 .nil, hh, _ => exact absurd ⟨e0, rfl⟩ hh
          | .cons _ (.cons _ r), _, hl => exact absurd hl (by show ¬ (1 = Es.len r + 1 + 1); omega)
theorem sim_Es (hC : SimC c cf cV) : ∀ es : Es, SimEs c cf cV w es
  | .nil => fun F B env ve st r ve' I h => by
    unfold evVs at h
    unfold evEs
    cases h
    exact Sm.now (a := []) I rfl .nil
  | .cons e es => fun F B env ve st r ve' I h => by
    unfold evVs at h
    unfold evEs
    refine Sm.bindV h (fun r1 v1 e' => sim_E hC e true F B env ve st r1 v1 I e') fun x v1 d st1 F1 e1 o1 q h2 => ?_
    obtain ⟨F2, o2, q2⟩ := freeze o1.inv q.strict
    have z : Sm F2 B w st1 env v1 (Iv.bnd (evEs c cf w es env st1) fun xs s2 => some (.ok (d :: xs), s2)) r ve' (fun F' st' ds us => Reps F' st' ds us) := by
      refine Sm.bindV h2 (fun r1 v2 e' => sim_Es hC es F2 B env v1 st1 r1 v2 o2.inv e') fun xs v2 ds st2 F3 e3 o3 q3 h3 => ?_
      cases h3
      exact Sm.now (a := d :: ds) o3.inv rfl (.cons (o3.stp.rep q2) q3)
    cases r with
    | ok us =>
      obtain ⟨a, st', F', a1, a2, a3⟩ := z
      exact ⟨a, st', F', a1, o2.trans a2, a3⟩
    | ex x =>
      obtain ⟨a, st', F', a1, a2, a3⟩ := z
      exact ⟨a, st', F', a1, o2.trans a2, a3⟩
theorem sim_Vl (hC : SimC c cf cV) : ∀ es : Es, SimVl c cf cV w es
  | .nil => fun F B env ve st r ve' I h => by
    unfold evVl at h
    unfold evEs
    cases h
    exact Sm.now (a := []) I rfl .nil
  | .cons e es => fun F B env ve st r ve' I h => by
    unfold evVl at h
    unfold evEs
    refine Sm.bindV h (fun r1 v1 e' => sim_E hC e false F B env ve st r1 v1 I e') fun x v1 d st1 F1 e1 o1 q h2 => ?_
    refine Sm.hold (R1 := fun B' v3 F' st' ds us => ∃ ds' us', ds = d :: ds' ∧ us = x.1 :: us' ∧ Rps F' st' ds' us') o1.inv q h2 (fun B' v2 hd e2 => ?_) (fun B' v3 F' st' y z hd e2 o ⟨ds', us', ey, ez, A⟩ => ?_)
    · refine Sm.bindV e2 (fun r1 v3 e' => sim_Vl hC es F1 B' env _ st1 r1 v3 hd.inv e') fun xs v3 ds st2 F3 e3 o3 q3 h3 => ?_
      cases h3
      exact Sm.now (a := d :: ds) o3.inv rfl ⟨ds, xs, rfl, rfl, q3⟩
    · subst ey
      subst ez
      exact .cons (hd.val _ _ o.stp) A
theorem sim_Va (hC : SimC c cf cV) : ∀ es : Es, SimVa c cf cV w es
  | .nil => fun ps T k P F B env ve st r ve' _ hP I h => by
    unfold evVa at h
    unfold evEs
    cases h
    exact Sm.now (a := []) I rfl ⟨[], .nil⟩
  | .cons e es => fun ps T k P F B env ve st r ve' hT hP I h => by
    unfold evVa at h
    unfold apartV at hT
    obtain ⟨hT1, hT2⟩ := Bool.and_eq_true_iff.mp hT
    unfold evEs
    -- what lies apart stays apart
    have hP2 : ∀ {F1 : Nat → Prop} {st1 : Store} {v1 : VE}, Out F B w st env ve F1 st1 env v1 → ∀ p, P p → B p ∧ ¬ F1 p ∧ ∀ (j : Nat) (u : U), v1[j]? = some (some (u, .bor)) → env[j]? ≠ some (some (.ref p)) := fun {F1 st1 v1} o p hp => by
      obtain ⟨a, b, c'⟩ := hP p hp
      exact ⟨a, fun z => (o.stp.new p z).elim b fun y => y a, fun j u hj => c' j u (o.bk.bor j u hj).1⟩
    split at h
    · rename_i hk
      split at h
      · rename_i i
        split at h
        · rename_i zs hl
          obtain ⟨hv, hm⟩ := lstV_some (us := zs.1) (md := zs.2) hl
          obtain ⟨d, e1, e2⟩ := I.at_ i _ _ hv
          rw [var_ev e1]
          show Sm F B w st env ve (Iv.bnd (evEs c cf w es env st) fun xs s2 => some (.ok (d :: xs), s2)) r ve' _
          refine Sm.bindV h (fun r1 v2 e' => sim_Va hC es ps T (k + 1) P F B env ve st r1 v2 hT2 hP I e') fun xs v2 ds st2 F3 e3 o3 ⟨rs, q3⟩ h3 => ?_
          cases h3
          exact Sm.now (a := d :: ds) o3.inv rfl ⟨rs, .give e1 q3⟩
        · cases h
      · refine Sm.bindV h (fun r1 v1 e' => sim_E hC e true F B env ve st r1 v1 I e') fun x v1 d st1 F1 e1 o1 q h2 => ?_
        obtain ⟨xu, xf⟩ := x
        split at h2
        · rename_i us hxu hxf
          dsimp only at hxu hxf
          subst hxu
          subst hxf
          have q0 := q.strict
          obtain ⟨r0, us0, rfl, eu, hf⟩ := q0
          cases eu
          have hd := hold (a := .cst .non) o1.inv (fr := true) (d := .ref r0) (u := .lst us) (.inl ⟨r0, us, rfl, rfl, hf⟩)
          have hP' : ∀ p, (P p ∨ p = r0) → HB B env v1 (.cst .non) (.ref r0) p ∧ ¬ F1 p ∧ ∀ (j : Nat) (u : U), v1[j]? = some (some (u, .bor)) → env[j]? ≠ some (some (.ref p)) := fun p hp => by
            rcases hp with hp | rfl
            · obtain ⟨a, b, c'⟩ := hP2 o1 p hp
              exact ⟨.inl a, b, c'⟩
            · refine ⟨.inr (.inl rfl), hf.1, fun j u hj he => ?_⟩
              obtain ⟨dd, k1, k2⟩ := o1.inv.at_ j u .bor hj
              rw [he] at k1
              cases k1
              rcases k2 with k2 | ⟨r2, us2, er, _, b2, _⟩
              · exact hf.1 k2.isRef
              · cases er
                exact hf.2.1 b2
          have z : Sm F1 B w st1 env v1 (Iv.bnd (evEs c cf w es env st1) fun xs s2 => some (.ok (D.ref r0 :: xs), s2)) r ve' (fun F' st' ds us => ∃ rs, AR F' B w st' env ve' T P ds us rs) := by
            have z0 : Sm F1 (HB B env v1 (.cst .non) (.ref r0)) w st1 env (pinV (.cst .non) v1) (Iv.bnd (evEs c cf w es env st1) fun xs s2 => some (.ok (D.ref r0 :: xs), s2)) r ve' (fun F' st' ds xs => ∃ ds' xs' rs, ds = D.ref r0 :: ds' ∧ xs = .temp us :: xs' ∧ AR F' (HB B env v1 (.cst .non) (.ref r0)) w st' env ve' T (fun p => P p ∨ p = r0) ds' xs' rs) := by
              refine Sm.bindV h2 (fun r1 v3 e' => sim_Va hC es ps T (k + 1) (fun p => P p ∨ p = r0) F1 _ env v1 st1 r1 v3 hT2 hP' hd.inv e') fun xs v3 ds st2 F3 e3 o3 ⟨rs, q3⟩ h3 => ?_
              cases h3
              exact Sm.now (a := D.ref r0 :: ds) o3.inv rfl ⟨ds, xs, rs, rfl, rfl, q3⟩
            have z1 := Sm.held (R2 := fun F' st' ds us => ∃ rs, AR F' B w st' env ve' T P ds us rs) hd z0 (fun F' st' y zz o ⟨ds', xs', rs, ey, ez, A⟩ => by
              subst ey
              subst ez
              have A2 : AR F' B w st' env ve' T (fun p => P p ∨ p = r0) ds' xs' rs := A.unhold hd o (fun i _ z => by cases z)
              obtain ⟨r2, us2, e2, e3, hf2⟩ := hd.new rfl F' st' env ve' o
              cases e2
              cases e3
              exact ⟨r0 :: rs, .temp hf2 (fun z => hf.2.1 (hP r0 z).1) A2⟩)
            exact z1
          exact z
        · cases h2
    · rename_i hk
      refine Sm.bindV h (fun r1 v1 e' => sim_E hC e false F B env ve st r1 v1 I e') fun x v1 d st1 F1 e1 o1 q h2 => ?_
      have hne : ∀ i, i ∈ T → e ≠ .var i := fun i hi z => by
        subst z
        dsimp only at hT1
        rw [hk, Bool.false_or] at hT1
        have : T.contains i = true := by simpa using hi
        rw [this] at hT1
        cases hT1
      -- it is none of those apart
      have hdP : ∀ p, P p → d ≠ .ref p := fun p hp ed => by
        subst ed
        obtain ⟨a, b, c'⟩ := hP2 o1 p hp
        rcases q with q | ⟨_, _, j, mj, ej, g1, g2⟩
        · obtain ⟨xu, xf⟩ := x
          cases xf with
          | false => exact b (Rep.isRef q)
          | true =>
            obtain ⟨r2, us2, er, _, _, nb, _⟩ := q
            cases er
            exact nb a
        · obtain ⟨dd, k1, k2⟩ := o1.inv.at_ j _ mj g1
          rw [g2] at k1
          cases k1
          cases mj with
          | frz => exact b (Rep.isRef k2)
          | bor => exact c' j _ g1 g2
          | own =>
            obtain ⟨r2, us2, er, _, _, nb, _⟩ := k2
            cases er
            exact nb a
          | mu =>
            obtain ⟨r2, us2, er, _, _, nb, _⟩ := k2
            cases er
            exact nb a
      refine Sm.hold (R1 := fun B' v3 F' st' ds us => ∃ ds' us' rs, ds = d :: ds' ∧ us = .see x.1 :: us' ∧ AR F' B' w st' env v3 T P ds' us' rs ∧ ∀ p, d = .ref p → B' p) o1.inv q h2 (fun B' v2 hd e2 => ?_) (fun B' v3 F' st' y z hd e2 o ⟨ds', us', rs, ey, ez, A, hB⟩ => ?_)
      · have hP3 : ∀ p, P p → B' p ∧ ¬ F1 p ∧ ∀ (j : Nat) (u : U), (pinV e v1)[j]? = some (some (u, .bor)) → env[j]? ≠ some (some (.ref p)) := fun p hp => by
          obtain ⟨a, b, c'⟩ := hP2 o1 p hp
          refine ⟨hd.sub p a, b, fun j u hj he => ?_⟩
          rcases pin_bor hj with z | ⟨u0, md, z, hm⟩
          · exact c' j u z he
          · obtain ⟨dd, k1, k2⟩ := o1.inv.at_ j u0 md z
            rw [he] at k1
            cases k1
            obtain ⟨r2, us2, er, _, _, nb, _⟩ := k2.may hm
            cases er
            exact nb a
        refine Sm.bindV e2 (fun r1 v3 e' => sim_Va hC es ps T (k + 1) P F1 B' env _ st1 r1 v3 hT2 hP3 hd.inv e') fun xs v3 ds st2 F3 e3 o3 ⟨rs, q3⟩ h3 => ?_
        cases h3
        exact Sm.now (a := d :: ds) o3.inv rfl ⟨ds, xs, rs, rfl, rfl, q3, hd.isB⟩
      · subst e2
        subst ey
        subst ez
        refine ⟨rs, .see (hd.val _ _ o.stp) (fun i hi ui mi q h1 h2 h3 => ?_) hdP (fun r hr ed => ?_) (A.unhold hd o hne)⟩
        · rw [unpinV_other (hne i hi)] at h1
          exact hd.apart _ _ _ _ o i ui mi q (hne i hi) h1 h2 h3
        · obtain ⟨_, us2, _, nb, _⟩ := A.temps r hr
          exact nb (hB r ed)
theorem sim_And (hC : SimC c cf cV) : ∀ es : Es, SimAnd c cf cV w es
  | .nil => fun F B env ve st r ve' I h => by
    unfold evVAnd at h
    cases h
  | .cons e .nil => fun F B env ve st r ve' I h => by
    unfold evVAnd at h
    unfold evAnd
    exact (sim_E hC e true F B env ve st r ve' I h).mono fun _ _ _ _ _ q => q.strict
  | .cons e (.cons e2 es) => fun F B env ve st r ve' I h => by
    unfold evVAnd at h
    unfold evAnd
    refine Sm.bindV h (fun r1 v1 e' => sim_E hC e false F B env ve st r1 v1 I e') fun x v1 d st1 F1 e' o1 q h2 => ?_
    obtain ⟨xu, xf⟩ := x
    dsimp only at h2
    split at h2
    · have ed := bl_rp (q.rp o1.inv)
      subst ed
      exact sim_And hC (.cons e2 es) F1 B env v1 st1 r ve' o1.inv h2
    · cases h2
      have ed := bl_rp (q.rp o1.inv)
      subst ed
      exact Sm.now (a := .bl false) o1.inv rfl (Rep.r0 (.bl _))
    · cases h2
theorem sim_Or (hC : SimC c cf cV) : ∀ es : Es, SimOr c cf cV w es
  | .nil => fun F B env ve st r ve' I h => by
    unfold evVOr at h
    cases h
  | .cons e .nil => fun F B env ve st r ve' I h => by
    unfold evVOr at h
    unfold evOr
    exact (sim_E hC e true F B env ve st r ve' I h).mono fun _ _ _ _ _ q => q.strict
  | .cons e (.cons e2 es) => fun F B env ve st r ve' I h => by
    unfold evVOr at h
    unfold evOr
    refine Sm.bindV h (fun r1 v1 e' => sim_E hC e false F B env ve st r1 v1 I e') fun x v1 d st1 F1 e' o1 q h2 => ?_
    obtain ⟨xu, xf⟩ := x
    dsimp only at h2
    split at h2
    · have ed := bl_rp (q.rp o1.inv)
      subst ed
      exact sim_Or hC (.cons e2 es) F1 B env v1 st1 r ve' o1.inv h2
    · cases h2
      have ed := bl_rp (q.rp o1.inv)
      subst ed
      exact Sm.now (a := .bl true) o1.inv rfl (Rep.r0 (.bl _))
    · cases h2
end
end
end Iv
end
section
set_option Elab.async false
set_option linter.all false
set_option maxRecDepth 100000
/-! IvVt: statements and functions by values. -/
namespace Iv
open PySem L2
def SmS (F B : Nat → Prop) (w : Wr) (st : Store) (env : Evn) (ve : VE) (m : Fs) (fv : FV) : Prop := match fv with
  | .nx ve' => ∃ env' st' F', m = some (.nx env', st') ∧ Out F B w st env ve F' st' env' ve'
  | .bk ve' => ∃ env' st' F', m = some (.bk env', st') ∧ Out F B w st env ve F' st' env' ve'
  | .ct ve' => ∃ env' st' F', m = some (.ct env', st') ∧ Out F B w st env ve F' st' env' ve'
  | .rt u fr ve' => ∃ d env' st' F', m = some (.rt d, st') ∧ Out F B w st env ve F' st' env' ve' ∧ Res0 F' B w st' env' ve' fr d u
  | .ex x ve' => ∃ ds env' st' F', m = some (.ex ⟨x.cls, ds⟩ env', st') ∧ Out F B w st env ve F' st' env' ve' ∧ Reps F' st' ds x.args
section
variable {c : Cfg} {cf : Wr → Nat → List D → Store → Rs D} {cV : Nat → List U → Option (RV (U × Bool) × List (List U))} {w : Wr}
variable {F F1 B B' : Nat → Prop} {st st1 : Store} {env env1 : Evn} {ve ve1 : VE}
theorem SmS.trans {m : Fs} {fv : FV} (o : Out F B w st env ve F1 st1 env1 ve1) (h : SmS F1 B w st1 env1 ve1 m fv) : SmS F B w st env ve m fv := by
  cases fv with
  | nx v =>
    obtain ⟨e, s, f, h1, h2⟩ := h
    exact ⟨e, s, f, h1, o.trans h2⟩
  | bk v =>
    obtain ⟨e, s, f, h1, h2⟩ := h
    exact ⟨e, s, f, h1, o.trans h2⟩
  | ct v =>
    obtain ⟨e, s, f, h1, h2⟩ := h
    exact ⟨e, s, f, h1, o.trans h2⟩
  | rt u fr v =>
    obtain ⟨d, e, s, f, h1, h2, h3⟩ := h
    exact ⟨d, e, s, f, h1, o.trans h2, h3⟩
  | ex x v =>
    obtain ⟨d, e, s, f, h1, h2, h3⟩ := h
    exact ⟨d, e, s, f, h1, o.trans h2, h3⟩
theorem lftV_some {A : Type} {m : Vs A} {f : A → VE → Option FV} {fv : FV} (h : lftV m f = some fv) : (∃ x v, m = some (.ex x, v) ∧ fv = .ex x v) ∨ ∃ a v, m = some (.ok a, v) ∧ f a v = some fv := by
  unfold lftV at h
  split at h
  · exact .inr ⟨_, _, rfl, h⟩
  · cases h
    exact .inl ⟨_, _, rfl, rfl⟩
  · cases h
theorem SmS.lft {X : Type} {m : Rs D} {f : D → Store → Fs} {mV : Vs X} {fV : X → VE → Option FV} {fv : FV} {R1 : VE → (Nat → Prop) → Store → D → X → Prop} (h : lftV mV fV = some fv)
    (h1 : ∀ r v1, mV = some (r, v1) → Sm F B w st env ve m r v1 (R1 v1))
    (h2 : ∀ x v1 a s1 F1, mV = some (.ok x, v1) → Out F B w st env ve F1 s1 env v1 → R1 v1 F1 s1 a x → fV x v1 = some fv → SmS F1 B w s1 env v1 (f a s1) fv) : SmS F B w st env ve (Iv.lft m env f) fv := by
  rcases lftV_some h with ⟨x, v, e1, rfl⟩ | ⟨x, v, e1, e2⟩
  · obtain ⟨ds, s1, F1, a1, a2, a3⟩ := h1 _ _ e1
    exact ⟨ds, env, s1, F1, by rw [a1]; rfl, a2, a3⟩
  · obtain ⟨a, s1, F1, a1, a2, a3⟩ := h1 _ _ e1
    have := h2 x v a s1 F1 e1 a2 a3 e2
    rw [a1]
    exact SmS.trans a2 this
theorem SmS.lfts {X : Type} {m : Rs (List D)} {f : List D → Store → Fs} {mV : Vs X} {fV : X → VE → Option FV} {fv : FV} {R1 : VE → (Nat → Prop) → Store → List D → X → Prop} (h : lftV mV fV = some fv)
    (h1 : ∀ r v1, mV = some (r, v1) → Sm F B w st env ve m r v1 (R1 v1))
    (h2 : ∀ x v1 a s1 F1, mV = some (.ok x, v1) → Out F B w st env ve F1 s1 env v1 → R1 v1 F1 s1 a x → fV x v1 = some fv → SmS F1 B w s1 env v1 (f a s1) fv) : SmS F B w st env ve (Iv.lfts m env f) fv := by
  rcases lftV_some h with ⟨x, v, e1, rfl⟩ | ⟨x, v, e1, e2⟩
  · obtain ⟨ds, s1, F1, a1, a2, a3⟩ := h1 _ _ e1
    exact ⟨ds, env, s1, F1, by rw [a1]; rfl, a2, a3⟩
  · obtain ⟨a, s1, F1, a1, a2, a3⟩ := h1 _ _ e1
    have := h2 x v a s1 F1 e1 a2 a3 e2
    rw [a1]
    exact SmS.trans a2 this
theorem SmS.turn {m : Fs} {f : Evn → Store → Fs} {mV : Option FV} {fV : VE → Option FV} {fv : FV} (h : turnV mV fV = some fv) (h1 : ∀ fb, mV = some fb → SmS F B w st env ve m fb)
    (h2 : ∀ e1 v1 s1 F1, Out F B w st env ve F1 s1 e1 v1 → fV v1 = some fv → SmS F1 B w s1 e1 v1 (f e1 s1) fv) : SmS F B w st env ve (Iv.turn m f) fv := by
  cases hm : mV with
  | none =>
    rw [hm] at h
    cases h
  | some fb =>
    rw [hm] at h
    have z := h1 fb hm
    cases fb with
    | nx v =>
      obtain ⟨e, s, f', k1, k2⟩ := z
      rw [k1]
      exact SmS.trans k2 (h2 e v s f' k2 h)
    | ct v =>
      obtain ⟨e, s, f', k1, k2⟩ := z
      rw [k1]
      exact SmS.trans k2 (h2 e v s f' k2 h)
    | bk v =>
      obtain ⟨e, s, f', k1, k2⟩ := z
      cases h
      rw [k1]
      exact ⟨e, s, f', rfl, k2⟩
    | rt u fr v =>
      obtain ⟨d, e, s, f', k1, k2, k3⟩ := z
      cases h
      rw [k1]
      exact ⟨d, e, s, f', rfl, k2, k3⟩
    | ex x v =>
      obtain ⟨d, e, s, f', k1, k2, k3⟩ := z
      cases h
      rw [k1]
      exact ⟨d, e, s, f', rfl, k2, k3⟩
/-- a body -/
def SimB (w : Wr) (b : Evn → Store → Fs) (bV : VE → Option FV) : Prop := ∀ (F B : Nat → Prop) (env : Evn) (ve : VE) (st : Store) (fv : FV), InvV F B w st env ve → bV ve = some fv → SmS F B w st env ve (b env st) fv
theorem forT_sim {b : Evn → Store → Fs} {bV : VE → Option FV} (hB : SimB w b bV) {g : Tg} : ∀ {us : List U} {xs : List D} {F : Nat → Prop} {st : Store} {env : Evn} {ve : VE} {fv : FV}, InvV F B w st env ve → Reps F st xs us → forV bV g us ve = some fv → SmS F B w st env ve (forT b g xs env st) fv
  | [], _, F, st, env, ve, fv, I, .nil, h => by
    cases h
    exact ⟨env, st, F, rfl, Out.refl I⟩
  | u :: us, _, F, st, env, ve, fv, I, .cons a t, h => by
    unfold forV at h
    split at h
    · rename_i v1 hb
      obtain ⟨e2, k1, k2, k3, _⟩ := bind_sim I a hb
      unfold forT
      rw [k1]
      dsimp only
      have o : Out F B w st env ve F st e2 v1 := ⟨Stp.refl, k2, k3⟩
      refine SmS.trans o (SmS.turn h (fun fb hfb => hB F B e2 v1 st fb k2 hfb) fun e3 v3 s3 F3 o3 h3 => ?_)
      exact forT_sim hB o3.inv (o3.stp.reps t) h3
    · cases h
theorem forL_sim {b : Evn → Store → Fs} {bV : VE → Option FV} (hB : SimB w b bV) {g : Tg} {r : Nat} {xs : List D} : ∀ {us : List U} {k i : Nat} {F : Nat → Prop} {st : Store} {env : Evn} {ve : VE} {fv : FV}, InvV F B w st env ve → lstAt st r = some xs → (F r ∨ B r) → Reps F st (xs.drop i) us → us.length < k → forV bV g us ve = some fv → SmS F B w st env ve (forL b g r k i env st) fv
  | [], k, i, F, st, env, ve, fv, I, hl, hb, hr, hk, h => by
    cases h
    have hx : xs.drop i = [] := by
      cases hd : xs.drop i with
      | nil => rfl
      | cons a t =>
        rw [hd] at hr
        cases hr
    cases k with
    | zero => exact absurd hk (Nat.not_lt_zero _)
    | succ k =>
      refine ⟨env, st, F, ?_, Out.refl I⟩
      unfold forL
      rw [hl]
      dsimp only
      rw [List.getElem?_eq_none (List.drop_eq_nil_iff.mp hx)]
  | u :: us, k, i, F, st, env, ve, fv, I, hl, hb, hr, hk, h => by
    cases k with
    | zero => exact absurd hk (Nat.not_lt_zero _)
    | succ k =>
      have hx : ∃ x, xs[i]? = some x ∧ Rep F st x u ∧ Reps F st (xs.drop (i + 1)) us := by
        cases hd : xs.drop i with
        | nil =>
          rw [hd] at hr
          cases hr
        | cons a t =>
          rw [hd] at hr
          cases hr with
          | cons h1 h2 =>
            have hlt : i < xs.length := by
              refine Nat.lt_of_not_le fun z => ?_
              rw [List.drop_eq_nil_of_le z] at hd
              cases hd
            rw [List.drop_eq_getElem_cons hlt] at hd
            cases hd
            exact ⟨_, List.getElem?_eq_getElem hlt, h1, h2⟩
      obtain ⟨x, hx1, a, t⟩ := hx
      unfold forV at h
      split at h
      · rename_i v1 hbd
        obtain ⟨e2, k1, k2, k3, _⟩ := bind_sim I a hbd
        unfold forL
        rw [hl]
        dsimp only
        rw [hx1]
        dsimp only
        rw [k1]
        dsimp only
        have o : Out F B w st env ve F st e2 v1 := ⟨Stp.refl, k2, k3⟩
        refine SmS.trans o (SmS.turn h (fun fb hfb => hB F B e2 v1 st fb k2 hfb) fun e3 v3 s3 F3 o3 h3 => ?_)
        exact forL_sim hB o3.inv ((lstAt_eq (o3.stp.keep r hb)).trans hl) (hb.imp (o3.stp.sub r) id) (o3.stp.reps t) (Nat.lt_of_succ_lt_succ hk) h3
      · cases h
theorem whl_sim {e : E} (hE : SimE c cf cV w e) {b : Evn → Store → Fs} {bV : VE → Option FV} (hB : SimB w b bV) : ∀ {k : Nat} {F : Nat → Prop} {st : Store} {env : Evn} {ve : VE} {fv : FV}, InvV F B w st env ve → whlV (evV c cV e false) bV k ve = some fv → SmS F B w st env ve (whlN (evE c cf w e) b k env st) fv
  | 0, F, st, env, ve, fv, I, h => by cases h
  | k + 1, F, st, env, ve, fv, I, h => by
    unfold whlV at h
    unfold whlN
    refine SmS.lft h (fun r1 v1 e' => hE false F B env ve st r1 v1 I e') fun x v1 d s1 F1 e1 o1 q h2 => ?_
    obtain ⟨xu, xf⟩ := x
    dsimp only at h2
    split at h2
    · have ed := bl_rp (q.rp o1.inv)
      subst ed
      refine SmS.turn h2 (fun fb hfb => hB F1 B env v1 s1 fb o1.inv hfb) fun e3 v3 s3 F3 o3 h3 => ?_
      exact whl_sim hE hB o3.inv h3
    · have ed := bl_rp (q.rp o1.inv)
      subst ed
      cases h2
      exact ⟨env, s1, F1, rfl, Out.refl o1.inv⟩
    · cases h2
theorem SmS.held {m : Fs} {fv : FV} {a : E} {fr : Bool} {d : D} {u : U} (hd : Held F B B' w st env ve a fr d u) (h : SmS F B' w st env (pinV a ve) m fv) : SmS F B w st env ve m (fv.mapE (unpinV a ve)) := by
  cases fv with
  | nx v =>
    obtain ⟨e, s, f, h1, h2⟩ := h
    exact ⟨e, s, f, h1, hd.out _ _ _ _ h2⟩
  | bk v =>
    obtain ⟨e, s, f, h1, h2⟩ := h
    exact ⟨e, s, f, h1, hd.out _ _ _ _ h2⟩
  | ct v =>
    obtain ⟨e, s, f, h1, h2⟩ := h
    exact ⟨e, s, f, h1, hd.out _ _ _ _ h2⟩
  | rt u fr v =>
    obtain ⟨d, e, s, f, h1, h2, h3⟩ := h
    exact ⟨d, e, s, f, h1, hd.out _ _ _ _ h2, hd.res _ _ _ _ h2 _ _ _ h3⟩
  | ex x v =>
    obtain ⟨d, e, s, f, h1, h2, h3⟩ := h
    exact ⟨d, e, s, f, h1, hd.out _ _ _ _ h2, h3⟩
/-- a for behind its source -/
theorem for_fin {b : Evn → Store → Fs} {bV : VE → Option FV} (hB : SimB w b bV) {g : Tg} {k : Ik} {es : Es} {fv : FV} {a : E} {fr : Bool} {d : D} {u : U} {ds : List D} {us : List U} (I : InvV F B w st env ve) (hr : Res F B w st env ve a false fr d u) (hp : ∀ v, pinS es v = pinV a v) (hu : ∀ v v', unpinS es v v' = unpinV a v v')
    (hds : Rps F st ds us) (h1 : ∀ q, ds = [.ref q] → d = .ref q) (h : (match srcU k us with
      | some us => unpF es ve (forV bV g us (pinS es ve))
      | none => none) = some fv) :
    SmS F B w st env ve (match srcOf k ds st with
      | some s => forSrc b g s env st
      | none => none) fv := by
  split at h
  · rename_i vs hvs
    obtain ⟨s, hs, hR⟩ := src_sim hds hvs
    rw [hs]
    have hd := hold I hr
    unfold unpF at h
    split at h
    · rename_i fv0 h0
      cases h
      rw [hp] at h0
      have e : unpinS es ve = unpinV a ve := funext fun v => hu ve v
      rw [e]
      refine SmS.held hd ?_
      cases s with
      | ds xs => exact forT_sim hB hd.inv hR h0
      | lr q =>
        obtain ⟨ed, xs, l, qs⟩ := hR
        show SmS _ _ _ _ _ _ (match lstAt st q with
          | some xs => forL b g q (xs.length + 1) 0 env st
          | none => none) fv0
        rw [l]
        exact forL_sim (i := 0) hB hd.inv l (.inr (.inr (.inl (h1 q ed)))) (by rw [List.drop_zero]; exact qs) (by rw [qs.length]; exact Nat.lt_succ_self _) h0
    · cases h
  · cases h
mutual
theorem sim_S (hC : SimC c cf cV) : ∀ s : S, SimB w (exS c cf w s) (exV c cV s)
  | .set i e => fun F B env ve st fv I h => by
    unfold exV at h
    unfold exS
    refine SmS.lft h (fun r1 v1 e' => sim_E hC e true F B env ve st r1 v1 I e') fun x v1 d s1 F1 e1 o1 q h2 => ?_
    obtain ⟨xu, xf⟩ := x
    cases h2
    have q0 : Res0 F1 B w s1 env v1 xf d xu := q.strict
    cases xf with
    | false =>
      obtain ⟨I2, K2⟩ := o1.inv.put q0 i
      exact ⟨_, s1, F1, rfl, Stp.refl, I2, K2⟩
    | true =>
      obtain ⟨r, us, rfl, rfl, hf⟩ := q0
      obtain ⟨I2, K2⟩ := o1.inv.putL hf i
      exact ⟨_, s1, F1, rfl, Stp.refl, I2, K2⟩
  | .setT l e => fun F B env ve st fv I h => by
    unfold exV at h
    unfold exS
    refine SmS.lft h (fun r1 v1 e' => sim_E hC e true F B env ve st r1 v1 I e') fun x v1 d s1 F1 e1 o1 q h2 => ?_
    obtain ⟨F2, o2, q2⟩ := freeze o1.inv q.strict
    split at h2
    · rename_i v2 hb
      cases h2
      obtain ⟨e2, k1, k2, k3, _⟩ := bind_sim o2.inv q2 hb
      refine SmS.trans o2 ⟨e2, s1, F2, ?_, Stp.refl, k2, k3⟩
      rw [k1]
    · cases h2
  | .par _ _ _ _ => fun F B env ve st fv I h => by cases h
  | .setI o i e => fun F B env ve st fv I h => by
    unfold exV at h
    split at h
    · rename_i j
      unfold exS
      refine SmS.lft h (fun r1 v1 e' => sim_E hC e true F B env ve st r1 v1 I e') fun x v1 d s1 F1 e1 o1 q h2 => ?_
      obtain ⟨F2, o2, q2⟩ := freeze o1.inv q.strict
      refine SmS.trans o2 ?_
      split at h2
      · rename_i z0 hl0
        obtain ⟨hv, hm⟩ := lstV_some (us := z0.1) (md := z0.2) hl0
        obtain ⟨d0, a1, a2⟩ := o2.inv.at_ j _ _ hv
        obtain ⟨r0, us0, rfl, _⟩ := a2.may hm
        rw [var_ev a1]
        show SmS F2 B w s1 env v1 (Iv.lft (evE c cf w i env s1) env fun y s3 => match D.ref r0, y with
          | .ref r, .int k => match lstAt s3 r with
            | some xs => match ixN xs.length k with
              | some j => if w.can r then some (.nx env, s3.set r (.lst (xs.set j d))) else none
              | none => none
            | none => none
          | _, _ => none) fv
        refine SmS.lft h2 (fun r1 v2 e' => sim_E hC i false F2 B env v1 s1 r1 v2 o2.inv e') fun y v2 dy s2 F3 e3 o3 q3 h3 => ?_
        obtain ⟨yu, yf⟩ := y
        split at h3
        · rename_i xs md k hl1 hy
          dsimp only at hy
          subst hy
          have ed := int_of (q3.rp o3.inv)
          subst ed
          split at h3
          · rename_i p hp
            cases h3
            obtain ⟨hv1, hm1⟩ := lstV_some hl1
            obtain ⟨d1, k1, k2⟩ := o3.inv.at_ j _ _ hv1
            rw [a1] at k1
            cases k1
            obtain ⟨r1, us1, er, eu, nf, nb, cn, zs, l, qs⟩ := k2.may hm1
            cases er
            cases eu
            have o4 := o3.inv.chg (ys := zs.set p d) hv1 hm1 a1 (qs.set p (o3.stp.rep q2))
            refine ⟨env, _, F3, ?_, o4⟩
            dsimp only
            rw [l]
            dsimp only
            rw [qs.length, hp]
            dsimp only
            rw [if_pos cn]
          · cases h3
        · cases h3
      · cases h2
    · cases h
  | .ife e a b => fun F B env ve st fv I h => by
    unfold exV at h
    unfold exS
    refine SmS.lft h (fun r1 v1 e' => sim_E hC e false F B env ve st r1 v1 I e') fun x v1 d s1 F1 e1 o1 q h2 => ?_
    obtain ⟨xu, xf⟩ := x
    dsimp only at h2
    split at h2
    · have ed := bl_rp (q.rp o1.inv)
      subst ed
      exact sim_Ss hC a F1 B env v1 s1 fv o1.inv h2
    · have ed := bl_rp (q.rp o1.inv)
      subst ed
      exact sim_Ss hC b F1 B env v1 s1 fv o1.inv h2
    · cases h2
  | .forS g k es b => fun F B env ve st fv I h => by
    unfold exV at h
    unfold exS
    have hB : SimB w (exSs c cf w b) (exVs c cV b) := sim_Ss hC b
    by_cases hone : ∃ e0, es = .cons e0 .nil
    · obtain ⟨e0, rfl⟩ := hone
      rcases lftV_some h with ⟨x, v, e1, rfl⟩ | ⟨xs, v, e1, h2⟩
      · obtain ⟨ds, s1, F1, a1, a2, a3⟩ := sim_Vl hC (.cons e0 .nil) F B env ve st _ _ I e1
        exact ⟨ds, env, s1, F1, by rw [a1]; rfl, a2, a3⟩
      · obtain ⟨r0, k1, k2⟩ := va_one e1
        cases r0 with
        | ex x => cases k2
        | ok x =>
          cases k2
          obtain ⟨d, s1, F1, a1, o1, q⟩ := sim_E hC e0 false F B env ve st _ _ I k1
          rw [evEs_one, a1]
          refine SmS.trans o1 ?_
          exact for_fin hB o1.inv q (fun v => rfl) (fun v v' => rfl) (.cons (q.rp o1.inv) .nil) (fun q hq => by cases hq; rfl) h2
    · refine SmS.lfts h (fun r1 v1 e' => sim_Vl hC es F B env ve st r1 v1 I e') fun xs v1 ds s1 F1 e1 o1 q h2 => ?_
      have hps := q
      refine for_fin (a := .cst .non) (fr := false) (d := .non) (u := .non) hB o1.inv (.inl (Rep.r0 .non)) (fun v => ?_) (fun v v' => ?_) hps (fun q2 hq => ?_) h2
      · match es, hone with
        | .nil, _ => rfl
        | .cons e0 .nil, hh => exact absurd ⟨e0, rfl⟩ hh
        | .cons _ (.cons _ _), _ => rfl
      · match es, hone with
        | .nil, _ => rfl
        | .cons e0 .nil, hh => exact absurd ⟨e0, rfl⟩ hh
        | .cons _ (.cons _ _), _ => rfl
      · have hl := hps.length
        rw [hq, va_len e1] at hl
        match es, hone, hl with
        | .nil, _, hl => cases hl
        | .cons e0 .nil, hh, _ => exact absurd ⟨e0, rfl⟩ hh
        | .cons _ (.cons _ r), _, hl => exact absurd hl (by show ¬ (1 = Es.len r + 1 + 1); omega)
  | .whl e b => fun F B env ve st fv I h => by
    unfold exV at h
    unfold exS
    exact whl_sim (sim_E hC e) (sim_Ss hC b) I h
  | .ret e => fun F B env ve st fv I h => by
    have gen : lftV (evV c cV e true ve) (fun u e1 => some (.rt u.1 u.2 e1)) = some fv → SmS F B w st env ve (exS c cf w (.ret e) env st) fv := fun h => by
      unfold exS
      refine SmS.lft h (fun r1 v1 e' => sim_E hC e true F B env ve st r1 v1 I e') fun x v1 d s1 F1 e1 o1 q h2 => ?_
      cases h2
      exact ⟨d, env, s1, F1, rfl, Out.refl o1.inv, q.strict⟩
    unfold exV at h
    split at h
    · rename_i i
      split at h
      · rename_i u hv
        cases h
        obtain ⟨d, e1, r, us, rfl, rfl, nf, nb, cn, l⟩ := I.at_ i _ _ hv
        obtain ⟨I2, K2⟩ := I.drop i
        refine ⟨.ref r, env, st, F, ?_, ⟨Stp.refl, I2, K2⟩, r, us, rfl, rfl, nf, nb, cn, l, fun j uj mj hj hm e => ?_⟩
        · unfold exS
          rw [var_ev e1]
          rfl
        · by_cases hji : j = i
          · subst hji
            rw [List.getElem?_set_self (List.getElem?_eq_some_iff.mp hv).1] at hj
            cases hj
          · rw [List.getElem?_set_ne (Ne.symm hji)] at hj
            exact I.sep j i _ _ _ _ r hji hj hv hm rfl e e1
      · rename_i u hv
        cases h
        obtain ⟨d, e1, e2⟩ := I.at_ i _ _ hv
        refine ⟨d, env, st, F, ?_, Out.refl I, e2⟩
        unfold exS
        rw [var_ev e1]
        rfl
      · rename_i u hv
        split at h
        · cases h
        · rename_i hl
          cases h
          obtain ⟨d, e1, e2⟩ := I.at_ i _ _ hv
          refine ⟨d, env, st, F, ?_, Out.refl I, ?_⟩
          · unfold exS
            rw [var_ev e1]
            rfl
          · rcases e2 with e2 | ⟨r, us, _, rfl, _⟩
            · exact e2
            · exact absurd rfl hl
      · cases h
    · exact gen h
  | .retN => fun F B env ve st fv I h => by
    unfold exV at h
    unfold exS
    cases h
    exact ⟨.non, env, st, F, rfl, Out.refl I, Rep.r0 .non⟩
  | .expr e => fun F B env ve st fv I h => by
    unfold exV at h
    unfold exS
    refine SmS.lft h (fun r1 v1 e' => sim_E hC e false F B env ve st r1 v1 I e') fun x v1 d s1 F1 e1 o1 q h2 => ?_
    cases h2
    exact ⟨env, s1, F1, rfl, Out.refl o1.inv⟩
  | .brk => fun F B env ve st fv I h => by
    unfold exV at h
    unfold exS
    cases h
    exact ⟨env, st, F, rfl, Out.refl I⟩
  | .cont => fun F B env ve st fv I h => by
    unfold exV at h
    unfold exS
    cases h
    exact ⟨env, st, F, rfl, Out.refl I⟩
  | .pass => fun F B env ve st fv I h => by
    unfold exV at h
    unfold exS
    cases h
    exact ⟨env, st, F, rfl, Out.refl I⟩
theorem sim_Ss (hC : SimC c cf cV) : ∀ ss : Ss, SimB w (exSs c cf w ss) (exVs c cV ss)
  | .nil => fun F B env ve st fv I h => by
    unfold exVs at h
    unfold exSs
    cases h
    exact ⟨env, st, F, rfl, Out.refl I⟩
  | .cons s ss => fun F B env ve st fv I h => by
    unfold exVs at h
    unfold exSs
    cases hm : exV c cV s ve with
    | none =>
      rw [hm] at h
      cases h
    | some fb =>
      rw [hm] at h
      have z := sim_S hC s F B env ve st fb I hm
      cases fb with
      | nx v =>
        obtain ⟨e, s1, f', k1, k2⟩ := z
        rw [k1]
        exact SmS.trans k2 (sim_Ss hC ss f' B e v s1 fv k2.inv h)
      | ct v =>
        obtain ⟨e, s1, f', k1, k2⟩ := z
        cases h
        rw [k1]
        exact ⟨e, s1, f', rfl, k2⟩
      | bk v =>
        obtain ⟨e, s1, f', k1, k2⟩ := z
        cases h
        rw [k1]
        exact ⟨e, s1, f', rfl, k2⟩
      | rt u fr v =>
        obtain ⟨d, e, s1, f', k1, k2, k3⟩ := z
        cases h
        rw [k1]
        exact ⟨d, e, s1, f', rfl, k2, k3⟩
      | ex x v =>
        obtain ⟨d, e, s1, f', k1, k2, k3⟩ := z
        cases h
        rw [k1]
        exact ⟨d, e, s1, f', rfl, k2, k3⟩
end
end
end Iv
end
section
set_option Elab.async false
set_option linter.all false
set_option maxRecDepth 100000
/-! IvVf: functions by values. -/
namespace Iv
open PySem L2
section
variable {F F' B : Nat → Prop} {w : Wr} {st st1 st2 : Store}
mutual
/-- pure data stand for the same in any store -/
theorem Rep.move : ∀ {d : D} {u : U}, Rep F st d u → u.pur = true → Rep F' st2 d u
  | _, _, .non, _ => .non
  | _, _, .bl b, _ => .bl b
  | _, _, .int i, _ => .int i
  | _, _, .str s, _ => .str s
  | _, _, .tup r, h => .tup (Reps.move r h)
  | _, _, .rol _, h => by cases h
  | _, _, .ref _ _ _, h => by cases h
theorem Reps.move : ∀ {d : List D} {u : List U}, Reps F st d u → U.purs u = true → Reps F' st2 d u
  | _, _, .nil, _ => .nil
  | _, _, .cons a t, h => by
    obtain ⟨h1, h2⟩ := Bool.and_eq_true_iff.mp (show (_ && _) = true from h)
    exact .cons (a.move h1) (t.move h2)
end
theorem argsV_get {ps : List Nat} : ∀ {us : List U} {k i : Nat} {u : U} {md : Md}, (argsV ps k us)[i]? = some (some (u, md)) → us[i]? = some u ∧ md = if ps.contains (k + i) then .mu else .bor
  | [], k, i, u, md, h => by cases h
  | x :: us, k, 0, u, md, h => by
    cases h
    exact ⟨rfl, rfl⟩
  | x :: us, k, i + 1, u, md, h => by
    obtain ⟨h1, h2⟩ := argsV_get (us := us) (k := k + 1) (i := i) h
    exact ⟨h1, by rw [h2, show k + 1 + i = k + (i + 1) by omega]⟩
theorem argsV_len {ps : List Nat} : ∀ {us : List U} {k : Nat}, (argsV ps k us).length = us.length
  | [], _ => rfl
  | _ :: us, k => congrArg (· + 1) (argsV_len (us := us) (k := k + 1))
theorem Rps.get : ∀ {ds : List D} {us : List U} {i : Nat} {u : U}, Rps F st ds us → us[i]? = some u → ∃ d, ds[i]? = some d ∧ Rp F st d u
  | _, _, _, _, .nil, h => by cases h
  | _, _, 0, _, .cons a t, h => by
    cases h
    exact ⟨_, rfl, a⟩
  | _, _, i + 1, _, .cons a t, h => t.get (i := i) h
theorem refsAt_mem {ds : List D} : ∀ {ps oks : List Nat}, refsAt ds ps = some oks → ∀ p, p ∈ ps → ∃ k, k ∈ oks ∧ ds[p]? = some (.ref k)
  | [], _, h, p, hp => nomatch hp
  | q :: ps, oks, h, p, hp => by
    unfold refsAt at h
    split at h
    · rename_i r hr
      split at h
      · rename_i l hl
        cases h
        rcases List.mem_cons.mp hp with e | e
        · subst e
          exact ⟨r, List.mem_cons_self, hr⟩
        · obtain ⟨k, a, b⟩ := refsAt_mem hl p e
          exact ⟨k, List.mem_cons_of_mem _ a, b⟩
      · cases h
    · cases h
theorem refsAt_sep {ds : List D} : ∀ {ps oks : List Nat}, refsAt ds ps = some oks → oks.Nodup → ∀ p q r, p ∈ ps → q ∈ ps → ds[p]? = some (.ref r) → ds[q]? = some (.ref r) → p = q
  | [], _, _, _, p, _, _, hp, _, _, _ => nomatch hp
  | s :: ps, oks, h, hn, p, q, r, hp, hq, ep, eq => by
    unfold refsAt at h
    split at h
    · rename_i r0 hr
      split at h
      · rename_i l hl
        cases h
        obtain ⟨n1, n2⟩ := List.nodup_cons.mp hn
        rcases List.mem_cons.mp hp with e | e
        · rcases List.mem_cons.mp hq with e2 | e2
          · rw [e, e2]
          · subst e
            rw [hr] at ep
            cases ep
            obtain ⟨k, a, b⟩ := refsAt_mem hl q e2
            rw [eq] at b
            cases b
            exact absurd a n1
        · rcases List.mem_cons.mp hq with e2 | e2
          · subst e2
            rw [hr] at eq
            cases eq
            obtain ⟨k, a, b⟩ := refsAt_mem hl p e
            rw [ep] at b
            cases b
            exact absurd a n1
          · exact refsAt_sep hl n2 p q r e e2 ep eq
      · cases h
    · cases h
/-- the names at a function's start -/
theorem start_inv {fn : Fn} {ps : List Nat} {w' : Wr} {ds : List D} {us : List U} {oks : List Nat} (hl : w'.lim ≤ st.length) (hF : ∀ q, F q → q < st.length) (hr : Rps F st ds us) (hk : refsAt ds ps = some oks) (hok : ∀ k, k ∈ oks → ¬ F k ∧ w'.can k = true ∧ k < st.length) (hn : oks.Nodup)
    (hap : ∀ (j : Nat) (d : D), ds[j]? = some d → j ∉ ps → ∀ k, k ∈ oks → d ≠ .ref k) : InvV F (fun q => q < st.length ∧ q ∉ oks) w' st (envOf fn ds) (envV ps fn us) := by
  have hlen : (envOf fn ds).length = (envV ps fn us).length := by
    unfold envOf envV
    rw [List.length_append, List.length_append, List.length_map, List.length_replicate, List.length_replicate, argsV_len, hr.length]
  have at1 : ∀ {i : Nat} {u : U} {md : Md}, (envV ps fn us)[i]? = some (some (u, md)) → us[i]? = some u ∧ md = (if ps.contains i then .mu else .bor) := fun {i u md} h => by
    unfold envV at h
    by_cases hi : i < us.length
    · rw [List.getElem?_append_left (by rw [argsV_len]; exact hi)] at h
      have := argsV_get h
      rw [Nat.zero_add] at this
      exact this
    · rw [List.getElem?_append_right (by rw [argsV_len]; omega), List.getElem?_replicate] at h
      split at h <;> cases h
  have at2 : ∀ {i : Nat} {d : D}, ds[i]? = some d → (envOf fn ds)[i]? = some (some d) := fun {i d} h => by
    unfold envOf
    have hi := (List.getElem?_eq_some_iff.mp h).1
    rw [List.getElem?_append_left (by rw [List.length_map]; exact hi), List.getElem?_map, h]
    rfl
  have at3 : ∀ {i : Nat} {d : D}, (envOf fn ds)[i]? = some (some d) → ds[i]? = some d := fun {i d} h => by
    unfold envOf at h
    by_cases hi : i < ds.length
    · rw [List.getElem?_append_left (by rw [List.length_map]; exact hi), List.getElem?_map] at h
      obtain ⟨x, h1, h2⟩ := Option.map_eq_some_iff.mp h
      cases h2
      exact h1
    · rw [List.getElem?_append_right (by rw [List.length_map]; omega), List.getElem?_replicate] at h
      split at h <;> cases h
  refine ⟨hlen, hl, fun q h => h.elim (hF q) fun z => z.1, fun i u md h => ?_, fun i j ui uj mi mj r hij h1 h2 m1 m2 e1 e2 => ?_⟩
  · obtain ⟨hu, hmd⟩ := at1 h
    obtain ⟨d, hd, hrp⟩ := hr.get hu
    refine ⟨d, at2 hd, ?_⟩
    cases hc : ps.contains i with
    | true =>
      rw [hc, if_pos rfl] at hmd
      subst hmd
      have hi : i ∈ ps := by simpa using hc
      obtain ⟨k, k1, k2⟩ := refsAt_mem hk i hi
      rw [hd] at k2
      cases k2
      obtain ⟨nf, cn, lt⟩ := hok k k1
      cases hrp with
      | ok q => exact absurd q.isRef nf
      | ref l q => exact ⟨k, _, rfl, rfl, nf, fun z => z.2 k1, cn, _, l, q⟩
    | false =>
      rw [hc, if_neg Bool.false_ne_true] at hmd
      subst hmd
      have hi : i ∉ ps := fun z => by
        have : ps.contains i = true := by simpa using z
        rw [this] at hc
        cases hc
      cases hrp with
      | ok q => exact .inl q
      | ref l q => exact .inr ⟨_, _, rfl, rfl, ⟨lstAt_lt l, fun z => hap i _ hd hi _ z rfl⟩, _, l, q⟩
  · have inps : ∀ {i : Nat} {ui : U} {mi : Md}, (envV ps fn us)[i]? = some (some (ui, mi)) → mi.may = true → i ∈ ps := fun {i ui mi} h m => by
      obtain ⟨_, hmd⟩ := at1 h
      cases hc : ps.contains i with
      | true => simpa using hc
      | false =>
        rw [hc, if_neg Bool.false_ne_true] at hmd
        subst hmd
        cases m
    exact hij (refsAt_sep hk hn i j r (inps h1 m1) (inps h2 m2) (at3 e1) (at3 e2))
/-- what was changed can be handed back -/
theorem upds_ok {st1 : Store} : ∀ {oks : List Nat} {s0 : Store}, (∀ k, k ∈ oks → ∃ zs, lstAt st1 k = some zs ∧ D.purs zs = true) → ∃ s2, upds s0 st1 oks = some s2
  | [], s0, _ => ⟨s0, rfl⟩
  | k :: ks, s0, h => by
    obtain ⟨zs, l, p⟩ := h k List.mem_cons_self
    unfold upds
    rw [lstAt_some' l]
    dsimp only
    rw [if_pos (show loO s0.length (.lst zs) = true from D.purs_los _ p)]
    exact upds_ok fun q hq => h q (List.mem_cons_of_mem _ hq)
where
  lstAt_some' {st : Store} {r : Nat} {xs : List D} (h : lstAt st r = some xs) : st[r]? = some (.lst xs) := by
    unfold lstAt at h
    split at h
    · rename_i ys e
      cases h
      exact e
    · cases h
/-- the changed lists at a function's end -/
theorem outs_sim {fn : Fn} {ps0 : List Nat} {us : List U} {ds : List D} {env' : Evn} {ve' : VE} (I : InvV F' B w st1 env' ve') (K : Bk (envOf fn ds) (envV ps0 fn us) env' ve') :
    ∀ {ps oks : List Nat} {os : List (List U)}, refsAt ds ps = some oks → outsV ve' ps = some os → (∀ k, k ∈ oks → ∃ zs us, lstAt st1 k = some zs ∧ Reps F' st1 zs us ∧ U.purs us = true ∧ ∃ (i : Nat) (ui : U), ve'[i]? = some (some (ui, .mu)) ∧ env'[i]? = some (some (.ref k))) ∧
      ∀ (F2 : Nat → Prop) (st2 : Store), (∀ k, k ∈ oks → ¬ F2 k ∧ lstAt st2 k = lstAt st1 k) → Outs F2 st2 oks os
  | [], oks, os, h1, h2 => by
    cases h1
    cases h2
    exact ⟨(fun k hk => nomatch hk), fun _ _ _ => trivial⟩
  | p :: ps, oks, os, h1, h2 => by
    unfold refsAt at h1
    split at h1
    · rename_i r hr
      split at h1
      · rename_i l hl
        cases h1
        unfold outsV at h2
        split at h2
        · rename_i xs hv
          split at h2
          · rename_i hp
            obtain ⟨os', h3, h4⟩ := Option.map_eq_some_iff.mp h2
            subst h4
            obtain ⟨i1, i2⟩ := outs_sim I K hl h3
            obtain ⟨d, e1, e2⟩ := I.at_ p _ _ hv
            have e3 := (K.mu p _ hv).2
            have e4 : (envOf fn ds)[p]? = some (some (.ref r)) := by
              unfold envOf
              have hi := (List.getElem?_eq_some_iff.mp hr).1
              rw [List.getElem?_append_left (by rw [List.length_map]; exact hi), List.getElem?_map, hr]
              rfl
            rw [e3, e4] at e1
            cases e1
            obtain ⟨r', us', er, eu, nf, nb, cn, zs, lz, q⟩ := e2
            cases er
            cases eu
            refine ⟨fun k hk => ?_, fun F2 st2 h => ?_⟩
            · rcases List.mem_cons.mp hk with e | e
              · subst e
                exact ⟨zs, xs, lz, q, hp, p, _, hv, e3.trans e4⟩
              · exact i1 k e
            · obtain ⟨g1, g2⟩ := h r List.mem_cons_self
              exact ⟨g1, ⟨zs, g2.trans lz, q.move hp⟩, i2 F2 st2 fun k hk => h k (List.mem_cons_of_mem _ hk)⟩
          · cases h2
        · cases h2
      · cases h1
    · cases h1
end
theorem sim_call (c : Cfg) : ∀ n, SimC c (callI c n) (callV c n)
  | 0 => fun f us r os h => by cases h
  | n + 1 => fun f us r os h F w st ds oks hl hF hr hk hok hn hap => by
    have ih := sim_call c n
    unfold callV at h
    split at h
    · cases h
    · rename_i fn hfn
      split at h
      · rename_i hnp
        have hdl : ds.length = fn.np := by rw [hr.length]; exact hnp
        unfold callI
        rw [hfn]
        dsimp only
        rw [if_pos hdl]
        have hps : psOf c f = match fn.kind with
            | .raw => []
            | .mut ps => ps := by
          unfold psOf
          rw [hfn] <;> rfl
        have hkk : fn.kind = .raw ∨ ∃ ps, fn.kind = .mut ps := by
          cases fn.kind with
          | raw => exact .inl rfl
          | «mut» ps => exact .inr ⟨ps, rfl⟩
        rcases hkk with hkd | ⟨ps, hkd⟩
        · rw [hkd] at hps h
          dsimp only at hps h
          rw [hps] at hk hap
          cases hk
          -- raw
          rw [hkd]
          dsimp only
          have I := start_inv (fn := fn) (ps := []) (w' := w) (oks := []) hl hF hr rfl (fun k hk => nomatch hk) .nil (fun _ _ _ _ k hk => nomatch hk)
          cases hb : exVs c (callV c n) fn.body (envV [] fn us) with
          | none =>
            rw [hb] at h
            cases h
          | some fv =>
            rw [hb] at h
            have z := sim_Ss (w := w) ih fn.body F _ (envOf fn ds) _ st fv I hb
            cases fv with
            | nx v =>
              obtain ⟨e, s1, F1, k1, o⟩ := z
              cases h
              rw [k1]
              exact ⟨_, s1, F1, rfl, o.stp, fun q hq => o.inv.low q (.inl hq), trivial, .non, rfl, .non⟩
            | rt u fr v =>
              obtain ⟨d, e, s1, F1, k1, o, q⟩ := z
              cases h
              rw [k1]
              refine ⟨_, s1, F1, rfl, o.stp, fun q hq => o.inv.low q (.inl hq), trivial, ?_⟩
              cases fr with
              | false => exact ⟨d, rfl, q⟩
              | true =>
                obtain ⟨q0, us', rfl, rfl, nf, nb, cn, l, _⟩ := q
                exact ⟨q0, us', rfl, rfl, Nat.le_of_not_lt fun z => nb ⟨z, (fun y => nomatch y)⟩, nf, l⟩
            | ex x v =>
              obtain ⟨d, e, s1, F1, k1, o, q⟩ := z
              have h' : (if U.purs x.args then (outsV v []).map fun os => (RV.ex x, os) else none) = some (r, os) := h
              split at h'
              · cases h'
                rw [k1]
                exact ⟨_, s1, F1, rfl, o.stp, fun q hq => o.inv.low q (.inl hq), trivial, d, rfl, q⟩
              · cases h'
            | bk v => cases h
            | ct v => cases h
        · rw [hkd] at hps h
          dsimp only at hps h
          rw [hps] at hk hap
          rw [hkd]
          dsimp only
          rw [hk]
          dsimp only
          have hcan : (oks.all w.can && oks.all fun r => decide (r < st.length)) = true := by
            rw [Bool.and_eq_true]
            exact ⟨List.all_eq_true.mpr fun k hk => (hok k hk).2.1, List.all_eq_true.mpr fun k hk => decide_eq_true (hok k hk).2.2⟩
          rw [if_pos hcan]
          have hok' : ∀ k, k ∈ oks → ¬ F k ∧ (Wr.mk st.length oks).can k = true ∧ k < st.length := fun k hk => ⟨(hok k hk).1, by
            unfold Wr.can
            rw [Bool.or_eq_true]
            right
            simpa using hk, (hok k hk).2.2⟩
          have I := start_inv (fn := fn) (w' := ⟨st.length, oks⟩) (Nat.le_refl _) hF hr hk hok' hn hap
          cases hb : exVs c (callV c n) fn.body (envV ps fn us) with
          | none =>
            rw [hb] at h
            cases h
          | some fv =>
            rw [hb] at h
            have z := sim_Ss (w := ⟨st.length, oks⟩) ih fn.body F _ (envOf fn ds) _ st fv I hb
            have hlt : ∀ k, k ∈ oks → k < st.length := fun k hk => (hok k hk).2.2
            -- the end, whatever is handed back
            have fin : ∀ {env' : Evn} {v : VE} {s1 : Store} {F1 : Nat → Prop} {os' : List (List U)}, Out F (fun q => q < st.length ∧ q ∉ oks) ⟨st.length, oks⟩ st (envOf fn ds) (envV ps fn us) F1 s1 env' v → outsV v ps = some os' →
                ∃ s2, upds st s1 oks = some s2 ∧ s2.length = st.length ∧ Stp F (fun q => q < st.length ∧ q ∉ oks) st F s2 ∧ (∀ l : Store, Outs F (s2 ++ l) oks os') ∧ ∀ q us', Fresh F1 (fun q => q < st.length ∧ q ∉ oks) ⟨st.length, oks⟩ s1 env' v q us' → st.length ≤ q := fun {env' v s1 F1 os'} o ho => by
              obtain ⟨a1, a2⟩ := outs_sim o.inv o.bk hk ho
              obtain ⟨s2, hs2⟩ := upds_ok (s0 := st) (st1 := s1) (oks := oks) fun k hk => by
                obtain ⟨zs, us', l, q, p, _⟩ := a1 k hk
                exact ⟨zs, l, (q.pure p).1⟩
              obtain ⟨u1, u2, u3⟩ := upds_spec (st := st) (st1 := s1) (oks := oks) (s0 := st) (s2 := s2) hlt rfl hs2
              refine ⟨s2, hs2, u1, ⟨fun _ h => h, fun _ h => .inl h, fun q hq => u2 q fun hm => ?_, by rw [u1]; exact Nat.le_refl _⟩, fun l => a2 F (s2 ++ l) fun k hk => ⟨(hok k hk).1, ?_⟩, fun q us' hf => Nat.le_of_not_lt fun hlq => ?_⟩
              · exact hq.elim (hok q hm).1 fun z => z.2 hm
              · obtain ⟨o', e1, e2, _⟩ := u3 k hk
                refine lstAt_eq ?_
                rw [List.getElem?_append_left (by rw [u1]; exact hlt k hk), e1, e2]
              · obtain ⟨nf, nb, cn, l, hno⟩ := hf
                by_cases hm : q ∈ oks
                · obtain ⟨zs, us2, _, _, _, i, ui, hi, he⟩ := a1 q hm
                  exact hno i ui .mu hi rfl he
                · exact nb ⟨hlq, hm⟩
            cases fv with
            | nx v =>
              obtain ⟨e, s1, F1, k1, o⟩ := z
              obtain ⟨os', ho, eo⟩ := Option.map_eq_some_iff.mp (show (outsV v ps).map (fun os => (RV.ok (U.non, false), os)) = some (r, os) from h)
              cases eo
              obtain ⟨s2, b1, b2, b3, b4, _⟩ := fin o ho
              rw [k1]
              refine ⟨.ok .non, s2, F, ?_, b3, fun q hq => by rw [b2]; exact hF q hq, by have := b4 []; rw [List.append_nil] at this; exact this, .non, rfl, .non⟩
              unfold leave
              dsimp only
              rw [b1]
            | rt u fr v =>
              obtain ⟨d, e, s1, F1, k1, o, q⟩ := z
              have h' := h
              unfold endV at h'
              dsimp only at h'
              split at h'
              · rename_i hp
                obtain ⟨os', ho, eo⟩ := Option.map_eq_some_iff.mp h'
                cases eo
                obtain ⟨s2, b1, b2, b3, b4, _⟩ := fin o ho
                have q0 : Rep F1 s1 d u := by
                  cases fr with
                  | false => exact q
                  | true =>
                    obtain ⟨q0, us', _, rfl, _⟩ := q
                    cases hp
                rw [k1]
                refine ⟨.ok d, s2, F, ?_, b3, fun q hq => by rw [b2]; exact hF q hq, by have := b4 []; rw [List.append_nil] at this; exact this, d, rfl, q0.move hp⟩
                unfold leave
                dsimp only
                rw [b1]
                dsimp only
                rw [if_pos (D.pur_lo _ (q0.pure hp).1)]
              · rename_i hnpur
                split at h'
                · rename_i xs
                  split at h'
                  · rename_i hp
                    obtain ⟨os', ho, eo⟩ := Option.map_eq_some_iff.mp h'
                    cases eo
                    obtain ⟨s2, b1, b2, b3, b4, b5⟩ := fin o ho
                    obtain ⟨q0, us', rfl, eu, hf⟩ := q
                    cases eu
                    have hge := b5 q0 _ hf
                    obtain ⟨nf, nb, cn, ⟨zs, l, qs⟩, _⟩ := hf
                    rw [k1]
                    refine ⟨.ok (.ref st.length), s2 ++ [.lst zs], F, ?_, b3.trans ⟨fun _ h => h, fun _ h => .inl h, fun q hq => List.getElem?_append_left (by rw [b2]; exact hq.elim (hF q) fun z => z.1), by rw [List.length_append]; omega⟩, fun q hq => by rw [List.length_append, b2]; have := hF q hq; omega, b4 _, st.length, xs, rfl, rfl, Nat.le_refl _, fun z => Nat.lt_irrefl _ (hF _ z), zs, ?_, qs.move hp⟩
                    · unfold leave
                      dsimp only
                      rw [b1]
                      dsimp only
                      have hlo : ¬ ((D.ref q0).lo st.length = true) := fun z => Nat.lt_irrefl _ (Nat.lt_of_lt_of_le (of_decide_eq_true (show decide (q0 < st.length) = true from z)) hge)
                      rw [if_neg hlo, upds_ok.lstAt_some' l]
                      dsimp only
                      rw [if_pos (show loO st.length (.lst zs) = true from D.purs_los _ (qs.pure hp).1)]
                    · rw [← b2]
                      exact lstAt_new
                  · cases h'
                · cases h'
            | ex x v =>
              obtain ⟨d, e, s1, F1, k1, o, q⟩ := z
              have h' : (if U.purs x.args then (outsV v ps).map fun os => (RV.ex x, os) else none) = some (r, os) := h
              split at h'
              · rename_i hp
                obtain ⟨os', ho, eo⟩ := Option.map_eq_some_iff.mp h'
                cases eo
                obtain ⟨s2, b1, b2, b3, b4, _⟩ := fin o ho
                rw [k1]
                refine ⟨.ex ⟨x.cls, d⟩, s2, F, ?_, b3, fun q hq => by rw [b2]; exact hF q hq, by have := b4 []; rw [List.append_nil] at this; exact this, d, rfl, q.move hp⟩
                unfold leave
                dsimp only
                rw [b1]
                dsimp only
                rw [if_pos (D.purs_los _ (q.pure hp).1)]
              · cases h'
            | bk v => cases h
            | ct v => cases h
      · cases h
/-- the law's end, by values -/
theorem law_val {c : Cfg} {n i : Nat} {ns : List Int} {os : List (List U)} (hp : psOf c i = []) (h : callV c n i [.rol (ns.map U.int)] = some (.ok (.bl true, false), os)) : ∃ st', callI c n ⟨0, []⟩ i [.rol (ns.map D.int)] [] = some (.ok (.bl true), st') := by
  obtain ⟨res, st', F', e1, _, _, _, d, e2, q⟩ := sim_call c n i _ _ _ h (fun _ => False) ⟨0, []⟩ [] [.rol (ns.map D.int)] [] (Nat.le_refl _) (fun _ z => z.elim) (.cons (.ok (.rol (Reps.ints ns))) .nil) (by rw [hp]; rfl) (fun k hk => nomatch hk) .nil (fun _ _ _ _ k hk => nomatch hk)
  subst e2
  cases q
  exact ⟨st', e1⟩
end Iv
end
section
set_option Elab.async false
set_option linter.all false
set_option maxRecDepth 100000
/-! IvP: loops of values. -/
namespace Iv
open PySem L2
/-- a for, by what stands behind each turn -/
theorem forV_inv {body : VE → Option FV} {g : Tg} (I : List U → VE → Prop) {us : List U} {env : VE} (h0 : I [] env)
    (hs : ∀ (done : List U) (x : U) (rest : List U), us = done ++ x :: rest → ∀ e, I done e → ∃ e1 e2, g.bindU x e = some e1 ∧ (body e1 = some (.nx e2) ∨ body e1 = some (.ct e2)) ∧ I (done ++ [x]) e2) : ∃ e, forV body g us env = some (.nx e) ∧ I us e := by
  have key : ∀ (rest done : List U) (e : VE), us = done ++ rest → I done e → ∃ e2, forV body g rest e = some (.nx e2) ∧ I us e2 := by
    intro rest
    induction rest with
    | nil =>
      intro done e hd hI
      rw [List.append_nil] at hd
      subst hd
      exact ⟨e, rfl, hI⟩
    | cons x rest ih =>
      intro done e hd hI
      obtain ⟨e1, e2, h1, h2, h3⟩ := hs done x rest hd e hI
      obtain ⟨e3, h4, h5⟩ := ih (done ++ [x]) e2 (by rw [hd, List.append_assoc]; rfl) h3
      refine ⟨e3, ?_, h5⟩
      unfold forV
      rw [h1]
      dsimp only
      rcases h2 with h2 | h2
      · rw [h2]
        exact h4
      · rw [h2]
        exact h4
  exact key us [] env rfl h0
/-- a for that may end early: it goes on while I, or is left by Q -/
theorem forV_brk {body : VE → Option FV} {g : Tg} (I : List U → VE → Prop) (Q : FV → Prop) {us : List U} {env : VE} (h0 : I [] env)
    (hs : ∀ (done : List U) (x : U) (rest : List U), us = done ++ x :: rest → ∀ e, I done e → ∃ e1, g.bindU x e = some e1 ∧ ((∃ e2, (body e1 = some (.nx e2) ∨ body e1 = some (.ct e2)) ∧ I (done ++ [x]) e2) ∨ (∃ e2, body e1 = some (.bk e2) ∧ Q (.nx e2)) ∨ ∃ u fr e2, body e1 = some (.rt u fr e2) ∧ Q (.rt u fr e2)))
    (hn : ∀ e, I us e → Q (.nx e)) : ∃ f, forV body g us env = some f ∧ Q f := by
  have key : ∀ (rest done : List U) (e : VE), us = done ++ rest → I done e → ∃ f, forV body g rest e = some f ∧ Q f := by
    intro rest
    induction rest with
    | nil =>
      intro done e hd hI
      rw [List.append_nil] at hd
      subst hd
      exact ⟨_, rfl, hn e hI⟩
    | cons x rest ih =>
      intro done e hd hI
      obtain ⟨e1, h1, h2⟩ := hs done x rest hd e hI
      unfold forV
      rw [h1]
      dsimp only
      rcases h2 with ⟨e2, h2, h3⟩ | ⟨e2, h2, h3⟩ | ⟨u, fr, e2, h2, h3⟩
      · obtain ⟨f, h4, h5⟩ := ih (done ++ [x]) e2 (by rw [hd, List.append_assoc]; rfl) h3
        refine ⟨f, ?_, h5⟩
        rcases h2 with h2 | h2
        · rw [h2]
          exact h4
        · rw [h2]
          exact h4
      · rw [h2]
        exact ⟨_, rfl, h3⟩
      · rw [h2]
        exact ⟨_, rfl, h3⟩
  exact key us [] env rfl h0
/-- a comprehension -/
theorem cmpV_inv {f : VE → Vs (Option U)} {g : Tg} (I : List U → List U → VE → Prop) {us : List U} {env : VE} (hl : us.length ≤ 1000000) (h0 : I [] [] env)
    (hs : ∀ (done : List U) (x : U) (rest : List U), us = done ++ x :: rest → ∀ acc e, I done acc e → ∃ e1 e2 oy, g.bindU x e = some e1 ∧ f e1 = some (.ok oy, e2) ∧ I (done ++ [x]) (match oy with | some y => acc ++ [y] | none => acc) e2) : ∃ acc e, cmpV f g us [] env = some (.ok acc, e) ∧ I us acc e := by
  have key : ∀ (rest done acc : List U) (e : VE), us = done ++ rest → acc.length ≤ done.length → I done acc e → ∃ acc2 e2, cmpV f g rest acc e = some (.ok acc2, e2) ∧ I us acc2 e2 := by
    intro rest
    induction rest with
    | nil =>
      intro done acc e hd ha hI
      rw [List.append_nil] at hd
      subst hd
      exact ⟨acc, e, rfl, hI⟩
    | cons x rest ih =>
      intro done acc e hd ha hI
      obtain ⟨e1, e2, oy, h1, h2, h3⟩ := hs done x rest hd acc e hI
      have hlen : us.length = done.length + (rest.length + 1) := by rw [hd, List.length_append, List.length_cons]
      unfold cmpV
      rw [h1]
      dsimp only
      rw [h2]
      dsimp only [bndV]
      cases oy with
      | none => exact ih (done ++ [x]) acc e2 (by rw [hd, List.append_assoc]; rfl) (by rw [List.length_append]; omega) h3
      | some y =>
        dsimp only
        rw [if_pos (by omega)]
        exact ih (done ++ [x]) (acc ++ [y]) e2 (by rw [hd, List.append_assoc]; rfl) (by rw [List.length_append, List.length_append]; exact Nat.add_le_add_right ha 1) h3
  exact key us [] [] env rfl (Nat.le_refl _) h0
/-- .. whose element is told by the item, and that leaves the names alone -/
theorem cmpV_map {f : VE → Vs (Option U)} {i : Nat} {us : List U} {env : VE} (h : U → U) (hl : us.length ≤ 1000000)
    (hs : ∀ x, x ∈ us → f (env.set i (some (x, .frz))) = some (.ok (some (h x)), env.set i (some (x, .frz)))) : ∃ o, cmpV f (.name i) us [] env = some (.ok (us.map h), env.set i o) ∨ (us = [] ∧ cmpV f (.name i) us [] env = some (.ok [], env)) := by
  have key : ∀ (rest : List U) (acc : List U) (o : Option (U × Md)), (∀ x, x ∈ rest → x ∈ us) → acc.length + rest.length ≤ us.length → rest ≠ [] → ∃ o2, cmpV f (.name i) rest acc (env.set i o) = some (.ok (acc ++ rest.map h), env.set i o2) := by
    intro rest
    induction rest with
    | nil => intro _ _ _ _ hn; exact absurd rfl hn
    | cons x rest ih =>
      intro acc o hm hle _
      unfold cmpV
      show ∃ o2, (match some ((env.set i o).set i (some (x, Md.frz))) with
        | some e1 => bndV (f e1) fun od e2 => match od with
          | some y => if acc.length < 1000000 then cmpV f (.name i) rest (acc ++ [y]) e2 else none
          | none => cmpV f (.name i) rest acc e2
        | none => none) = _
      rw [List.set_set]
      dsimp only
      rw [hs x (hm x List.mem_cons_self)]
      dsimp only [bndV]
      rw [List.length_cons] at hle
      rw [if_pos (by omega)]
      cases rest with
      | nil => exact ⟨_, by unfold cmpV; rfl⟩
      | cons y rest =>
        obtain ⟨o2, h2⟩ := ih (acc ++ [h x]) (some (x, .frz)) (fun z hz => hm z (List.mem_cons_of_mem _ hz)) (by rw [List.length_append, List.length_cons, List.length_nil]; omega) (fun z => by cases z)
        exact ⟨o2, by rw [h2, List.append_assoc]; rfl⟩
  cases us with
  | nil => exact ⟨none, .inr ⟨rfl, rfl⟩⟩
  | cons x us =>
    have he : ∀ o, cmpV f (.name i) (x :: us) [] env = cmpV f (.name i) (x :: us) [] (env.set i o) := fun o => by
      have e1 : (Tg.name i).bindU x (env.set i o) = (Tg.name i).bindU x env := congrArg some (List.set_set ..)
      unfold cmpV
      rw [e1]
    obtain ⟨o2, h2⟩ := key (x :: us) [] none (fun z hz => hz) (by rw [List.length_nil]; omega) (fun z => by cases z)
    exact ⟨o2, .inl ((he none).trans h2)⟩
section
variable {c : Cfg} {cV : Nat → List U → Option (RV (U × Bool) × List (List U))}
theorem bndV_ok {A C : Type} (a : A) (e : VE) (f : A → VE → Vs C) : bndV (some (.ok a, e)) f = f a e := (rfl)
theorem lftV_ok {A : Type} (a : A) (e : VE) (f : A → VE → Option FV) : lftV (some (.ok a, e)) f = f a e := (rfl)
theorem set_get {env : VE} {i : Nat} {o : Option (U × Md)} (h : env[i]? = some o) : env.set i o = env := by
  apply List.ext_getElem?
  intro j
  by_cases hj : j = i
  · subst hj
    rw [List.getElem?_set_self (List.getElem?_eq_some_iff.mp h).1, h]
  · rw [List.getElem?_set_ne (Ne.symm hj)]
/-- a comprehension without a test, its element told by the item -/
theorem ev_comp {env env0 env' : VE} {i : Nat} {k : Ik} {es : Es} {e : E} {esc : Bool} {xs us : List U} (h : U → U) (hsrc : evVl c cV es env = some (.ok xs, env0)) (hus : srcU k xs = some us) (hl : us.length ≤ 1000000)
    (hi : i < env0.length)
    (hel : ∀ x, x ∈ us → ∃ fr, evV c cV e true ((pinS es env0).set i (some (x, .frz))) = some (.ok (h x, fr), (pinS es env0).set i (some (x, .frz)))) (hb : ∀ o, backV env0 [i] (unpinS es env0 ((pinS es env0).set i o)) = env') :
    evV c cV (.comp (.name i) k es .nil e [i]) esc env = some (.ok (.lst (us.map h), true), env') := by
  unfold evV
  rw [hsrc, bndV_ok, hus]
  dsimp only
  have ht : tgOwn [i] (.name i) = true := by
    show [i].contains i = true
    simp
  rw [ht, if_neg (by simp)]
  have hw : wipeV (pinS es env0) [i] = (pinS es env0).set i none := (rfl)
  rw [hw]
  have hF : ∀ x, x ∈ us → (bndV (evV c cV e true (((pinS es env0).set i none).set i (some (x, .frz)))) fun d e3 => some (.ok (some d.1), e3)) = some (.ok (some (h x)), ((pinS es env0).set i none).set i (some (x, .frz))) := fun x hx => by
    obtain ⟨fr, h1⟩ := hel x hx
    rw [List.set_set, h1]
    rfl
  have fin : ∀ o, (some (RV.ok (U.lst (us.map h), true), backV env0 [i] (unpinS es env0 ((pinS es env0).set i o))) : Vs (U × Bool)) = some (.ok (.lst (us.map h), true), env') := fun o => by rw [hb]
  obtain ⟨o, hq | ⟨hq1, hq2⟩⟩ := cmpV_map (f := fun e2 => bndV (evV c cV e true e2) fun d e3 => some (.ok (some d.1), e3)) (i := i) (env := (pinS es env0).set i none) h hl hF
  · rw [hq, List.set_set]
    exact fin o
  · rw [hq2]
    subst hq1
    exact fin none
end
end Iv
end
section
set_option Elab.async false
set_option linter.all false
set_option maxRecDepth 100000
/-! IvP2: rows by which values run. -/
namespace Iv
open PySem L2
section
variable {A : Type}
theorem unpV_ok (e : E) (e0 e1 : VE) (r : RV A) : unpV e e0 (some (r, e1)) = some (r, unpinV e e0 e1) := (rfl)
theorem retV_ok (a : A) (e : VE) : retV (some a) e = some (.ok a, e) := (rfl)
theorem sqV_nx (e : VE) (f : VE → Option FV) : sqV (some (.nx e)) f = f e := (rfl)
theorem sqV_rt (u : U) (fr : Bool) (e : VE) (f : VE → Option FV) : sqV (some (.rt u fr e)) f = some (.rt u fr e) := (rfl)
theorem unpF_nx (es : Es) (e0 e : VE) : unpF es e0 (some (.nx e)) = some (.nx (unpinS es e0 e)) := (rfl)
theorem unpF_rt (es : Es) (e0 e : VE) (u : U) (fr : Bool) : unpF es e0 (some (.rt u fr e)) = some (.rt u fr (unpinS es e0 e)) := (rfl)
theorem ixN_nat {n k : Nat} (h : k < n) : ixN n (k : Int) = some k := by
  unfold ixN
  have h1 : (0 : Int) ≤ (k : Int) := Int.natCast_nonneg k
  simp only [h1, if_true]
  rw [if_pos (by omega)]
  rfl
theorem atI_nat {xs : List A} {k : Nat} {a : A} (h : xs[k]? = some a) : atI xs (k : Int) = some a := by
  unfold atI
  rw [ixN_nat (List.getElem?_eq_some_iff.mp h).1]
  exact h
theorem ixN_last {n : Nat} (h : 0 < n) : ixN n (-1) = some (n - 1) := by
  unfold ixN
  rw [if_neg (by decide), if_pos (by omega)]
  congr 1
  omega
theorem atI_last {xs : List A} {a : A} (h : xs.getLast? = some a) : atI xs (-1) = some a := by
  unfold atI
  have hl : 0 < xs.length := by
    cases xs with
    | nil => cases h
    | cons _ _ => exact Nat.succ_pos _
  rw [ixN_last hl]
  rw [List.getLast?_eq_getElem?] at h
  exact h
theorem idx_tup {xs : List U} {k : Nat} {a : U} (h : xs[k]? = some a) : idxU (.tup xs) (.int (k : Int)) = some (a, false) := by
  show (match atI xs (k : Int) with
    | some d => some (d, false)
    | none => none) = _
  rw [atI_nat h]
theorem idx_lst {xs : List U} {k : Nat} {a : U} (h : xs[k]? = some a) : idxU (.lst xs) (.int (k : Int)) = some (a, false) := by
  show (match atI xs (k : Int) with
    | some d => some (d, false)
    | none => none) = _
  rw [atI_nat h]
theorem idx_last {xs : List U} {a : U} (h : xs.getLast? = some a) : idxU (.tup xs) (.int (-1)) = some (a, false) := by
  show (match atI xs (-1) with
    | some d => some (d, false)
    | none => none) = _
  rw [atI_last h]
theorem idx_lastL {xs : List U} {a : U} (h : xs.getLast? = some a) : idxU (.lst xs) (.int (-1)) = some (a, false) := by
  show (match atI xs (-1) with
    | some d => some (d, false)
    | none => none) = _
  rw [atI_last h]
theorem idx_0 (a : U) (l : List U) : idxU (.tup (a :: l)) (.int 0) = some (a, false) := idx_tup (k := 0) rfl
theorem idx_1 (a b : U) (l : List U) : idxU (.tup (a :: b :: l)) (.int 1) = some (b, false) := idx_tup (k := 1) rfl
theorem idx_2 (a b d : U) (l : List U) : idxU (.tup (a :: b :: d :: l)) (.int 2) = some (d, false) := idx_tup (k := 2) rfl
theorem idx_3 (a b d e : U) (l : List U) : idxU (.tup (a :: b :: d :: e :: l)) (.int 3) = some (e, false) := idx_tup (k := 3) rfl
theorem call_mut {c : Cfg} {n f : Nat} {fn : Fn} {ps : List Nat} {us : List U} (h : c.fns[f]? = some fn) (hk : fn.kind = .mut ps) (hl : us.length = fn.np) : callV c (n + 1) f us = endV ps false (exVs c (callV c n) fn.body (envV ps fn us)) := by
  show (match c.fns[f]? with
    | none => none
    | some fn => if us.length = fn.np then match fn.kind with
        | .raw => endV [] true (exVs c (callV c n) fn.body (envV [] fn us))
        | .mut ps => endV ps false (exVs c (callV c n) fn.body (envV ps fn us))
      else none) = _
  rw [h]
  dsimp only
  rw [if_pos hl, hk]
/-- a for over items told by data -/
theorem forV_map {A : Type} (enc : A → U) {body : VE → Option FV} {g : Tg} (I : List A → VE → Prop) {l : List A} {env : VE} (h0 : I [] env)
    (hs : ∀ (done : List A) (x : A) (rest : List A), l = done ++ x :: rest → ∀ e, I done e → ∃ e1 e2, g.bindU (enc x) e = some e1 ∧ (body e1 = some (.nx e2) ∨ body e1 = some (.ct e2)) ∧ I (done ++ [x]) e2) : ∃ e, forV body g (l.map enc) env = some (.nx e) ∧ I l e := by
  have key : ∀ (rest done : List A) (e : VE), l = done ++ rest → I done e → ∃ e2, forV body g (rest.map enc) e = some (.nx e2) ∧ I l e2 := by
    intro rest
    induction rest with
    | nil =>
      intro done e hd hI
      rw [List.append_nil] at hd
      subst hd
      exact ⟨e, rfl, hI⟩
    | cons x rest ih =>
      intro done e hd hI
      obtain ⟨e1, e2, h1, h2, h3⟩ := hs done x rest hd e hI
      obtain ⟨e3, h4, h5⟩ := ih (done ++ [x]) e2 (by rw [hd, List.append_assoc]; rfl) h3
      refine ⟨e3, ?_, h5⟩
      rw [List.map_cons]
      unfold forV
      rw [h1]
      dsimp only
      rcases h2 with h2 | h2
      · rw [h2]
        exact h4
      · rw [h2]
        exact h4
  exact key l [] env rfl h0
/-! ### texts in a row -/
theorem str_beq (x y : Str) : U.eqv (.str x) (.str y) = (x == y) := (rfl)
theorem in_names (l : List Str) (x : Str) : inU (.str x) (.tup (l.map .str)) = some (l.any (· == x)) := by
  have h1 : (l.map U.str).all U.flat = true := by
    rw [List.all_map]
    exact List.all_eq_true.mpr fun y _ => rfl
  show (if (U.str x).flat && (l.map U.str).all U.flat then some ((l.map U.str).any fun z => U.eqv z (.str x)) else none) = _
  rw [h1, List.any_map]
  rfl
theorem strsU_map (l : List Str) : strsU (l.map .str) = some l := by
  induction l with
  | nil => rfl
  | cons x xs ih =>
    rw [List.map_cons]
    unfold strsU
    rw [ih]
theorem intsU_map (l : List Int) : intsU (l.map .int) = some l := by
  induction l with
  | nil => rfl
  | cons x xs ih =>
    rw [List.map_cons]
    unfold intsU
    rw [ih]
theorem first_map (x : Str) : ∀ (l : List Str) (k : Nat), firstU (.str x) (l.map .str) k = (l.findIdx? (· == x)).map (· + k)
  | [], k => rfl
  | y :: l, k => by
    rw [List.map_cons, List.findIdx?_cons]
    unfold firstU
    rw [first_map x l (k + 1)]
    show (if (y == x) = true then some k else _) = _
    cases hb : (y == x) with
    | true => simp
    | false =>
      simp only [Bool.false_eq_true, if_false, Option.map_map]
      congr 1
      funext i
      show i + (k + 1) = i + 1 + k
      omega
theorem index_names {l : List Str} {x : Str} {i : Nat} (h : l.findIdx? (· == x) = some i) : mthU .index (.tup (l.map .str)) [.str x] = some (.int i, false) := by
  show (match strsU (l.map U.str) with
    | some _ => match firstU (.str x) (l.map U.str) 0 with
      | some k => some (U.int k, false)
      | none => none
    | none => none) = _
  rw [strsU_map, first_map, h]
  rfl
end
end Iv
end
section
set_option Elab.async false
set_option linter.all false
set_option maxRecDepth 100000
/-! IvP3: each piece of the language by its row. -/
namespace Iv
open PySem L2
section
variable {c : Cfg} {cV : Nat → List U → Option (RV (U × Bool) × List (List U))} {env : VE} {esc : Bool}
theorem ev_var (i : Nat) : evV c cV (.var i) esc env = rdU esc env i := by first | (simp only [evV]; done) | (simp only [evV]; rfl)
theorem ev_cst (d : D) : evV c cV (.cst d) esc env = if d.pur then some (.ok (d.up, false), env) else none := by first | (simp only [evV]; done) | (simp only [evV]; rfl)
theorem ev_glb (i : Nat) : evV c cV (.glb i) esc env = match c.consts[i]? with
    | some d => if d.pur then some (.ok (d.up, false), env) else none
    | none => none := by first | (simp only [evV]; done) | (simp only [evV]; rfl)
theorem ev_bin (o : Bop) (a b : E) : evV c cV (.bin o a b) esc env = bndV (evV c cV a false env) fun x e1 => unpV a e1 (bndV (evV c cV b false (pinV a e1)) fun y e2 => retV (binU o x.1 y.1) e2) := by first | (simp only [evV]; done) | (simp only [evV]; rfl)
def negV (u : U) (e : VE) : Vs (U × Bool) := match u with
  | .int i => some (.ok (.int (-i), false), e)
  | _ => none
theorem ev_neg (a : E) : evV c cV (.neg a) esc env = bndV (evV c cV a false env) fun x e1 => negV x.1 e1 := by first | (simp only [evV]; done) | (simp only [evV]; rfl)
theorem negV_int (i : Int) (e : VE) : negV (.int i) e = some (.ok (.int (-i), false), e) := (rfl)
def blV (o : Option Bool) (e : VE) : Vs (U × Bool) := match o with
  | some k => some (.ok (.bl k, false), e)
  | none => none
theorem blV_ok (k : Bool) (e : VE) : blV (some k) e = some (.ok (.bl k, false), e) := (rfl)
theorem ev_cmp (o : Cop) (a b : E) : evV c cV (.cmp o a b) esc env = bndV (evV c cV a false env) fun x e1 => unpV a e1 (bndV (evV c cV b false (pinV a e1)) fun y e2 => blV (cmpU o x.1 y.1) e2) := by first | (simp only [evV]; done) | (simp only [evV]; rfl)
def notV (u : U) (e : VE) : Vs (U × Bool) := match u with
  | .bl k => some (.ok (.bl (!k), false), e)
  | _ => none
theorem notV_bl (k : Bool) (e : VE) : notV (.bl k) e = some (.ok (.bl (!k), false), e) := (rfl)
theorem ev_not (a : E) : evV c cV (.not a) esc env = bndV (evV c cV a false env) fun x e1 => notV x.1 e1 := by first | (simp only [evV]; done) | (simp only [evV]; rfl)
/-- a truth, two ways -/
def iteV {A : Type} (u : U) (a b : Option A) : Option A := match u with
  | .bl true => a
  | .bl false => b
  | _ => none
theorem iteV_bl {A : Type} (k : Bool) (a b : Option A) : iteV (.bl k) a b = if k then a else b := by cases k <;> rfl
theorem ev_and (es : Es) : evV c cV (.and es) esc env = evVAnd c cV es env := by first | (simp only [evV]; done) | (simp only [evV]; rfl)
theorem ev_or (es : Es) : evV c cV (.or es) esc env = evVOr c cV es env := by first | (simp only [evV]; done) | (simp only [evV]; rfl)
theorem ev_and1 (e : E) : evVAnd c cV (.cons e .nil) env = evV c cV e true env := by first | (simp only [evVAnd]; done) | (simp only [evVAnd]; rfl)
theorem ev_and2 (e e2 : E) (es : Es) : evVAnd c cV (.cons e (.cons e2 es)) env = bndV (evV c cV e false env) fun x e1 => iteV x.1 (evVAnd c cV (.cons e2 es) e1) (some (.ok (.bl false, false), e1)) := by
  first | (simp only [evVAnd]; done) | (simp only [evVAnd]; rfl) | (simp only [evVAnd]; congr 1; funext x e1; cases x.1 <;> first | rfl | (rename_i k; cases k <;> rfl))
theorem ev_or1 (e : E) : evVOr c cV (.cons e .nil) env = evV c cV e true env := by first | (simp only [evVOr]; done) | (simp only [evVOr]; rfl)
theorem ev_or2 (e e2 : E) (es : Es) : evVOr c cV (.cons e (.cons e2 es)) env = bndV (evV c cV e false env) fun x e1 => iteV x.1 (some (.ok (.bl true, false), e1)) (evVOr c cV (.cons e2 es) e1) := by
  first | (simp only [evVOr]; done) | (simp only [evVOr]; rfl) | (simp only [evVOr]; congr 1; funext x e1; cases x.1 <;> first | rfl | (rename_i k; cases k <;> rfl))
theorem ev_ife (e a b : E) : evV c cV (.ife e a b) esc env = bndV (evV c cV e false env) fun x e1 => iteV x.1 (evV c cV a true e1) (evV c cV b true e1) := by
  first | (simp only [evV]; done) | (simp only [evV]; rfl) | (simp only [evV]; congr 1; funext x e1; cases x.1 <;> first | rfl | (rename_i k; cases k <;> rfl))
def sizV (xs : List U) (u : U) (fr : Bool) (e : VE) : Vs (U × Bool) := if xs.length ≤ 1000000 then some (.ok (u, fr), e) else none
theorem ev_tup (es : Es) : evV c cV (.tup es) esc env = bndV (evVs c cV es env) fun xs e1 => sizV xs (.tup xs) false e1 := by first | (simp only [evV]; done) | (simp only [evV]; rfl)
theorem ev_lst (es : Es) : evV c cV (.lst es) esc env = bndV (evVs c cV es env) fun xs e1 => sizV xs (.lst xs) true e1 := by first | (simp only [evV]; done) | (simp only [evV]; rfl)
theorem sizV_0 (u : U) (fr : Bool) (e : VE) : sizV [] u fr e = some (.ok (u, fr), e) := (rfl)
theorem sizV_1 (a u : U) (fr : Bool) (e : VE) : sizV [a] u fr e = some (.ok (u, fr), e) := (rfl)
theorem sizV_2 (a b u : U) (fr : Bool) (e : VE) : sizV [a, b] u fr e = some (.ok (u, fr), e) := (rfl)
theorem sizV_5 (a b x y z u : U) (fr : Bool) (e : VE) : sizV [a, b, x, y, z] u fr e = some (.ok (u, fr), e) := (rfl)
theorem ev_idx (a b : E) : evV c cV (.idx a b) esc env = bndV (evV c cV a false env) fun x e1 => unpV a e1 (bndV (evV c cV b false (pinV a e1)) fun y e2 => retV (idxU x.1 y.1) e2) := by first | (simp only [evV]; done) | (simp only [evV]; rfl)
theorem ev_rev (a : E) : evV c cV (.rev a) esc env = bndV (evV c cV a false env) fun x e1 => retV (revU x.1) e1 := by first | (simp only [evV]; done) | (simp only [evV]; rfl)
theorem ev_bi (b : Bi) (es : Es) : evV c cV (.bi b es) esc env = bndV (evVl c cV es env) fun xs e1 => retV (biU b xs) e1 := by first | (simp only [evV]; done) | (simp only [evV]; rfl)
theorem ev_isi (e : E) (t : Ty) : evV c cV (.isi e t) esc env = bndV (evV c cV e false env) fun x e1 => blV (isiU t x.1) e1 := by first | (simp only [evV]; done) | (simp only [evV]; rfl)
def slcV (x : U) (l h : Option (Option Int)) (e : VE) : Vs (U × Bool) := match l, h with
  | some l, some h => retV (slcU x l h) e
  | _, _ => none
theorem ev_slc10 (a l : E) : evV c cV (.slc a (.cons l .nil) .nil) esc env = bndV (evV c cV a false env) fun x e1 => unpV a e1 (bndV (evV c cV l true (pinV a e1)) fun y e2 => match partU [y.1] with
    | some l => retV (slcU x.1 l none) e2
    | none => none) := by
  simp only [evV]
  congr 1
  funext x e1
  simp only [evVs]
  cases evV c cV l true (pinV a e1) with
  | none => rfl
  | some p =>
    obtain ⟨r, e2⟩ := p
    cases r <;> rfl
theorem ev_slc01 (a h : E) : evV c cV (.slc a .nil (.cons h .nil)) esc env = bndV (evV c cV a false env) fun x e1 => unpV a e1 (bndV (evV c cV h true (pinV a e1)) fun y e2 => match partU [y.1] with
    | some h => retV (slcU x.1 none h) e2
    | none => none) := by
  simp only [evV]
  congr 1
  funext x e1
  simp only [evVs, bndV_ok]
  have h0 : partU [] = some none := (rfl)
  rw [h0]
  dsimp only
  cases evV c cV h true (pinV a e1) with
  | none => rfl
  | some p =>
    obtain ⟨r, e2⟩ := p
    cases r <;> rfl
theorem part_int (i : Int) : partU [.int i] = some (some i) := (rfl)
def lrgV (o : Option (Int × Int)) (e1 : VE) : Vs (U × Bool) := match o with
  | some (a, b) => if (b - a).toNat ≤ 1000000 then some (.ok (.lst (rngU a b), true), e1) else none
  | none => none
theorem ev_lrg (es : Es) : evV c cV (.lrg es) esc env = bndV (evVs c cV es env) fun xs e1 => lrgV (rangeU xs) e1 := by first | (simp only [evV]; done) | (simp only [evV]; rfl)
theorem lrgV_ok {a b : Int} (h : (b - a).toNat ≤ 1000000) (e1 : VE) : lrgV (some (a, b)) e1 = some (.ok (.lst (rngU a b), true), e1) := by
  unfold lrgV
  dsimp only
  rw [if_pos h]
theorem vs_nil : evVs c cV .nil env = some (.ok [], env) := by first | (simp only [evVs]; done) | (simp only [evVs]; rfl)
theorem vs_cons (e : E) (es : Es) : evVs c cV (.cons e es) env = bndV (evV c cV e true env) fun x e1 => bndV (evVs c cV es e1) fun xs e2 => some (.ok (x.1 :: xs), e2) := by first | (simp only [evVs]; done) | (simp only [evVs]; rfl)
theorem vl_nil : evVl c cV .nil env = some (.ok [], env) := by first | (simp only [evVl]; done) | (simp only [evVl]; rfl)
theorem vl_cons (e : E) (es : Es) : evVl c cV (.cons e es) env = bndV (evV c cV e false env) fun x e1 => unpV e e1 (bndV (evVl c cV es (pinV e e1)) fun xs e2 => some (.ok (x.1 :: xs), e2)) := by first | (simp only [evVl]; done) | (simp only [evVl]; rfl)
/-- a call that changes nothing -/
def callR (m : Option (RV (U × Bool) × List (List U))) (e : VE) : Vs (U × Bool) := match m with
  | some (r, []) => some (r, e)
  | _ => none
theorem callR_ok (r : RV (U × Bool)) (e : VE) : callR (some (r, [])) e = some (r, e) := (rfl)
theorem va_see : ∀ (es : Es) (k : Nat) (env : VE), evVa c cV [] k es env = bndV (evVl c cV es env) fun us e => some (.ok (us.map Ag.see), e)
  | .nil, k, env => by
    simp only [evVa, vl_nil]
    rfl
  | .cons e es, k, env => by
    have hk : ([] : List Nat).contains k = false := (rfl)
    simp only [evVa, vl_cons, hk]
    cases evV c cV e false env with
    | none => rfl
    | some p =>
      obtain ⟨r, e1⟩ := p
      cases r with
      | ex x => rfl
      | ok x =>
        rw [bndV_ok, bndV_ok, va_see es (k + 1) (pinV e e1)]
        cases evVl c cV es (pinV e e1) with
        | none => rfl
        | some p =>
          obtain ⟨r, e2⟩ := p
          cases r <;> rfl
theorem see_fill (env : VE) : ∀ us : List U, fillV env (us.map Ag.see) = some us
  | [] => rfl
  | u :: us => by
    rw [List.map_cons]
    unfold fillV
    rw [see_fill env us]
    rfl
theorem see_tell : ∀ us : List U, tellV (us.map Ag.see) = [] ∧ tellN (us.map Ag.see) = [] ∧ ∀ k, posV k (us.map Ag.see) = []
  | [] => ⟨rfl, rfl, fun _ => rfl⟩
  | u :: us => ⟨(see_tell us).1, (see_tell us).2.1, fun k => (see_tell us).2.2 (k + 1)⟩
theorem apartV_nil' (ps : List Nat) : ∀ (es : Es) (k : Nat), apartV ps [] k es = true
  | .nil, _ => rfl
  | .cons e es, k => by
    unfold apartV
    rw [apartV_nil' ps es (k + 1)]
    cases e <;> first | rfl | (simp only [List.contains_nil, Bool.not_false, Bool.or_true, Bool.true_and])
theorem ev_call0 {f : Nat} (h : psOf c f = []) (es : Es) : evV c cV (.call f es) esc env = bndV (evVl c cV es env) fun us e1 => callR (cV f us) e1 := by
  simp only [evV]
  rw [h, va_see]
  cases evVl c cV es env with
  | none => rfl
  | some p =>
    obtain ⟨r, e1⟩ := p
    cases r with
    | ex x => rfl
    | ok us =>
      rw [bndV_ok, bndV_ok, bndV_ok, see_fill]
      obtain ⟨h1, h2, h3⟩ := see_tell us
      dsimp only
      rw [h1, h2, h3, apartV_nil']
      rw [if_pos (by decide)]
      cases cV f us with
      | none => rfl
      | some q =>
        obtain ⟨r, os⟩ := q
        cases os <;> rfl
/-! ### statements -/
theorem ss_nil : exVs c cV .nil env = some (.nx env) := by first | (simp only [exVs]; done) | (simp only [exVs]; rfl)
theorem ss_cons (s : S) (ss : Ss) : exVs c cV (.cons s ss) env = sqV (exV c cV s env) (exVs c cV ss) := by first | (simp only [exVs]; done) | (simp only [exVs]; rfl)
theorem ex_set (i : Nat) (e : E) : exV c cV (.set i e) env = lftV (evV c cV e true env) fun u e1 => some (.nx (e1.set i (some (u.1, if u.2 then .own else .frz)))) := by first | (simp only [exV]; done) | (simp only [exV]; rfl)
theorem ex_ife (e : E) (a b : Ss) : exV c cV (.ife e a b) env = lftV (evV c cV e false env) fun x e1 => iteV x.1 (exVs c cV a e1) (exVs c cV b e1) := by
  first | (simp only [exV]; done) | (simp only [exV]; rfl) | (simp only [exV]; congr 1; funext x e1; cases x.1 <;> first | rfl | (rename_i k; cases k <;> rfl))
theorem ex_expr (e : E) : exV c cV (.expr e) env = lftV (evV c cV e false env) fun _ e1 => some (.nx e1) := by first | (simp only [exV]; done) | (simp only [exV]; rfl)
def forF (c : Cfg) (cV : Nat → List U → Option (RV (U × Bool) × List (List U))) (g : Tg) (es : Es) (b : Ss) (o : Option (List U)) (e1 : VE) : Option FV := match o with
  | some us => unpF es e1 (forV (exVs c cV b) g us (pinS es e1))
  | none => none
theorem ex_for (g : Tg) (k : Ik) (es : Es) (b : Ss) : exV c cV (.forS g k es b) env = lftV (evVl c cV es env) fun xs e1 => forF c cV g es b (srcU k xs) e1 := by first | (simp only [exV]; done) | (simp only [exV]; rfl)
theorem forF_ok (g : Tg) (es : Es) (b : Ss) (us : List U) (e1 : VE) : forF c cV g es b (some us) e1 = unpF es e1 (forV (exVs c cV b) g us (pinS es e1)) := (rfl)
theorem ex_retN : exV c cV .retN env = some (.rt .non false env) := by first | (simp only [exV]; done) | (simp only [exV]; rfl)
def retF (o : Option (Option (U × Md))) (i : Nat) (env : VE) : Option FV := match o with
  | some (some (u, .own)) => some (.rt u true (env.set i none))
  | some (some (u, .frz)) => some (.rt u false env)
  | some (some (u, .bor)) => if u.isL then none else some (.rt u false env)
  | _ => none
theorem ex_retv (i : Nat) : exV c cV (.ret (.var i)) env = retF env[i]? i env := by first | (simp only [exV]; done) | (simp only [exV]; rfl)
theorem retF_own (u : U) (i : Nat) : retF (some (some (u, .own))) i env = some (.rt u true (env.set i none)) := (rfl)
theorem retF_frz (u : U) (i : Nat) : retF (some (some (u, .frz))) i env = some (.rt u false env) := (rfl)
theorem ex_ret {e : E} (h : ∀ i, e ≠ .var i) : exV c cV (.ret e) env = lftV (evV c cV e true env) fun u e1 => some (.rt u.1 u.2 e1) := by
  simp only [exV]
theorem rd_f (u : U) (md : Md) (i : Nat) (h : env[i]? = some (some (u, md))) : rdU false env i = some (.ok (u, false), env) := by
  unfold rdU
  rw [h]
end
end Iv
end
section
set_option Elab.async false
set_option linter.all false
set_option maxRecDepth 100000
/-! IvQ: what a block comes to; loops by what stands between their turns. -/
namespace Iv
open PySem L2
def Wp (m : Option FV) (Q : FV → Prop) : Prop := ∃ f, m = some f ∧ Q f
theorem wp_ok {f : FV} {Q : FV → Prop} (h : Q f) : Wp (some f) Q := ⟨f, rfl, h⟩
theorem Wp.mono {m : Option FV} {Q Q' : FV → Prop} (h : Wp m Q) (k : ∀ f, Q f → Q' f) : Wp m Q' := by
  obtain ⟨f, h1, h2⟩ := h
  exact ⟨f, h1, k f h2⟩
/-- a call, by its body -/
theorem wp_end {m : Option FV} {ps : List Nat} {raw : Bool} {r : Option (RV (U × Bool) × List (List U))} (h : Wp m fun f => endV ps raw (some f) = r) : endV ps raw m = r := by
  obtain ⟨f, rfl, h⟩ := h
  exact h
theorem wp_endE {m : Option FV} {ps : List Nat} {raw : Bool} {P : Option (RV (U × Bool) × List (List U)) → Prop} (h : Wp m fun f => P (endV ps raw (some f))) : P (endV ps raw m) := by
  obtain ⟨f, rfl, h⟩ := h
  exact h
/-- what follows a loop's turn -/
def Nxt (go : VE → Prop) (out : VE → Prop) (Q : FV → Prop) (back : VE → VE) : FV → Prop
  | .nx e => go e
  | .ct e => go e
  | .bk e => out e
  | .rt u fr e => Q (.rt u fr (back e))
  | .ex x e => Q (.ex x (back e))
section
variable {c : Cfg} {cV : Nat → List U → Option (RV (U × Bool) × List (List U))}
theorem wp_for {A : Type} (enc : A → U) (l : List A) (I : List A → VE → Prop) {g : Tg} {es : Es} {b : Ss} {us : List U} {e1 : VE} {rest : VE → Option FV} {Q : FV → Prop}
    (hus : us = l.map enc) (h0 : I [] (pinS es e1))
    (hs : ∀ (done : List A) (x : A) (more : List A), l = done ++ x :: more → ∀ e, I done e → ∃ e2, g.bindU (enc x) e = some e2 ∧
      Wp (exVs c cV b e2) (Nxt (I (done ++ [x])) (fun e3 => Wp (rest (unpinS es e1 e3)) Q) Q (unpinS es e1)))
    (hn : ∀ e, I l e → Wp (rest (unpinS es e1 e)) Q) : Wp (sqV (forF c cV g es b (some us) e1) rest) Q := by
  subst hus
  rw [forF_ok]
  have key : ∀ (more done : List A) (e : VE), l = done ++ more → I done e → Wp (sqV (unpF es e1 (forV (exVs c cV b) g (more.map enc) e)) rest) Q := by
    intro more
    induction more with
    | nil =>
      intro done e hd hI
      rw [List.append_nil] at hd
      subst hd
      exact hn e hI
    | cons x more ih =>
      intro done e hd hI
      obtain ⟨e2, h1, f, h2, h3⟩ := hs done x more hd e hI
      rw [List.map_cons]
      unfold forV
      rw [h1]
      dsimp only
      rw [h2]
      have hd' : l = (done ++ [x]) ++ more := by rw [hd, List.append_assoc]; rfl
      cases f with
      | nx e3 => exact ih (done ++ [x]) e3 hd' h3
      | ct e3 => exact ih (done ++ [x]) e3 hd' h3
      | bk e3 => exact h3
      | rt u fr e3 => exact ⟨_, rfl, h3⟩
      | ex x e3 => exact ⟨_, rfl, h3⟩
  exact key l [] _ rfl h0
theorem ex_whl (e : E) (b : Ss) (env : VE) : exV c cV (.whl e b) env = whlV (evV c cV e false) (exVs c cV b) c.wf env := by first | (simp only [exV]; done) | (simp only [exV]; rfl)
theorem wp_while (I : VE → Prop) (mu : VE → Nat) {e : E} {b : Ss} {env : VE} {rest : VE → Option FV} {Q : FV → Prop} (h0 : I env) (hm : mu env < c.wf)
    (hs : ∀ e0, I e0 → ∃ k fr e1, evV c cV e false e0 = some (.ok (.bl k, fr), e1) ∧
      (k = true → Wp (exVs c cV b e1) (Nxt (fun e2 => I e2 ∧ mu e2 < mu e0) (fun e3 => Wp (rest e3) Q) Q id)) ∧ (k = false → Wp (rest e1) Q)) :
    Wp (sqV (whlV (evV c cV e false) (exVs c cV b) c.wf env) rest) Q := by
  have key : ∀ (n : Nat) (e0 : VE), mu e0 < n → I e0 → Wp (sqV (whlV (evV c cV e false) (exVs c cV b) n e0) rest) Q := by
    intro n
    induction n with
    | zero => intro e0 h; exact absurd h (Nat.not_lt_zero _)
    | succ n ih =>
      intro e0 h hI
      obtain ⟨k, fr, e1, h1, h2, h3⟩ := hs e0 hI
      unfold whlV
      rw [h1, lftV_ok]
      cases k with
      | false => exact h3 rfl
      | true =>
        obtain ⟨f, g1, g2⟩ := h2 rfl
        dsimp only
        rw [g1]
        cases f with
        | nx e3 => exact ih e3 (by have := g2.2; omega) g2.1
        | ct e3 => exact ih e3 (by have := g2.2; omega) g2.1
        | bk e3 => exact g2
        | rt u fr e3 => exact ⟨_, rfl, g2⟩
        | ex x e3 => exact ⟨_, rfl, g2⟩
  exact key _ _ hm h0
/-- a comprehension, with what stands between its turns -/
theorem ev_compI {A : Type} (enc : A → U) (l : List A) (I : List A → List U → VE → Prop) {g : Tg} {k : Ik} {es : Es} {e : E} {own : List Nat} {env env0 : VE} {xs : List U} {esc : Bool}
    (hsrc : evVl c cV es env = some (.ok xs, env0)) (hus : srcU k xs = some (l.map enc)) (hl : l.length ≤ 1000000) (ht : tgOwn own g = true) (h0 : I [] [] (wipeV (pinS es env0) own))
    (hs : ∀ (done : List A) (x : A) (more : List A), l = done ++ x :: more → ∀ acc e0, I done acc e0 → ∃ e2 y fr e3, g.bindU (enc x) e0 = some e2 ∧ evV c cV e true e2 = some (.ok (y, fr), e3) ∧ I (done ++ [x]) (acc ++ [y]) e3) :
    ∃ acc e1, evV c cV (.comp g k es .nil e own) esc env = some (.ok (.lst acc, true), backV env0 own (unpinS es env0 e1)) ∧ I l acc e1 := by
  have key : ∀ (more done : List A) (acc : List U) (e0 : VE), l = done ++ more → acc.length ≤ done.length → I done acc e0 →
      ∃ acc2 e2, cmpV (fun e2 => bndV (evV c cV e true e2) fun d e3 => some (.ok (some d.1), e3)) g (more.map enc) acc e0 = some (.ok acc2, e2) ∧ I l acc2 e2 := by
    intro more
    induction more with
    | nil =>
      intro done acc e0 hd ha hI
      rw [List.append_nil] at hd
      subst hd
      exact ⟨acc, e0, rfl, hI⟩
    | cons x more ih =>
      intro done acc e0 hd ha hI
      obtain ⟨e2, y, fr, e3, h1, h2, h3⟩ := hs done x more hd acc e0 hI
      have hlen : l.length = done.length + (more.length + 1) := by rw [hd, List.length_append, List.length_cons]
      rw [List.map_cons]
      unfold cmpV
      rw [h1]
      dsimp only
      rw [h2, bndV_ok, bndV_ok]
      dsimp only
      rw [if_pos (by omega)]
      exact ih (done ++ [x]) (acc ++ [y]) e3 (by rw [hd, List.append_assoc]; rfl) (by rw [List.length_append, List.length_append]; exact Nat.add_le_add_right ha 1) h3
  obtain ⟨acc, e1, h1, h2⟩ := key l [] [] _ rfl (Nat.le_refl _) h0
  refine ⟨acc, e1, ?_, h2⟩
  unfold evV
  rw [hsrc, bndV_ok, hus]
  dsimp only
  rw [ht, if_neg (by simp), h1]
  rfl
/-- .. whose element leaves the names alone -/
theorem ev_compM {A : Type} (enc : A → U) (h : A → U) (l : List A) {i : Nat} {k : Ik} {es : Es} {e : E} {env env0 env' : VE} {xs : List U} {esc : Bool}
    (hsrc : evVl c cV es env = some (.ok xs, env0)) (hus : srcU k xs = some (l.map enc)) (hl : l.length ≤ 1000000)
    (hel : ∀ x, x ∈ l → ∃ fr, evV c cV e true ((pinS es env0).set i (some (enc x, .frz))) = some (.ok (h x, fr), (pinS es env0).set i (some (enc x, .frz))))
    (hb : ∀ o, backV env0 [i] (unpinS es env0 ((pinS es env0).set i o)) = env') :
    evV c cV (.comp (.name i) k es .nil e [i]) esc env = some (.ok (.lst (l.map h), true), env') := by
  obtain ⟨acc, e1, h1, h2, o, h3⟩ := ev_compI (esc := esc) enc l (fun done acc e0 => acc = done.map h ∧ ∃ o, e0 = (pinS es env0).set i o) hsrc hus hl (g := .name i) (e := e) (own := [i]) (by
      show [i].contains i = true
      simp) ⟨rfl, none, rfl⟩ (fun done x more hd acc e0 ⟨ha, o, ho⟩ => by
      subst ha
      subst ho
      obtain ⟨fr, h4⟩ := hel x (by rw [hd]; simp)
      refine ⟨_, h x, fr, (pinS es env0).set i (some (enc x, .frz)), rfl, ?_, ?_, some (enc x, .frz), rfl⟩
      · rw [List.set_set]
        exact h4
      · rw [List.map_append]
        rfl)
  rw [h1, h2, h3, hb]
/-- .. with a test -/
theorem ev_compF {A : Type} (enc : A → U) (h : A → U) (p : A → Bool) (l : List A) {i : Nat} {k : Ik} {es : Es} {e t : E} {env env0 env' : VE} {xs : List U} {esc : Bool}
    (hsrc : evVl c cV es env = some (.ok xs, env0)) (hus : srcU k xs = some (l.map enc)) (hl : l.length ≤ 1000000)
    (htl : ∀ x, x ∈ l → ∃ fr, evV c cV t false ((pinS es env0).set i (some (enc x, .frz))) = some (.ok (.bl (p x), fr), (pinS es env0).set i (some (enc x, .frz))))
    (hel : ∀ x, x ∈ l → p x = true → ∃ fr, evV c cV e true ((pinS es env0).set i (some (enc x, .frz))) = some (.ok (h x, fr), (pinS es env0).set i (some (enc x, .frz))))
    (hb : ∀ o, backV env0 [i] (unpinS es env0 ((pinS es env0).set i o)) = env') :
    evV c cV (.comp (.name i) k es (.cons t .nil) e [i]) esc env = some (.ok (.lst ((l.filter p).map h), true), env') := by
  have key : ∀ (more done : List A) (acc : List U) (o : Option (U × Md)), l = done ++ more → acc.length ≤ done.length → ∃ o2, cmpV (fun e2 => bndV (evV c cV t false e2) fun k e3 => match k.1 with
          | .bl true => bndV (evV c cV e true e3) fun d e4 => some (.ok (some d.1), e4)
          | .bl false => some (.ok none, e3)
          | _ => none) (.name i) (more.map enc) acc ((pinS es env0).set i o) = some (.ok (acc ++ (more.filter p).map h), (pinS es env0).set i o2) := by
    intro more
    induction more with
    | nil =>
      intro done acc o hd ha
      exact ⟨o, by rw [List.filter_nil, List.map_nil, List.map_nil, List.append_nil]; rfl⟩
    | cons x more ih =>
      intro done acc o hd ha
      have hx : x ∈ l := by rw [hd]; simp
      have hlen : l.length = done.length + (more.length + 1) := by rw [hd, List.length_append, List.length_cons]
      have hd' : l = (done ++ [x]) ++ more := by rw [hd, List.append_assoc]; rfl
      obtain ⟨fr, h1⟩ := htl x hx
      have hbi : (Tg.name i).bindU (enc x) ((pinS es env0).set i o) = some ((pinS es env0).set i (some (enc x, .frz))) := congrArg some (List.set_set ..)
      rw [List.map_cons]
      unfold cmpV
      rw [hbi]
      dsimp only
      rw [h1, bndV_ok]
      cases hp : p x with
      | false =>
        obtain ⟨o2, h2⟩ := ih (done ++ [x]) acc (some (enc x, .frz)) hd' (by rw [List.length_append]; omega)
        refine ⟨o2, ?_⟩
        rw [List.filter_cons_of_neg (by rw [hp]; simp)]
        exact h2
      | true =>
        obtain ⟨fr2, h3⟩ := hel x hx hp
        obtain ⟨o2, h2⟩ := ih (done ++ [x]) (acc ++ [h x]) (some (enc x, .frz)) hd' (by rw [List.length_append, List.length_append]; exact Nat.add_le_add_right ha 1)
        refine ⟨o2, ?_⟩
        rw [List.filter_cons_of_pos hp, List.map_cons]
        dsimp only
        rw [h3, bndV_ok, bndV_ok]
        dsimp only
        rw [if_pos (by omega), h2, List.append_assoc]
        rfl
  obtain ⟨o2, h1⟩ := key l [] [] none rfl (Nat.le_refl _)
  unfold evV
  rw [hsrc, bndV_ok, hus]
  dsimp only
  rw [show tgOwn [i] (.name i) = true from by
    show [i].contains i = true
    simp, if_neg (by simp)]
  have hw : wipeV (pinS es env0) [i] = (pinS es env0).set i none := rfl
  rw [hw]
  refine (congrArg (fun m : Vs (List U) => bndV (unpS es env0 (noEx m)) fun ys e2 => some (RV.ok (U.lst ys, true), backV env0 [i] e2)) h1).trans ?_
  rw [List.nil_append]
  show some (RV.ok (U.lst ((l.filter p).map h), true), backV env0 [i] (unpinS es env0 ((pinS es env0).set i o2))) = _
  rw [hb]
/-! ### calls that change a list -/
def callG (cV : Nat → List U → Option (RV (U × Bool) × List (List U))) (f i : Nat) (us : List U) (e1 : VE) : Vs (U × Bool) := match lstV e1 i with
  | some (xs, md) => match cV f (.lst xs :: us) with
    | some (r, [o]) => some (r, e1.set i (some (.lst o, md)))
    | _ => none
  | none => none
def callT (cV : Nat → List U → Option (RV (U × Bool) × List (List U))) (f : Nat) (xs : List U) (us : List U) (e1 : VE) : Vs (U × Bool) := match cV f (.lst xs :: us) with
  | some (r, [o]) => some (r, e1)
  | _ => none
def tmpG {A : Type} (x : U × Bool) (m : List U → Vs A) : Vs A := match x with
  | (.lst xs, true) => m xs
  | _ => none
theorem tmpG_ok {A : Type} (xs : List U) (m : List U → Vs A) : tmpG (.lst xs, true) m = m xs := (rfl)
theorem cont0 (k : Nat) : ([0] : List Nat).contains (k + 1) = false := rfl
theorem va_see1 : ∀ (es : Es) (k : Nat) (env : VE), evVa c cV [0] (k + 1) es env = bndV (evVl c cV es env) fun us e => some (.ok (us.map Ag.see), e)
  | .nil, k, env => by
    simp only [evVa, vl_nil]
    rfl
  | .cons e es, k, env => by
    simp only [evVa, vl_cons, cont0 k]
    cases evV c cV e false env with
    | none => rfl
    | some p =>
      obtain ⟨r, e1⟩ := p
      cases r with
      | ex x => rfl
      | ok x =>
        rw [bndV_ok, bndV_ok, va_see1 es (k + 1) (pinV e e1)]
        cases evVl c cV es (pinV e e1) with
        | none => rfl
        | some p =>
          obtain ⟨r, e2⟩ := p
          cases r <;> rfl
def lstG {A : Type} (o : Option (List U × Md)) (m : Vs A) : Vs A := match o with
  | some _ => m
  | none => none
theorem lstG_some {A : Type} (p : List U × Md) (m : Vs A) : lstG (some p) m = m := (rfl)
theorem ev_callG {f i : Nat} (h : psOf c f = [0]) (es : Es) (ha : apartV [0] [i] 1 es = true) (esc : Bool) (env : VE) : evV c cV (.call f (.cons (.var i) es)) esc env = lstG (lstV env i) (bndV (evVl c cV es env) fun us e1 => callG cV f i us e1) := by
  simp only [evV]
  rw [h]
  have hk : ([0] : List Nat).contains 0 = true := rfl
  simp only [evVa, hk]
  cases hl : lstV env i with
  | none => rfl
  | some p =>
    dsimp only
    rw [va_see1 es 0 env, lstG_some]
    cases evVl c cV es env with
    | none => rfl
    | some q =>
      obtain ⟨r, e1⟩ := q
      cases r with
      | ex x => rfl
      | ok us =>
        rw [bndV_ok, bndV_ok, bndV_ok, bndV_ok]
        obtain ⟨h1, h2, h3⟩ := see_tell us
        unfold callG fillV tellN tellV posV
        rw [see_fill, h1, h2, h3]
        cases hl2 : lstV e1 i with
        | none => rfl
        | some p2 =>
          obtain ⟨xs, md⟩ := p2
          dsimp only [Option.map]
          have ha' : apartV [0] [i] 0 (.cons (.var i) es) = true := by
            unfold apartV
            rw [ha]
            rfl
          rw [ha']
          rw [if_pos (by simp)]
          cases cV f (.lst xs :: us) with
          | none => rfl
          | some q2 =>
            obtain ⟨r2, os⟩ := q2
            have hg : ∀ {u md2}, lstV e1 i = some (u, md2) → e1[i]? = some (some (.lst u, md2)) := fun {u md2} h => by
              unfold lstV at h
              split at h
              · rename_i a b hab
                split at h
                · cases h
                  exact hab
                · cases h
              · cases h
            have hg2 := hg hl2
            cases os with
            | nil => rfl
            | cons o os =>
              cases os with
              | nil =>
                dsimp only
                unfold giveV
                rw [hg2]
                dsimp only
                unfold giveV
                rfl
              | cons o2 os =>
                dsimp only
                unfold giveV
                rw [hg2]
                dsimp only
                unfold giveV
                rfl
theorem ev_callT {f : Nat} {e : E} (h : psOf c f = [0]) (hn : ∀ i, e ≠ .var i) (es : Es) (esc : Bool) (env : VE) : evV c cV (.call f (.cons e es)) esc env = bndV (evV c cV e true env) fun x e1 => tmpG x fun xs => bndV (evVl c cV es e1) fun us e2 => callT cV f xs us e2 := by
  simp only [evV]
  rw [h]
  have hk : ([0] : List Nat).contains 0 = true := rfl
  have he : evVa c cV [0] 0 (.cons e es) env = bndV (evV c cV e true env) fun x e1 => match x.1, x.2 with
          | .lst us, true => bndV (evVa c cV [0] (0 + 1) es e1) fun xs e2 => some (.ok (.temp us :: xs), e2)
          | _, _ => none := by
    cases e <;> first | exact absurd rfl (hn _) | (simp only [evVa, hk]; done) | (simp only [evVa, hk]; rfl)
  rw [he]
  cases evV c cV e true env with
  | none => rfl
  | some p =>
    obtain ⟨r, e1⟩ := p
    cases r with
    | ex x => rfl
    | ok x =>
      obtain ⟨u, fr⟩ := x
      rw [bndV_ok, bndV_ok]
      have nope : ∀ {u : U} {fr : Bool}, (∀ xs, u = .lst xs → fr = true → False) → (match u, fr with
          | .lst us, true => bndV (evVa c cV [0] (0 + 1) es e1) fun xs e2 => some (RV.ok (Ag.temp us :: xs), e2)
          | _, _ => none) = none := by
        intro u fr hh
        cases u <;> first | rfl | (cases fr <;> first | rfl | exact (hh _ rfl rfl).elim)
      have nopeT : ∀ {u : U} {fr : Bool} {m : List U → Vs (U × Bool)}, (∀ xs, u = .lst xs → fr = true → False) → tmpG (u, fr) m = none := by
        intro u fr m hh
        cases u <;> first | rfl | (cases fr <;> first | rfl | exact (hh _ rfl rfl).elim)
      by_cases hu : ∃ xs, u = .lst xs ∧ fr = true
      · obtain ⟨xs, rfl, rfl⟩ := hu
        dsimp only
        rw [va_see1 es 0 e1, tmpG_ok]
        cases evVl c cV es e1 with
        | none => rfl
        | some q =>
          obtain ⟨r, e2⟩ := q
          cases r with
          | ex x => rfl
          | ok us =>
            rw [bndV_ok, bndV_ok, bndV_ok, bndV_ok]
            obtain ⟨h1, h2, h3⟩ := see_tell us
            unfold callT fillV tellN tellV posV
            rw [see_fill, h1, h2, h3]
            dsimp only [Option.map]
            have ha' : apartV [0] [] 0 (.cons e es) = true := apartV_nil' _ _ _
            rw [ha']
            rw [if_pos (by simp)]
            cases cV f (.lst xs :: us) with
            | none => rfl
            | some q2 =>
              obtain ⟨r2, os⟩ := q2
              cases os with
              | nil => rfl
              | cons o os => cases os <;> (dsimp only; unfold giveV; first | rfl | (unfold giveV; rfl))
      · have hu' : ∀ xs, u = .lst xs → fr = true → False := fun xs h1 h2 => hu ⟨xs, h1, h2⟩
        rw [nope hu']
        rw [nopeT hu']
        rfl
end
end Iv
namespace Iv
theorem call_raw {c : Cfg} {n f : Nat} {fn : Fn} {us : List U} (h : c.fns[f]? = some fn) (hk : fn.kind = .raw) (hl : us.length = fn.np) : callV c (n + 1) f us = endV [] true (exVs c (callV c n) fn.body (envV [] fn us)) := by
  show (match c.fns[f]? with
    | none => none
    | some fn => if us.length = fn.np then match fn.kind with
        | .raw => endV [] true (exVs c (callV c n) fn.body (envV [] fn us))
        | .mut ps => endV ps false (exVs c (callV c n) fn.body (envV ps fn us))
      else none) = _
  rw [h]
  dsimp only
  rw [if_pos hl, hk]
end Iv
namespace Iv
theorem pin_var (i : Nat) (env : VE) : pinV (.var i) env = match env[i]? with
    | some (some (u, md)) => if md.may then env.set i (some (u, .bor)) else env
    | _ => env := (rfl)
theorem unpin_var (i : Nat) (env0 env1 : VE) : unpinV (.var i) env0 env1 = match env0[i]? with
    | some (some (_, md)) => if md.may then match env1[i]? with
        | some (some (u, .bor)) => env1.set i (some (u, md))
        | _ => env1
      else env1
    | _ => env1 := (rfl)
theorem pin_glb {a0} (env : VE) : pinV (.glb a0) env = env := (rfl)
theorem unpin_glb {a0} (env0 env1 : VE) : unpinV (.glb a0) env0 env1 = env1 := (rfl)
theorem pin_cst {a0} (env : VE) : pinV (.cst a0) env = env := (rfl)
theorem unpin_cst {a0} (env0 env1 : VE) : unpinV (.cst a0) env0 env1 = env1 := (rfl)
theorem pin_bin {a0 a1 a2} (env : VE) : pinV (.bin a0 a1 a2) env = env := (rfl)
theorem unpin_bin {a0 a1 a2} (env0 env1 : VE) : unpinV (.bin a0 a1 a2) env0 env1 = env1 := (rfl)
theorem pin_neg {a0} (env : VE) : pinV (.neg a0) env = env := (rfl)
theorem unpin_neg {a0} (env0 env1 : VE) : unpinV (.neg a0) env0 env1 = env1 := (rfl)
theorem pin_cmp {a0 a1 a2} (env : VE) : pinV (.cmp a0 a1 a2) env = env := (rfl)
theorem unpin_cmp {a0 a1 a2} (env0 env1 : VE) : unpinV (.cmp a0 a1 a2) env0 env1 = env1 := (rfl)
theorem pin_cmp2 {a0 a1 a2 a3 a4} (env : VE) : pinV (.cmp2 a0 a1 a2 a3 a4) env = env := (rfl)
theorem unpin_cmp2 {a0 a1 a2 a3 a4} (env0 env1 : VE) : unpinV (.cmp2 a0 a1 a2 a3 a4) env0 env1 = env1 := (rfl)
theorem pin_and {a0} (env : VE) : pinV (.and a0) env = env := (rfl)
theorem unpin_and {a0} (env0 env1 : VE) : unpinV (.and a0) env0 env1 = env1 := (rfl)
theorem pin_or {a0} (env : VE) : pinV (.or a0) env = env := (rfl)
theorem unpin_or {a0} (env0 env1 : VE) : unpinV (.or a0) env0 env1 = env1 := (rfl)
theorem pin_not {a0} (env : VE) : pinV (.not a0) env = env := (rfl)
theorem unpin_not {a0} (env0 env1 : VE) : unpinV (.not a0) env0 env1 = env1 := (rfl)
theorem pin_ife {a0 a1 a2} (env : VE) : pinV (.ife a0 a1 a2) env = env := (rfl)
theorem unpin_ife {a0 a1 a2} (env0 env1 : VE) : unpinV (.ife a0 a1 a2) env0 env1 = env1 := (rfl)
theorem pin_tup {a0} (env : VE) : pinV (.tup a0) env = env := (rfl)
theorem unpin_tup {a0} (env0 env1 : VE) : unpinV (.tup a0) env0 env1 = env1 := (rfl)
theorem pin_lst {a0} (env : VE) : pinV (.lst a0) env = env := (rfl)
theorem unpin_lst {a0} (env0 env1 : VE) : unpinV (.lst a0) env0 env1 = env1 := (rfl)
theorem pin_idx {a0 a1} (env : VE) : pinV (.idx a0 a1) env = env := (rfl)
theorem unpin_idx {a0 a1} (env0 env1 : VE) : unpinV (.idx a0 a1) env0 env1 = env1 := (rfl)
theorem pin_slc {a0 a1 a2} (env : VE) : pinV (.slc a0 a1 a2) env = env := (rfl)
theorem unpin_slc {a0 a1 a2} (env0 env1 : VE) : unpinV (.slc a0 a1 a2) env0 env1 = env1 := (rfl)
theorem pin_rev {a0} (env : VE) : pinV (.rev a0) env = env := (rfl)
theorem unpin_rev {a0} (env0 env1 : VE) : unpinV (.rev a0) env0 env1 = env1 := (rfl)
theorem pin_call {a0 a1} (env : VE) : pinV (.call a0 a1) env = env := (rfl)
theorem unpin_call {a0 a1} (env0 env1 : VE) : unpinV (.call a0 a1) env0 env1 = env1 := (rfl)
theorem pin_bi {a0 a1} (env : VE) : pinV (.bi a0 a1) env = env := (rfl)
theorem unpin_bi {a0 a1} (env0 env1 : VE) : unpinV (.bi a0 a1) env0 env1 = env1 := (rfl)
theorem pin_lrg {a0} (env : VE) : pinV (.lrg a0) env = env := (rfl)
theorem unpin_lrg {a0} (env0 env1 : VE) : unpinV (.lrg a0) env0 env1 = env1 := (rfl)
theorem pin_mth {a0 a1 a2} (env : VE) : pinV (.mth a0 a1 a2) env = env := (rfl)
theorem unpin_mth {a0 a1 a2} (env0 env1 : VE) : unpinV (.mth a0 a1 a2) env0 env1 = env1 := (rfl)
theorem pin_isi {a0 a1} (env : VE) : pinV (.isi a0 a1) env = env := (rfl)
theorem unpin_isi {a0 a1} (env0 env1 : VE) : unpinV (.isi a0 a1) env0 env1 = env1 := (rfl)
theorem pin_comp {a0 a1 a2 a3 a4 a5} (env : VE) : pinV (.comp a0 a1 a2 a3 a4 a5) env = env := (rfl)
theorem unpin_comp {a0 a1 a2 a3 a4 a5} (env0 env1 : VE) : unpinV (.comp a0 a1 a2 a3 a4 a5) env0 env1 = env1 := (rfl)
end Iv
end
section
set_option Elab.async false
set_option linter.all false
set_option maxRecDepth 100000
/-! IvQ2: methods, built-ins, comparisons by their rows. -/
namespace Iv
open PySem L2
section
variable {c : Cfg} {cV : Nat → List U → Option (RV (U × Bool) × List (List U))} {env : VE} {esc : Bool}
/-- a list gets one more item -/
def appG (o : Option (List U × Md)) (i : Nat) (u : U) (e : VE) : Vs (U × Bool) := match o with
  | some (xs, md) => if xs.length < 1000000 then some (.ok (.non, false), e.set i (some (.lst (xs ++ [u]), md))) else none
  | none => none
theorem appG_ok {xs : List U} (h : xs.length < 1000000) (md : Md) (i : Nat) (u : U) (e : VE) : appG (some (xs, md)) i u e = some (.ok (.non, false), e.set i (some (.lst (xs ++ [u]), md))) := if_pos h
def extG (o : Option (List U × Md)) (i : Nat) (u : U) (e : VE) : Vs (U × Bool) := match o, u with
  | some (xs, md), .lst ys => if xs.length + ys.length < 1000000 then some (.ok (.non, false), e.set i (some (.lst (xs ++ ys), md))) else none
  | _, _ => none
theorem extG_ok {xs ys : List U} (h : xs.length + ys.length < 1000000) (md : Md) (i : Nat) (e : VE) : extG (some (xs, md)) i (.lst ys) e = some (.ok (.non, false), e.set i (some (.lst (xs ++ ys), md))) := if_pos h
def popG (o : Option (List U × Md)) (i : Nat) (e : VE) : Vs (U × Bool) := match o with
  | some (xs, md) => match xs.getLast? with
    | some x => some (.ok (x, false), e.set i (some (.lst xs.dropLast, md)))
    | none => none
  | none => none
theorem popG_ok {xs : List U} {x : U} (h : xs.getLast? = some x) (md : Md) (i : Nat) (e : VE) : popG (some (xs, md)) i e = some (.ok (x, false), e.set i (some (.lst xs.dropLast, md))) := by
  unfold popG
  dsimp only
  rw [h]
theorem ev_append (i : Nat) (e : E) : evV c cV (.mth .append (.var i) (.cons e .nil)) esc env = lstG (lstV env i) (bndV (evV c cV e true env) fun x e1 => appG (lstV e1 i) i x.1 e1) := by
  simp only [evV]
  cases lstV env i with
  | none => rfl
  | some p =>
    rw [lstG_some]
    congr 1
theorem ev_extend (i : Nat) (e : E) : evV c cV (.mth .extend (.var i) (.cons e .nil)) esc env = lstG (lstV env i) (bndV (evV c cV e false env) fun x e1 => extG (lstV e1 i) i x.1 e1) := by
  simp only [evV]
  cases lstV env i with
  | none => rfl
  | some p =>
    rw [lstG_some]
    congr 1
theorem ev_pop (i : Nat) : evV c cV (.mth .pop (.var i) .nil) esc env = popG (lstV env i) i env := by
  simp only [evV]
  rfl
def rcvG {A : Type} (b : Bool) (m : Vs A) : Vs A := if !b then none else m
theorem rcvG_true {A : Type} (m : Vs A) : rcvG true m = m := (rfl)
theorem ev_index (o : E) (es : Es) : evV c cV (.mth .index o es) esc env = bndV (evV c cV o false env) fun x e1 => rcvG (rcvU .index x.1) (unpV o e1 (bndV (evVl c cV es (pinV o e1)) fun xs e2 => retV (mthU .index x.1 xs) e2)) := by
  first | (simp only [evV]; done) | (simp only [evV]; rfl)
theorem ev_join (o : E) (es : Es) : evV c cV (.mth .join o es) esc env = bndV (evV c cV o false env) fun x e1 => rcvG (rcvU .join x.1) (unpV o e1 (bndV (evVl c cV es (pinV o e1)) fun xs e2 => retV (mthU .join x.1 xs) e2)) := by
  first | (simp only [evV]; done) | (simp only [evV]; rfl)
theorem rcv_idxT (xs : List U) : rcvU .index (.tup xs) = true := (rfl)
theorem rcv_idxL (xs : List U) : rcvU .index (.lst xs) = true := (rfl)
theorem rcv_join (s : Str) : rcvU .join (.str s) = true := (rfl)
def slcG (x : U) (l h : Option (Option Int)) (e : VE) : Vs (U × Bool) := match l, h with
  | some l, some h => retV (slcU x l h) e
  | _, _ => none
def prtG {A : Type} (o : Option (Option Int)) (m : Vs A) : Vs A := match o with
  | some _ => m
  | none => none
theorem prtG_some {A : Type} (p : Option Int) (m : Vs A) : prtG (some p) m = m := (rfl)
theorem slcG_ok (x : U) (l h : Option Int) (e : VE) : slcG x (some l) (some h) e = retV (slcU x l h) e := (rfl)
theorem ev_slc11 (a l h : E) : evV c cV (.slc a (.cons l .nil) (.cons h .nil)) esc env = bndV (evV c cV a false env) fun x e1 => unpV a e1 (bndV (evV c cV l true (pinV a e1)) fun y e2 => prtG (partU [y.1]) (bndV (evV c cV h true e2) fun z e3 => slcG x.1 (partU [y.1]) (partU [z.1]) e3)) := by
  simp only [evV]
  congr 1
  funext x e1
  simp only [evVs]
  cases evV c cV l true (pinV a e1) with
  | none => rfl
  | some p =>
    obtain ⟨r, e2⟩ := p
    cases r with
    | ex x => rfl
    | ok y =>
      simp only [bndV_ok]
      cases hp : partU [y.1] with
      | none => rfl
      | some q =>
        dsimp only
        rw [prtG_some]
        cases evV c cV h true e2 with
        | none => rfl
        | some p =>
          obtain ⟨r, e3⟩ := p
          cases r with
          | ex x => rfl
          | ok z =>
            simp only [bndV_ok]
            cases partU [z.1] <;> rfl
end
/-! ### what operations tell -/
theorem isi_tt (xs : List U) : isiU .tup (.tup xs) = some true := (rfl)
theorem isi_ti (i : Int) : isiU .tup (.int i) = some false := (rfl)
theorem isi_ts (i : Str) : isiU .tup (.str i) = some false := (rfl)
theorem isi_tb (i : Bool) : isiU .tup (.bl i) = some false := (rfl)
theorem isi_ss (i : Str) : isiU .str (.str i) = some true := (rfl)
theorem isi_si (i : Int) : isiU .str (.int i) = some false := (rfl)
theorem isi_st (xs : List U) : isiU .str (.tup xs) = some false := (rfl)
theorem isi_ii (i : Int) : isiU .int (.int i) = some true := (rfl)
theorem isi_ib (i : Bool) : isiU .int (.bl i) = some true := (rfl)
theorem isi_bi (i : Int) : isiU .bool (.int i) = some false := (rfl)
theorem eq_str (a b : Str) : cmpU .eq (.str a) (.str b) = some (a == b) := (rfl)
theorem ne_str (a b : Str) : cmpU .ne (.str a) (.str b) = some (!(a == b)) := (rfl)
theorem ne_int (a b : Int) : cmpU .ne (.int a) (.int b) = some (!(a == b)) := (rfl)
theorem eq_ts (xs : List U) (b : Str) : cmpU .eq (.tup xs) (.str b) = some false := (rfl)
theorem lt_int (a b : Int) : cmpU .lt (.int a) (.int b) = some (decide (a < b)) := (rfl)
theorem le_int (a b : Int) : cmpU .le (.int a) (.int b) = some (decide (a ≤ b)) := (rfl)
theorem gt_int (a b : Int) : cmpU .gt (.int a) (.int b) = some (decide (b < a)) := (rfl)
theorem ge_int (a b : Int) : cmpU .ge (.int a) (.int b) = some (decide (b ≤ a)) := (rfl)
theorem is_n_int (a : Int) : cmpU .is_ (.int a) .non = some false := (rfl)
theorem is_n_tup (a : List U) : cmpU .is_ (.tup a) .non = some false := (rfl)
theorem is_n_non : cmpU .is_ .non .non = some true := (rfl)
theorem isn_n_int (a : Int) : cmpU .isn (.int a) .non = some true := (rfl)
theorem isn_n_tup (a : List U) : cmpU .isn (.tup a) .non = some true := (rfl)
theorem isn_n_non : cmpU .isn .non .non = some false := (rfl)
theorem add_int (a b : Int) : binU .add (.int a) (.int b) = some (.int (a + b), false) := (rfl)
theorem sub_int (a b : Int) : binU .sub (.int a) (.int b) = some (.int (a - b), false) := (rfl)
theorem mod_int {a b : Int} (h : 0 < b) : binU .mod (.int a) (.int b) = some (.int (a % b), false) := if_pos h
theorem fdiv_int {a b : Int} (h : 0 < b) (h2 : b < 1073741824) : binU .fdiv (.int a) (.int b) = some (.int (a / b), false) := if_pos (by rw [decide_eq_true h, decide_eq_true h2]; rfl)
theorem mul_l {a b : Int} (h : small64 a = true) : binU .mul (.int a) (.int b) = some (.int (a * b), false) := if_pos (by rw [h]; rfl)
theorem mul_r {a b : Int} (h : small64 b = true) : binU .mul (.int a) (.int b) = some (.int (a * b), false) := if_pos (by rw [h, Bool.or_true])
theorem add_str {x y : Str} (h : x.length + y.length ≤ 1000000) : binU .add (.str x) (.str y) = some (.str (x ++ y), false) := if_pos h
theorem add_tup {xs ys : List U} (h : xs.length + ys.length ≤ 1000000) : binU .add (.tup xs) (.tup ys) = some (.tup (xs ++ ys), false) := if_pos h
theorem shl_1 {n : Nat} (h : n ≤ 1000000) : binU .shl (.int 1) (.int n) = some (.int ((2 ^ n : Nat) : Int), false) := by
  rw [Int.natCast_pow]
  show (if small64 1 && decide ((0 : Int) ≤ n) && decide ((n : Int) ≤ 1000000) then some (U.int (1 * 2 ^ ((n : Int).toNat)), false) else none) = _
  rw [if_pos (by rw [decide_eq_true (Int.natCast_nonneg n), decide_eq_true (show (n : Int) ≤ 1000000 by omega)]; decide), Int.toNat_natCast, Int.one_mul]
  rfl
theorem bi_max2 (a b : Int) : biU .max [.int a, .int b] = some (.int (max a b), false) := by
  show some (U.int (if b > a then b else a), false) = _
  congr 3
  split <;> omega
theorem bi_min2 (a b : Int) : biU .min [.int a, .int b] = some (.int (min a b), false) := by
  show some (U.int (if b < a then b else a), false) = _
  congr 3
  split <;> omega
theorem bi_lenS {z : Str} (h : z.length ≤ 1000000) : biU .len [.str z] = some (.int z.length, false) := if_pos h
theorem bi_listL (xs : List U) : biU .list [.lst xs] = some (.lst xs, true) := (rfl)
theorem bi_listT (xs : List U) : biU .list [.tup xs] = some (.lst xs, true) := (rfl)
theorem bi_tupT (xs : List U) : biU .tuple [.tup xs] = some (.tup xs, false) := (rfl)
theorem blsU_map (l : List Bool) : blsU (l.map .bl) = some l := by
  induction l with
  | nil => rfl
  | cons x xs ih =>
    rw [List.map_cons]
    unfold blsU
    rw [ih]
theorem bi_all (l : List Bool) : biU .all [.lst (l.map .bl)] = some (.bl (l.all id), false) := by
  show (match blsU (l.map U.bl) with
    | some ns => some (U.bl (ns.all id), false)
    | none => none) = _
  rw [blsU_map]
theorem bi_any (l : List Bool) : biU .any [.lst (l.map .bl)] = some (.bl (l.any id), false) := by
  show (match blsU (l.map U.bl) with
    | some ns => some (U.bl (ns.any id), false)
    | none => none) = _
  rw [blsU_map]
theorem bi_sum (l : List Int) : biU .sum [.lst (l.map .int)] = some (.int l.sum, false) := by
  show (match intsU (l.map U.int) with
    | some ns => some (U.int ns.sum, false)
    | none => none) = _
  rw [intsU_map]
theorem bi_sortS {l : List Str} (h : l.length < 64) : biU .sorted [.lst (l.map .str)] = some (.lst ((sortS l).map .str), true) := by
  show (if (l.map U.str).length < 64 then match strsU (l.map U.str) with
          | some ss => some (U.lst ((sortS ss).map U.str), true)
          | none => match intsU (l.map U.str) with
            | some ns => some (U.lst ((sortI ns).map U.int), true)
            | none => none
        else none) = _
  rw [List.length_map, if_pos h, strsU_map]
theorem rev_lst (xs : List U) : revU (.lst xs) = some (.lst xs.reverse, true) := (rfl)
theorem slc_lst (xs : List U) (l h : Option Int) : slcU (.lst xs) l h = some (.lst (cut xs l h), true) := (rfl)
theorem slc_tup (xs : List U) (l h : Option Int) : slcU (.tup xs) l h = some (.tup (cut xs l h), false) := (rfl)
theorem slc_str {z : Str} (hz : z.length ≤ 1000000) (l h : Option Int) : slcU (.str z) l h = some (.str (cutS z l h), false) := if_pos hz
theorem cut_map {A B : Type} (f : A → B) (xs : List A) (l h : Option Int) : cut (xs.map f) l h = (cut xs l h).map f := by
  unfold cut
  rw [List.length_map, List.map_take, List.map_drop]
theorem cut_le {A : Type} (xs : List A) (l h : Option Int) : (cut xs l h).length ≤ xs.length := by
  unfold cut
  rw [List.length_take, List.length_drop]
  omega
theorem cut_mem {A : Type} {xs : List A} {l h : Option Int} {x : A} (k : x ∈ cut xs l h) : x ∈ xs := by
  unfold cut at k
  exact List.mem_of_mem_drop (List.mem_of_mem_take k)
theorem ints_nil (t : List Int) : cmpU .eq (.lst (t.map .int)) (.lst []) = some t.isEmpty := by
  have hp : ∀ l : List Int, U.purs (l.map .int) = true ∧ U.lays (l.map .int) = true ∧ U.deps (l.map .int) = 0 := by
    intro l
    induction l with
    | nil => exact ⟨rfl, rfl, rfl⟩
    | cons x xs ih =>
      obtain ⟨h1, h2, h3⟩ := ih
      refine ⟨h1, h2, ?_⟩
      show max 0 (U.deps (xs.map .int)) = 0
      rw [h3]
      rfl
  obtain ⟨h1, h2, h3⟩ := hp t
  show cmpLs (t.map .int) [] = _
  unfold cmpLs
  rw [h1, h2, h3]
  cases t <;> rfl
theorem join_ok {z : Str} {l : List Str} (h : z.length * l.length + (l.map Str.length).sum ≤ 1000000) : mthU .join (.str z) [.lst (l.map .str)] = some (.str (Str.join z l), false) := by
  show (match strsU (l.map U.str) with
        | some ss => if z.length * ss.length + (ss.map Str.length).sum ≤ 1000000 then some (U.str (Str.join z ss), false) else none
        | none => none) = _
  rw [strsU_map]
  exact if_pos h
theorem idx_str {z : Str} {i : Int} (hz : z.length ≤ 1000000) (h0 : 0 ≤ i) (h1 : i < z.length) : ∃ c, idxU (.str z) (.int i) = some (.str (oneSign c), false) := by
  obtain ⟨n, rfl⟩ := Int.eq_ofNat_of_zero_le h0
  have hn : n < z.cps.toList.length := by
    rw [Array.length_toList]
    exact Int.ofNat_lt.mp h1
  refine ⟨z.cps.toList[n], ?_⟩
  show (if z.length ≤ 1000000 then match atI z.cps.toList (n : Int) with
        | some c => some (U.str (oneSign c), false)
        | none => none
      else none) = _
  rw [if_pos hz, atI_nat (List.getElem?_eq_getElem hn)]
theorem len_one (c : Nat) : (oneSign c).length = 1 := (rfl)
theorem len_app (x y : Str) : (x ++ y).length = x.length + y.length := by
  show (x.cps ++ y.cps).size = _
  rw [Array.size_append]
  rfl
theorem big_nat {n : Nat} (h : n ≤ 1000000) : big62 (n : Int) = true := by
  unfold big62
  rw [Bool.and_eq_true]
  exact ⟨decide_eq_true (by omega), decide_eq_true (by omega)⟩
theorem range_nat {n : Nat} (h : n ≤ 1000000) : rangeU [.int n] = some (0, (n : Int)) := by
  show (if big62 (n : Int) then some ((0 : Int), (n : Int)) else none) = _
  rw [big_nat h]
  rfl
def srcR (o : Option (Int × Int)) : Option (List U) := match o with
  | some (a, b) => some (rngU a b)
  | none => none
theorem src_range (xs : List U) : srcU .range xs = srcR (rangeU xs) := (rfl)
def srcRR (o : Option (Int × Int)) : Option (List U) := match o with
  | some (a, b) => some (rngU a b).reverse
  | none => none
theorem src_rrange (xs : List U) : srcU .rrange xs = srcRR (rangeU xs) := (rfl)
theorem rng_nat (n : Nat) : rngU 0 (n : Int) = (List.range n).map fun (k : Nat) => U.int k := by
  unfold rngU
  rw [Int.sub_zero, Int.toNat_natCast]
  apply List.map_congr_left
  intro k _
  rw [Int.zero_add]
theorem srcU_rng {n : Nat} (h : n ≤ 1000000) : srcU .range [.int n] = some ((List.range n).map fun (k : Nat) => U.int k) := by
  rw [src_range, range_nat h, ← rng_nat]
  rfl
theorem srcU_rrng {n : Nat} (h : n ≤ 1000000) : srcU .rrange [.int n] = some ((List.range n).reverse.map fun (k : Nat) => U.int k) := by
  rw [src_rrange, range_nat h, List.map_reverse, ← rng_nat]
  rfl
theorem src_t (xs : List U) : srcU .seq [.tup xs] = some xs := (rfl)
theorem src_l (xs : List U) : srcU .seq [.lst xs] = some xs := (rfl)
theorem src_s (z : Str) : srcU .seq [.str z] = some (signsU z) := (rfl)
theorem src_z (xs ys : List U) : srcU .zip [.tup xs, .tup ys] = some (List.zipWith (fun x y => U.tup [x, y]) xs ys) := (rfl)
end Iv
end
section
set_option Elab.async false
set_option linter.all false
set_option maxRecDepth 100000
/-! IvM: documents, machines, ways, in plain words. -/
namespace Iv
open PySem L2
inductive Doc where
  | node (nm : Str) (ks : List Doc)
structure Ma where
  forms : List U
  names : List Str
  starts : List Nat
  steps : List (List Nat)
  marks : List U
def eN (k : Nat) : U := .int k
def eR (r : List Nat) : U := .tup (r.map eN)
def eM (M : Ma) : U := .tup [.tup M.forms, .tup (M.names.map .str), .tup (M.starts.map eN), .tup (M.steps.map eR), .tup M.marks]
theorem M1 (M : Ma) : idxU (eM M) (.int 1) = some (.tup (M.names.map .str), false) := idx_1 _ _ _
theorem M2 (M : Ma) : idxU (eM M) (.int 2) = some (.tup (M.starts.map eN), false) := idx_2 _ _ _ _
theorem M3 (M : Ma) : idxU (eM M) (.int 3) = some (.tup (M.steps.map eR), false) := idx_3 _ _ _ _ _
def Ma.start (M : Ma) (x : Str) : Nat := match M.names.findIdx? (· == x) with
  | some i => (M.starts[i]?).getD 0
  | none => (M.starts.getLast?).getD 0
def Ma.step (M : Ma) (s t : Nat) : Nat := (((M.steps[s]?).getD [])[t]?).getD 0
structure Ma.Ok (M : Ma) (n : Nat) : Prop where
  pos : 0 < n
  le : n ≤ 8
  sl : M.starts.length = M.names.length + 1
  s : ∀ x, x ∈ M.starts → x < n
  tl : M.steps.length = n
  rl : ∀ r, r ∈ M.steps → r.length = n
  r : ∀ r, r ∈ M.steps → ∀ x, x ∈ r → x < n
theorem Ma.Ok.start {M : Ma} {n : Nat} (o : M.Ok n) (x : Str) : M.start x < n := by
  unfold Ma.start
  split
  · rename_i i hi
    have hl : i < M.starts.length := by
      have := List.findIdx?_eq_some_iff_findIdx_eq.mp hi
      have h1 := this.1
      have h2 := o.sl
      omega
    rw [List.getElem?_eq_getElem hl]
    exact o.s _ (List.getElem_mem hl)
  · cases h : M.starts.getLast? with
    | none =>
      have := List.getLast?_eq_none_iff.mp h
      have h2 := o.sl
      rw [this] at h2
      cases h2
    | some y => exact o.s _ (List.mem_of_getLast? h)
theorem Ma.Ok.row {M : Ma} {n : Nat} (o : M.Ok n) {s : Nat} (h : s < n) : ∃ r, M.steps[s]? = some r ∧ r.length = n ∧ ∀ x, x ∈ r → x < n := by
  have hl : s < M.steps.length := by rw [o.tl]; exact h
  exact ⟨M.steps[s], List.getElem?_eq_getElem hl, o.rl _ (List.getElem_mem hl), o.r _ (List.getElem_mem hl)⟩
theorem Ma.Ok.step {M : Ma} {n : Nat} (o : M.Ok n) {s t : Nat} (hs : s < n) (ht : t < n) : M.step s t < n := by
  obtain ⟨r, h1, h2, h3⟩ := o.row hs
  unfold Ma.step
  rw [h1]
  have hl : t < r.length := by rw [h2]; exact ht
  show ((r[t]?).getD 0) < n
  rw [List.getElem?_eq_getElem hl]
  exact h3 _ (List.getElem_mem hl)
/-- a row, then an item of it -/
theorem row_ix {M : Ma} {n : Nat} (o : M.Ok n) {s : Nat} (hs : s < n) : ∃ r, idxU (.tup (M.steps.map eR)) (eN s) = some (eR r, false) ∧ ∀ t, t < n → idxU (eR r) (eN t) = some (eN (M.step s t), false) := by
  obtain ⟨r, h1, h2, h3⟩ := o.row hs
  refine ⟨r, idx_tup (by rw [List.getElem?_map, h1]; rfl), fun t ht => idx_tup ?_⟩
  have hl : t < r.length := by rw [h2]; exact ht
  rw [List.getElem?_map, List.getElem?_eq_getElem hl]
  unfold Ma.step
  rw [h1]
  show some (eN r[t]) = some (eN ((r[t]?).getD 0))
  rw [List.getElem?_eq_getElem hl]
  rfl
mutual
def eD : Doc → U
  | .node x ks => .tup [.str x, .tup (eDs ks)]
def eDs : List Doc → List U
  | [] => []
  | d :: ds => eD d :: eDs ds
end
theorem eDs_map : ∀ ds : List Doc, eDs ds = ds.map eD
  | [] => rfl
  | d :: ds => by
    unfold eDs
    rw [eDs_map ds]
    rfl
mutual
def Doc.dep : Doc → Nat
  | .node _ ks => Doc.deps ks + 1
def Doc.deps : List Doc → Nat
  | [] => 0
  | d :: ds => max (Doc.dep d) (Doc.deps ds)
end
theorem dep_mem : ∀ {ds : List Doc} {d : Doc}, d ∈ ds → d.dep ≤ Doc.deps ds
  | d :: ds, x, h => by
    show x.dep ≤ max d.dep (Doc.deps ds)
    rcases List.mem_cons.mp h with e | e
    · subst e
      exact Nat.le_max_left ..
    · exact Nat.le_trans (dep_mem e) (Nat.le_max_right ..)
  | [], _, h => nomatch h
mutual
def Ma.sem (M : Ma) : Doc → Nat
  | .node x ks => Ma.sems M (M.start x) ks
def Ma.sems (M : Ma) : Nat → List Doc → Nat
  | s, [] => s
  | s, d :: ds => Ma.sems M (M.step s (Ma.sem M d)) ds
end
theorem sems_append (M : Ma) : ∀ (a b : List Doc) (s : Nat), M.sems s (a ++ b) = M.sems (M.sems s a) b
  | [], _, _ => rfl
  | d :: a, b, s => by
    show M.sems (M.step s (M.sem d)) (a ++ b) = _
    rw [sems_append M a b]
    rfl
mutual
theorem Ma.Ok.sem {M : Ma} {n : Nat} (o : M.Ok n) : ∀ d, M.sem d < n
  | .node x ks => Ma.Ok.sems o ks (o.start x)
theorem Ma.Ok.sems {M : Ma} {n : Nat} (o : M.Ok n) : ∀ (ds : List Doc) {s : Nat}, s < n → M.sems s ds < n
  | [], _, h => h
  | d :: ds, _, h => Ma.Ok.sems o ds (o.step h (Ma.Ok.sem o d))
end
/-! ### ways -/
def eW (f : List Nat) (l : Int) : U := .tup (f.map eN ++ [.int l])
theorem rng_eN (n : Nat) : rngU 0 (n : Int) = (List.range n).map eN := by
  unfold rngU
  rw [Int.sub_zero, Int.toNat_natCast]
  apply List.map_congr_left
  intro k _
  show U.int (0 + (k : Int)) = U.int k
  rw [Int.zero_add]
theorem add_lst {xs ys : List U} (h : xs.length + ys.length ≤ 1000000) : binU .add (.lst xs) (.lst ys) = some (.lst (xs ++ ys), true) := by
  show (if xs.length + ys.length ≤ 1000000 then some (U.lst (xs ++ ys), true) else none) = _
  rw [if_pos h]
theorem bi_tuple (xs : List U) : biU .tuple [.lst xs] = some (.tup xs, false) := (rfl)
theorem bi_lenT (xs : List U) : biU .len [.tup xs] = some (.int xs.length, false) := (rfl)
theorem bi_lenL (xs : List U) : biU .len [.lst xs] = some (.int xs.length, false) := (rfl)
def ifV {A : Type} (h : Prop) [Decidable h] (a : Option A) : Option A := if h then a else none
theorem eq_int (a b : Int) : cmpU .eq (.int a) (.int b) = some (a == b) := (rfl)
theorem pur_eN (l : List Nat) : U.purs (l.map eN) = true := by
  induction l with
  | nil => rfl
  | cons x xs ih => exact ih
theorem purs_app (a b : List U) : U.purs (a ++ b) = (U.purs a && U.purs b) := by
  induction a with
  | nil => rfl
  | cons x xs ih =>
    show (x.pur && U.purs (xs ++ b)) = ((x.pur && U.purs xs) && U.purs b)
    rw [ih, Bool.and_assoc]
theorem pur_eW (f : List Nat) (l : Int) : (eW f l).pur = true := by
  show U.purs (f.map eN ++ [.int l]) = true
  rw [purs_app, pur_eN]
  rfl
theorem end_pur {u : U} {fr : Bool} {env : VE} (h : u.pur = true) : endV [] false (some (.rt u fr env)) = some (.ok (u, false), []) := by
  unfold endV
  dsimp only
  rw [if_pos h]
  rfl
theorem isL_eN (s : Nat) : (eN s).isL = false := (rfl)
theorem isL_int (s : Int) : (U.int s).isL = false := (rfl)
theorem isL_str (s : Str) : (U.str s).isL = false := (rfl)
theorem isL_tup (s : List U) : (U.tup s).isL = false := (rfl)
theorem isL_eM (s : Ma) : (eM s).isL = false := (rfl)
/-- the states that one document leads to -/
def Ma.col (M : Ma) (k s : Nat) : List Nat := (List.range k).map fun p => M.step p s
theorem cut_init (xs : List U) (x : U) : cut (xs ++ [x]) none (some (-1)) = xs := by
  unfold cut
  have h1 : HT.sIx (xs ++ [x]).length 0 none = 0 := (rfl)
  have h2 : HT.sIx (xs ++ [x]).length (xs ++ [x]).length (some (-1)) = xs.length := by
    rw [List.length_append, List.length_singleton]
    unfold HT.sIx
    dsimp only
    rw [if_pos (by decide)]
    omega
  rw [h1, h2, List.drop_zero, Nat.sub_zero, List.take_append_of_le_length (Nat.le_refl _), List.take_length]
theorem slc_init (xs : List U) (x : U) : slcU (.tup (xs ++ [x])) none (some (-1)) = some (.tup xs, false) := by
  show some (U.tup (cut (xs ++ [x]) none (some (-1))), false) = _
  rw [cut_init]
theorem last_app (xs : List U) (x : U) : idxU (.tup (xs ++ [x])) (.int (-1)) = some (x, false) := idx_last (by rw [List.getLast?_append]; rfl)
/-- one row of states behind another -/
def thenL (f g : List Nat) : List Nat := f.map fun s => (g[s]?).getD 0
def lastL (l m : Int) : Int := if m == -1 then l else if l == -1 then m else -2
/-! ### the way of a row -/
def Ma.wf (M : Ma) (k : Nat) (r : List Doc) : List Nat := (List.range k).map fun p => M.sems p r
def Ma.wl (M : Ma) : List Doc → Int
  | [] => -1
  | [d] => M.sem d
  | _ :: _ :: _ => -2
theorem wf_nil (M : Ma) (k : Nat) : M.wf k [] = List.range k := List.map_id _
theorem wf_one (M : Ma) (k : Nat) (d : Doc) : M.wf k [d] = M.col k (M.sem d) := (rfl)
theorem wf_mem {M : Ma} {k : Nat} (o : M.Ok k) {r : List Doc} {s : Nat} (h : s ∈ M.wf k r) : s < k := by
  obtain ⟨p, hp, rfl⟩ := List.mem_map.mp h
  exact o.sems r (List.mem_range.mp hp)
theorem wf_len (M : Ma) (k : Nat) (r : List Doc) : (M.wf k r).length = k := by
  unfold Ma.wf
  rw [List.length_map, List.length_range]
theorem wf_app {M : Ma} {k : Nat} (o : M.Ok k) (a b : List Doc) : thenL (M.wf k a) (M.wf k b) = M.wf k (a ++ b) := by
  unfold thenL
  show ((List.range k).map fun p => M.sems p a).map _ = (List.range k).map _
  rw [List.map_map]
  apply List.map_congr_left
  intro p hp
  have hs : M.sems p a < k := o.sems a (List.mem_range.mp hp)
  show (((List.range k).map fun q => M.sems q b)[M.sems p a]?).getD 0 = M.sems p (a ++ b)
  rw [List.getElem?_map, List.getElem?_range hs, sems_append]
  rfl
theorem wl_app (M : Ma) (a b : List Doc) : lastL (M.wl a) (M.wl b) = M.wl (a ++ b) := by
  have nn : ∀ d : Doc, ((M.sem d : Int) == -1) = false := fun d => by
    apply beq_eq_false_iff_ne.mpr
    omega
  have m2 : ((-2 : Int) == -1) = false := (rfl)
  unfold lastL
  match a, b with
  | [], [] => rfl
  | [], [d] =>
    show (if ((M.sem d : Int) == -1) = true then _ else if ((-1 : Int) == -1) = true then _ else _) = _
    rw [nn d]
    rfl
  | [], _ :: _ :: _ => rfl
  | [d], [] => rfl
  | [d], [e] =>
    show (if ((M.sem e : Int) == -1) = true then _ else if ((M.sem d : Int) == -1) = true then _ else _) = _
    rw [nn e, nn d]
    rfl
  | [d], _ :: _ :: _ =>
    show (if ((-2 : Int) == -1) = true then _ else if ((M.sem d : Int) == -1) = true then _ else _) = _
    rw [m2, nn d]
    rfl
  | _ :: _ :: _, [] => rfl
  | _ :: _ :: _, [e] =>
    show (if ((M.sem e : Int) == -1) = true then _ else if ((-2 : Int) == -1) = true then _ else _) = _
    rw [nn e, m2]
    rfl
  | _ :: _ :: _, _ :: _ :: _ => rfl
def Ma.way (M : Ma) (k : Nat) (r : List Doc) : U := eW (M.wf k r) (M.wl r)
end Iv
namespace Iv
open PySem L2
theorem D0 (x : Str) (ks : List Doc) : idxU (eD (.node x ks)) (.int 0) = some (.str x, false) := idx_0 _ _
theorem D1 (x : Str) (ks : List Doc) : idxU (eD (.node x ks)) (.int 1) = some (.tup (ks.map eD), false) := by
  rw [← eDs_map]
  exact idx_1 _ _ _
theorem lrgN {n : Nat} (h : n ≤ 1000000) (e1 : VE) : lrgV (some (0, (n : Int))) e1 = some (.ok (.lst ((List.range n).map eN), true), e1) := by
  rw [lrgV_ok (by rw [Int.sub_zero, Int.toNat_natCast]; exact h), rng_eN]
theorem idx_eR {r : List Nat} {s : Nat} (h : s < r.length) : idxU (eR r) (eN s) = some (eN ((r[s]?).getD 0), false) := idx_tup (by
  rw [List.getElem?_map, List.getElem?_eq_getElem h]
  rfl)
theorem idx_eW {g : List Nat} {m : Int} {s : Nat} (h : s < g.length) : idxU (eW g m) (eN s) = some (eN ((g[s]?).getD 0), false) := idx_tup (by
  rw [List.getElem?_append_left (by rw [List.length_map]; exact h), List.getElem?_map, List.getElem?_eq_getElem h]
  rfl)
theorem col_steps {M : Ma} {k : Nat} (o : M.Ok k) {s : Nat} (hs : s < k) : M.col k s = M.steps.map fun r => (r[s]?).getD 0 := by
  unfold Ma.col
  apply List.ext_getElem?
  intro i
  rw [List.getElem?_map, List.getElem?_map]
  by_cases hi : i < k
  · rw [List.getElem?_range hi]
    obtain ⟨r, h1, h2, h3⟩ := o.row hi
    rw [h1]
    show some (M.step i s) = _
    unfold Ma.step
    rw [h1]
    rfl
  · rw [List.getElem?_eq_none (by rw [List.length_range]; omega), List.getElem?_eq_none (by rw [o.tl]; omega)]
    rfl
end Iv
namespace Iv
open PySem L2
/-! ### drawn numbers -/
def cellAt (l : List Int) (k : Nat) : Int := (l[k]?).getD 0
def mixV (a : Int) (k : Nat) : Int := let b := (a + 1 + (k : Int) * k) * 48271 % 2147483629; b * (b / 128 + 69621 * k + 16807) % 2147483587
def nextV (t : List Int) (m : Int) : Int := match t.getLast? with
  | some x => x % m
  | none => 0
theorem nextV_nn (t : List Int) {m : Int} (h : 0 < m) : 0 ≤ nextV t m := by
  unfold nextV
  split
  · exact Int.emod_nonneg _ (by omega)
  · exact Int.le_refl 0
theorem nextV_lt (t : List Int) {m : Int} (h : 0 < m) : nextV t m < m := by
  unfold nextV
  split
  · exact Int.emod_lt_of_pos _ h
  · exact h
/-- the number drawn -/
def nextN (t : List Int) (m : Nat) : Nat := (nextV t m).toNat
theorem nextN_eq (t : List Int) {m : Nat} (h : 0 < m) : nextV t m = (nextN t m : Int) := by
  unfold nextN
  have := nextV_nn t (m := (m : Int)) (by omega)
  omega
theorem nextN_lt (t : List Int) {m : Nat} (h : 0 < m) : nextN t m < m := by
  have h1 := nextV_lt t (m := (m : Int)) (by omega)
  have h2 := nextN_eq t h
  omega
theorem isEmpty_last {t : List Int} (h : t.isEmpty = false) : ∃ x, t.getLast? = some x := by
  cases hq : t.getLast? with
  | some x => exact ⟨x, rfl⟩
  | none =>
    rw [List.getLast?_eq_none_iff.mp hq] at h
    cases h
def iL (t : List Int) : U := .lst (t.map .int)
def sL (t : List Str) : U := .lst (t.map .str)
theorem cellAt_idx {l : List Int} {k : Nat} (h : k < l.length) : idxU (.rol (l.map .int)) (.int k) = some (.int (cellAt l k), false) := by
  have h1 : (l.map U.int)[k]? = some (.int (cellAt l k)) := by
    unfold cellAt
    rw [List.getElem?_map, List.getElem?_eq_getElem h]
    rfl
  show (match atI (l.map U.int) (k : Int) with
    | some d => some (d, false)
    | none => none) = _
  rw [atI_nat h1]
theorem bi_lenR (xs : List U) : biU .len [.rol xs] = some (.int xs.length, false) := (rfl)
theorem end_lst {xs : List U} {env : VE} (h : U.purs xs = true) : endV [] false (some (.rt (.lst xs) true env)) = some (.ok (.lst xs, true), []) := by
  unfold endV
  dsimp only
  have : U.pur (.lst xs) = false := rfl
  rw [this, if_neg (by decide), if_pos h]
  rfl
theorem purs_of {l : List U} (h : ∀ u, u ∈ l → u.pur = true) : U.purs l = true := by
  induction l with
  | nil => rfl
  | cons x xs ih =>
    show (x.pur && U.purs xs) = true
    rw [h x (by simp), ih (fun u hu => h u (by simp [hu]))]
    rfl
theorem purs_int (l : List Int) : U.purs (l.map .int) = true := purs_of fun u hu => by
  obtain ⟨i, _, rfl⟩ := List.mem_map.mp hu
  rfl
theorem purs_str (l : List Str) : U.purs (l.map .str) = true := purs_of fun u hu => by
  obtain ⟨i, _, rfl⟩ := List.mem_map.mp hu
  rfl
theorem env_map {A : Type} (f : A → U) (l : List A) (x : A) : l.map f ++ [f x] = (l ++ [x]).map f := by
  rw [List.map_append]
  rfl
theorem small_of {i : Int} (h1 : -18446744073709551616 < i) (h2 : i < 18446744073709551616) : small64 i = true := by
  unfold small64
  rw [decide_eq_true h1, decide_eq_true h2]
  rfl
end Iv
namespace Iv
open PySem L2
def letter (x : Int) : Str := oneSign ((((("abcdefghijklmnopqrstuvwxyz" : Str)).cps.toList)[(x % 26).toNat]?).getD 0)
theorem abc_len : ("abcdefghijklmnopqrstuvwxyz" : Str).length = 26 := by decide +kernel
theorem letter_ix (x : Int) : idxU (.str "abcdefghijklmnopqrstuvwxyz") (.int (x % 26)) = some (.str (letter x), false) := by
  have h0 : 0 ≤ x % 26 := Int.emod_nonneg _ (by decide)
  have h1 : x % 26 < 26 := Int.emod_lt_of_pos _ (by decide)
  have hn : (x % 26).toNat < ("abcdefghijklmnopqrstuvwxyz" : Str).cps.toList.length := by
    rw [Array.length_toList]
    show _ < ("abcdefghijklmnopqrstuvwxyz" : Str).length
    rw [abc_len]
    omega
  have he : ((x % 26).toNat : Int) = x % 26 := by omega
  show (if ("abcdefghijklmnopqrstuvwxyz" : Str).length ≤ 1000000 then match atI ("abcdefghijklmnopqrstuvwxyz" : Str).cps.toList (x % 26) with
        | some c => some (U.str (oneSign c), false)
        | none => none
      else none) = _
  rw [if_pos (by rw [abc_len]; decide), ← he, atI_nat (List.getElem?_eq_getElem hn)]
  unfold letter
  rw [List.getElem?_eq_getElem hn]
  rfl
theorem join_le (z : Str) : ∀ l : List Str, (Str.join z l).length ≤ z.length * l.length + (l.map Str.length).sum
  | [] => Nat.zero_le _
  | [x] => by
    show x.length ≤ z.length * 1 + (x.length + 0)
    omega
  | x :: y :: l => by
    have ih := join_le z (y :: l)
    show (x ++ z ++ Str.join z (y :: l)).length ≤ _
    rw [len_app, len_app]
    rw [List.length_cons, List.map_cons, List.sum_cons, Nat.mul_succ]
    omega
theorem sum_one {A : Type} (f : A → Str) (h : ∀ a, (f a).length = 1) : ∀ l : List A, ((l.map f).map Str.length).sum = l.length
  | [] => rfl
  | x :: l => by
    rw [List.map_cons, List.map_cons, List.sum_cons, h, sum_one f h l, List.length_cons]
    omega
end Iv
namespace Iv
open PySem L2
/-! ### items -/
inductive It where
  | hole
  | node (nm : Str) (ks : List It)
mutual
def eI : It → U
  | .hole => .str "*"
  | .node x ks => .tup [.str x, .tup (eIs ks)]
def eIs : List It → List U
  | [] => []
  | d :: ds => eI d :: eIs ds
end
theorem eIs_map : ∀ ds : List It, eIs ds = ds.map eI
  | [] => rfl
  | d :: ds => by
    show eI d :: eIs ds = eI d :: ds.map eI
    rw [eIs_map ds]
mutual
def It.dep : It → Nat
  | .hole => 0
  | .node _ ks => It.deps ks + 1
def It.deps : List It → Nat
  | [] => 0
  | d :: ds => max d.dep (It.deps ds)
end
theorem it_mem : ∀ {ds : List It} {d : It}, d ∈ ds → d.dep ≤ It.deps ds
  | e :: ds, d, h => by
    show d.dep ≤ max e.dep (It.deps ds)
    rcases List.mem_cons.mp h with rfl | h
    · exact Nat.le_max_left _ _
    · exact Nat.le_trans (it_mem h) (Nat.le_max_right _ _)
theorem I0 (x : Str) (ks : List It) : idxU (eI (.node x ks)) (.int 0) = some (.str x, false) := idx_0 _ _
theorem I1 (x : Str) (ks : List It) : idxU (eI (.node x ks)) (.int 1) = some (.tup (ks.map eI), false) := by
  rw [← eIs_map]
  exact idx_1 _ _ _
theorem in_names' (l : List Str) (x : Str) : cmpU .in_ (.str x) (.tup (l.map .str)) = some (l.any (· == x)) := in_names l x
theorem hole_eq : cmpU .eq (eI .hole) (.str "*") = some true := by decide +kernel
theorem node_eq (x : Str) (ks : List It) : cmpU .eq (eI (.node x ks)) (.str "*") = some false := (rfl)
theorem hole_ne : cmpU .ne (eI .hole) (.str "*") = some false := by decide +kernel
mutual
/-- the items with the row in each hole -/
def It.full (r : List Doc) : It → List Doc
  | .hole => r
  | .node x ks => [.node x (It.fulls r ks)]
def It.fulls (r : List Doc) : List It → List Doc
  | [] => []
  | d :: ds => It.full r d ++ It.fulls r ds
end
theorem fulls_app (r : List Doc) : ∀ a b : List It, It.fulls r (a ++ b) = It.fulls r a ++ It.fulls r b
  | [], _ => rfl
  | x :: a, b => by
    show It.full r x ++ It.fulls r (a ++ b) = (It.full r x ++ It.fulls r a) ++ It.fulls r b
    rw [fulls_app r a b, List.append_assoc]
theorem fulls_one (r : List Doc) (x : It) : It.fulls r [x] = It.full r x := List.append_nil _
mutual
theorem pur_eD : ∀ d : Doc, (eD d).pur = true
  | .node x ks => by
    show ((U.str x).pur && ((U.tup (eDs ks)).pur && true)) = true
    rw [Bool.and_true]
    exact pur_eDs ks
theorem pur_eDs : ∀ ds : List Doc, U.purs (eDs ds) = true
  | [] => rfl
  | d :: ds => by
    show ((eD d).pur && U.purs (eDs ds)) = true
    rw [pur_eD d, pur_eDs ds]
    rfl
end
theorem purs_eD (ds : List Doc) : U.purs (ds.map eD) = true := by rw [← eDs_map]; exact pur_eDs ds
mutual
theorem pur_eI : ∀ d : It, (eI d).pur = true
  | .hole => rfl
  | .node x ks => by
    show ((U.str x).pur && ((U.tup (eIs ks)).pur && true)) = true
    rw [Bool.and_true]
    exact pur_eIs ks
theorem pur_eIs : ∀ ds : List It, U.purs (eIs ds) = true
  | [] => rfl
  | d :: ds => by
    show ((eI d).pur && U.purs (eIs ds)) = true
    rw [pur_eI d, pur_eIs ds]
    rfl
end
theorem purs_eI (ds : List It) : U.purs (ds.map eI) = true := by rw [← eIs_map]; exact pur_eIs ds
theorem way_idx {M : Ma} {k : Nat} (o : M.Ok k) {s : Nat} (h : s < k) (r : List Doc) : idxU (M.way k r) (eN s) = some (eN (M.sems s r), false) := by
  unfold Ma.way
  rw [idx_eW (by rw [wf_len]; exact h)]
  unfold Ma.wf
  rw [List.getElem?_map, List.getElem?_range h]
  rfl
theorem sem_node (M : Ma) (x : Str) (ks : List Doc) : M.sem (.node x ks) = M.sems (M.start x) ks := rfl
theorem pur_way (M : Ma) (k : Nat) (r : List Doc) : (M.way k r).pur = true := pur_eW _ _
/-! what is alike -/
mutual
/-- numbers, texts and tuples of such -/
def U.pl : U → Bool
  | .int _ => true
  | .str _ => true
  | .tup xs => U.pls xs
  | _ => false
def U.pls : List U → Bool
  | [] => true
  | x :: xs => U.pl x && U.pls xs
end
theorem pls_mem : ∀ {l : List U} {u : U}, U.pls l = true → u ∈ l → u.pl = true
  | x :: l, u, h, hm => by
    obtain ⟨h1, h2⟩ := Bool.and_eq_true_iff.mp (show (_ && _) = true from h)
    rcases List.mem_cons.mp hm with rfl | hm
    · exact h1
    · exact pls_mem h2 hm
theorem dep_memU : ∀ {l : List U} {u : U}, u ∈ l → u.dep ≤ U.deps l
  | x :: l, u, hm => by
    show u.dep ≤ max x.dep (U.deps l)
    rcases List.mem_cons.mp hm with rfl | hm
    · exact Nat.le_max_left _ _
    · exact Nat.le_trans (dep_memU hm) (Nat.le_max_right _ _)
theorem zip_self (l : List U) : List.zipWith (fun x y => U.tup [x, y]) l l = l.map fun x => .tup [x, x] := by
  induction l with
  | nil => rfl
  | cons x l ih => rw [List.zipWith_cons_cons, ih, List.map_cons]
theorem pl_eW (f : List Nat) (l : Int) : (eW f l).pl = true := by
  show U.pls (f.map eN ++ [.int l]) = true
  induction f with
  | nil => rfl
  | cons x f ih => exact ih
theorem dep_eW (f : List Nat) (l : Int) : (eW f l).dep = 1 := by
  show U.deps (f.map eN ++ [.int l]) + 1 = 1
  induction f with
  | nil => rfl
  | cons x f ih =>
    show max 0 (U.deps (f.map eN ++ [.int l])) + 1 = 1
    omega
theorem len_eW (f : List Nat) (l : Int) : (f.map eN ++ [U.int l]).length = f.length + 1 := by rw [List.length_append, List.length_map]; rfl
end Iv
namespace Iv
open PySem L2
mutual
def It.wid : It → Nat
  | .hole => 0
  | .node _ ks => max ks.length (It.wids ks)
def It.wids : List It → Nat
  | [] => 0
  | d :: ds => max (It.wid d) (It.wids ds)
end
theorem wid_mem : ∀ {ds : List It} {d : It}, d ∈ ds → d.wid ≤ It.wids ds
  | e :: ds, d, h => by
    show d.wid ≤ max e.wid (It.wids ds)
    rcases List.mem_cons.mp h with rfl | h
    · exact Nat.le_max_left _ _
    · exact Nat.le_trans (wid_mem h) (Nat.le_max_right _ _)
theorem fulls_len (r : List Doc) : ∀ its : List It, (It.fulls r its).length ≤ its.length * (r.length + 1)
  | [] => Nat.zero_le _
  | x :: its => by
    have ih := fulls_len r its
    show (It.full r x ++ It.fulls r its).length ≤ (its.length + 1) * (r.length + 1)
    rw [List.length_append, Nat.succ_mul]
    have : (It.full r x).length ≤ r.length + 1 := by
      cases x with
      | hole => exact Nat.le_succ _
      | node y ks => exact Nat.succ_le_succ (Nat.zero_le _)
    omega
theorem eD_node (x : Str) (ks : List Doc) : U.tup [.str x, .tup (ks.map eD)] = eD (.node x ks) := by rw [← eDs_map]; rfl
theorem foldl_sems (M : Ma) (ds : List Doc) (s : Nat) : (ds.map M.sem).foldl M.step s = M.sems s ds := by
  induction ds generalizing s with
  | nil => rfl
  | cons d ds ih => exact ih _
theorem foldl_lt {M : Ma} {k : Nat} (o : M.Ok k) : ∀ (l : List Nat) {s : Nat}, s < k → (∀ x, x ∈ l → x < k) → l.foldl M.step s < k
  | [], _, h, _ => h
  | x :: l, _, h, hl => foldl_lt o l (o.step h (hl x (by simp))) fun y hy => hl y (by simp [hy])
theorem index_ok {M : Ma} {k : Nat} (o : M.Ok k) (x : Str) : (M.names.any (· == x) = true ∧ ∃ i : Nat, mthU .index (.tup (M.names.map .str)) [.str x] = some (.int i, false) ∧ idxU (.tup (M.starts.map eN)) (.int i) = some (eN (M.start x), false)) ∨ (M.names.any (· == x) = false ∧ idxU (.tup (M.starts.map eN)) (.int (-1)) = some (eN (M.start x), false)) := by
  cases hb : M.names.findIdx? (· == x) with
  | some i =>
    left
    have h1 : M.names.any (· == x) = true := by
      obtain ⟨h2, h3⟩ := List.findIdx?_eq_some_iff_findIdx_eq.mp hb
      exact List.any_eq_true.mpr ⟨M.names[i], List.getElem_mem h2, by
        subst h3
        exact List.findIdx_getElem (p := (· == x)) (w := h2)⟩
    have hl : i < M.starts.length := by
      have := (List.findIdx?_eq_some_iff_findIdx_eq.mp hb).1
      have h2 := o.sl
      omega
    refine ⟨h1, i, index_names hb, idx_tup (by
      rw [List.getElem?_map, List.getElem?_eq_getElem hl]
      unfold Ma.start
      rw [hb]
      show some (eN M.starts[i]) = some (eN ((M.starts[i]?).getD 0))
      rw [List.getElem?_eq_getElem hl]
      rfl)⟩
  | none =>
    right
    have h1 : M.names.any (· == x) = false := by
      rw [List.findIdx?_eq_none_iff] at hb
      exact List.any_eq_false.mpr fun y hy => by rw [hb y hy]; decide
    refine ⟨h1, idx_last (by
      unfold Ma.start
      rw [hb, List.getLast?_map]
      cases hq : M.starts.getLast? with
      | none =>
        have := List.getLast?_eq_none_iff.mp hq
        have h2 := o.sl
        rw [this] at h2
        cases h2
      | some y => rfl)⟩
theorem last_ok {M : Ma} {k : Nat} (o : M.Ok k) : ∃ s, idxU (.tup (M.starts.map eN)) (.int (-1)) = some (eN s, false) := by
  cases hq : M.starts.getLast? with
  | none =>
    have := List.getLast?_eq_none_iff.mp hq
    have h2 := o.sl
    rw [this] at h2
    cases h2
  | some y => exact ⟨y, idx_last (by rw [List.getLast?_map, hq]; rfl)⟩
end Iv
namespace Iv
open PySem L2
mutual
def Doc.wid : Doc → Nat
  | .node _ ks => max ks.length (Doc.wids ks)
def Doc.wids : List Doc → Nat
  | [] => 0
  | d :: ds => max (Doc.wid d) (Doc.wids ds)
end
theorem dwid_mem : ∀ {ds : List Doc} {d : Doc}, d ∈ ds → d.wid ≤ Doc.wids ds
  | e :: ds, d, h => by
    show d.wid ≤ max e.wid (Doc.wids ds)
    rcases List.mem_cons.mp h with rfl | h
    · exact Nat.le_max_left _ _
    · exact Nat.le_trans (dwid_mem h) (Nat.le_max_right _ _)
theorem dwids_app : ∀ a b : List Doc, Doc.wids (a ++ b) = max (Doc.wids a) (Doc.wids b)
  | [], b => (Nat.zero_max _).symm
  | x :: a, b => by
    show max x.wid (Doc.wids (a ++ b)) = max (max x.wid (Doc.wids a)) (Doc.wids b)
    rw [dwids_app a b, Nat.max_assoc]
theorem ddeps_app : ∀ a b : List Doc, Doc.deps (a ++ b) = max (Doc.deps a) (Doc.deps b)
  | [], b => (Nat.zero_max _).symm
  | x :: a, b => by
    show max x.dep (Doc.deps (a ++ b)) = max (max x.dep (Doc.deps a)) (Doc.deps b)
    rw [ddeps_app a b, Nat.max_assoc]
mutual
theorem full_wid {w : Nat} (r : List Doc) : ∀ it : It, it.wid ≤ w → Doc.wids (It.full r it) ≤ max (Doc.wids r) (w * (r.length + 1))
  | .hole, _ => Nat.le_max_left _ _
  | .node x ks, h => by
    have h' : max ks.length (It.wids ks) ≤ w := h
    have h1 := fulls_len r ks
    have h2 := fulls_wid r ks (w := w) (by omega)
    have h3 : ks.length * (r.length + 1) ≤ w * (r.length + 1) := Nat.mul_le_mul_right _ (by omega)
    show max (max (It.fulls r ks).length (Doc.wids (It.fulls r ks))) 0 ≤ _
    rw [Nat.max_zero]
    omega
theorem fulls_wid {w : Nat} (r : List Doc) : ∀ its : List It, It.wids its ≤ w → Doc.wids (It.fulls r its) ≤ max (Doc.wids r) (w * (r.length + 1))
  | [], _ => Nat.zero_le _
  | x :: its, h => by
    have h' : max x.wid (It.wids its) ≤ w := h
    show Doc.wids (It.full r x ++ It.fulls r its) ≤ _
    rw [dwids_app]
    have := full_wid r x (w := w) (by omega)
    have := fulls_wid r its (w := w) (by omega)
    omega
end
mutual
theorem full_dep (r : List Doc) : ∀ it : It, Doc.deps (It.full r it) ≤ it.dep + Doc.deps r
  | .hole => Nat.le_add_left _ _
  | .node x ks => by
    have := fulls_dep r ks
    show max (Doc.deps (It.fulls r ks) + 1) 0 ≤ (It.deps ks + 1) + Doc.deps r
    omega
theorem fulls_dep (r : List Doc) : ∀ its : List It, Doc.deps (It.fulls r its) ≤ It.deps its + Doc.deps r
  | [] => Nat.zero_le _
  | x :: its => by
    show Doc.deps (It.full r x ++ It.fulls r its) ≤ max x.dep (It.deps its) + Doc.deps r
    rw [ddeps_app]
    have := full_dep r x
    have := fulls_dep r its
    omega
end
theorem deps_node (x : Str) (ks : List Doc) : (Doc.node x ks).dep = Doc.deps ks + 1 := rfl
theorem wid_node (x : Str) (ks : List Doc) : (Doc.node x ks).wid = max ks.length (Doc.wids ks) := rfl
theorem wl_sem (M : Ma) (r : List Doc) : (match r with
    | [] => (-1 : Int)
    | [d] => M.sem d
    | _ :: _ :: _ => -2) = M.wl r := by
  match r with
  | [] => rfl
  | [d] => rfl
  | _ :: _ :: _ => rfl
end Iv
namespace Iv
open PySem L2
mutual
def U.wdt : U → Nat
  | .tup xs => max xs.length (U.wdts xs)
  | _ => 0
def U.wdts : List U → Nat
  | [] => 0
  | x :: xs => max (U.wdt x) (U.wdts xs)
end
theorem wdt_memU : ∀ {l : List U} {u : U}, u ∈ l → u.wdt ≤ U.wdts l
  | x :: l, u, hm => by
    show u.wdt ≤ max x.wdt (U.wdts l)
    rcases List.mem_cons.mp hm with rfl | hm
    · exact Nat.le_max_left _ _
    · exact Nat.le_trans (wdt_memU hm) (Nat.le_max_right _ _)
theorem wdt_eW (f : List Nat) (l : Int) : (eW f l).wdt = f.length + 1 := by
  have h : U.wdts (f.map eN ++ [.int l]) = 0 := by
    induction f with
    | nil => rfl
    | cons x f ih =>
      show max 0 (U.wdts (f.map eN ++ [.int l])) = 0
      rw [ih]
      rfl
  show max (f.map eN ++ [U.int l]).length (U.wdts (f.map eN ++ [.int l])) = _
  rw [h, len_eW]
  omega
end Iv
namespace Iv
open PySem L2
theorem pur_eM {M : Ma} (h1 : U.purs M.forms = true) (h2 : U.purs M.marks = true) : (eM M).pur = true := by
  have h3 : U.purs (M.steps.map eR) = true := purs_of fun u hu => by
    obtain ⟨r, _, rfl⟩ := List.mem_map.mp hu
    exact pur_eN r
  show (U.purs M.forms && (U.purs (M.names.map .str) && (U.purs (M.starts.map eN) && (U.purs (M.steps.map eR) && (U.purs M.marks && true))))) = true
  rw [h1, h2, h3, purs_str, pur_eN]
  rfl
end Iv
namespace Iv
theorem set_safe {env : VE} {i : Nat} {q : Option (U × Md)} (h : env[i]? = some q) (hq : safeV (some q) = q) : env.set i (safeV env[i]?) = env := by
  rw [h, hq]
  exact set_get h
end Iv
namespace Iv
open PySem L2
def pick (pool : List Str) (k : Nat) : Str := (pool[k]?).getD ""
theorem idx_pool {pool : List Str} {k m : Nat} (hp : pool.length = m) (h : k < m) : idxU (.lst (pool.map .str)) (.int k) = some (.str (pick pool k), false) := idx_lst (by
  unfold pick
  rw [List.getElem?_map, List.getElem?_eq_getElem (by omega)]
  rfl)
theorem end_lst1 {xs ys : List U} {env : VE} (h : U.purs xs = true) (h0 : env[0]? = some (some (.lst ys, .mu))) (hy : U.purs ys = true) : endV [0] false (some (.rt (.lst xs) true env)) = some (.ok (.lst xs, true), [ys]) := by
  unfold endV
  dsimp only
  have : U.pur (.lst xs) = false := rfl
  rw [this, if_neg (by decide), if_pos h]
  unfold outsV
  rw [h0]
  dsimp only
  rw [if_pos hy]
  rfl
theorem end_pur1 {u : U} {fr : Bool} {ys : List U} {env : VE} (h : u.pur = true) (h0 : env[0]? = some (some (.lst ys, .mu))) (hy : U.purs ys = true) : endV [0] false (some (.rt u fr env)) = some (.ok (u, false), [ys]) := by
  unfold endV
  dsimp only
  rw [if_pos h]
  unfold outsV
  rw [h0]
  dsimp only
  rw [if_pos hy]
  rfl
end Iv
namespace Iv
theorem iwids_app : ∀ a b : List It, It.wids (a ++ b) = max (It.wids a) (It.wids b)
  | [], b => (Nat.zero_max _).symm
  | x :: a, b => by
    show max x.wid (It.wids (a ++ b)) = max (max x.wid (It.wids a)) (It.wids b)
    rw [iwids_app a b, Nat.max_assoc]
theorem ideps_app : ∀ a b : List It, It.deps (a ++ b) = max (It.deps a) (It.deps b)
  | [], b => (Nat.zero_max _).symm
  | x :: a, b => by
    show max x.dep (It.deps (a ++ b)) = max (max x.dep (It.deps a)) (It.deps b)
    rw [ideps_app a b, Nat.max_assoc]
theorem eI_node (x : PySem.Str) (ks : List It) : U.tup [.str x, .tup (ks.map eI)] = eI (.node x ks) := by rw [← eIs_map]; rfl
end Iv
end
section
set_option Elab.async false
set_option linter.all false
set_option maxRecDepth 100000
/-! IvT_k75: the defs of the law law_k75_ways in the small machine. Printed by tr.py. -/
namespace Iv.Tk75
open PySem
/-- start_of : 0 machine 1 name -/
def s0_0 : S := (.ife (.cmp .in_ (.var 1) (.idx (.var 0) (.cst (.int 1)))) (.cons (.ret (.idx (.idx (.var 0) (.cst (.int 2))) (.mth .index (.idx (.var 0) (.cst (.int 1)))
    (.cons (.var 1) .nil)))) .nil) .nil)
def s0_1 : S := (.ret (.idx (.idx (.var 0) (.cst (.int 2))) (.neg (.cst (.int 1)))))
def b0 : Ss := (.cons s0_0 (.cons s0_1 .nil))
def f0 : Fn := ⟨2, 2, (.mut []), b0⟩
/-- state_of : 0 machine 1 doc 2 state 3 child -/
def l1_0 : Ss := (.cons (.set 2 (.idx (.idx (.idx (.var 0) (.cst (.int 3))) (.var 2)) (.call 1 (.cons (.var 0) (.cons (.var 3) .nil))))) .nil)
def s1_0 : S := (.set 2 (.call 0 (.cons (.var 0) (.cons (.idx (.var 1) (.cst (.int 0))) .nil))))
def s1_1 : S := (.forS (.name 3) .seq (.cons (.idx (.var 1) (.cst (.int 1))) .nil) l1_0)
def s1_2 : S := (.ret (.var 2))
def b1 : Ss := (.cons s1_0 (.cons s1_1 (.cons s1_2 .nil)))
def f1 : Fn := ⟨2, 4, (.mut []), b1⟩
/-- way_of_none : 0 machine -/
def s2_0 : S := (.ret (.bi .tuple (.cons (.bin .add (.lrg (.cons (.bi .len (.cons (.idx (.var 0) (.cst (.int 3))) .nil)) .nil)) (.lst (.cons (.neg (.cst (.int 1))) .nil)))
    .nil)))
def b2 : Ss := (.cons s2_0 .nil)
def f2 : Fn := ⟨1, 1, (.mut []), b2⟩
/-- way_of_one : 0 machine 1 state 2 row -/
def x3_0 : E := (.comp (.name 2) .seq (.cons (.idx (.var 0) (.cst (.int 3))) .nil) .nil (.idx (.var 2) (.var 1)) [2])
def s3_0 : S := (.ret (.bi .tuple (.cons (.bin .add x3_0 (.lst (.cons (.var 1) .nil))) .nil)))
def b3 : Ss := (.cons s3_0 .nil)
def f3 : Fn := ⟨2, 3, (.mut []), b3⟩
/-- way_behind : 0 way 1 other 2 last 3 state -/
def x4_0 : E := (.comp (.name 3) .seq (.cons (.slc (.var 0) .nil (.cons (.neg (.cst (.int 1))) .nil)) .nil) .nil (.idx (.var 1) (.var 3)) [3])
def s4_0 : S := (.set 2 (.neg (.cst (.int 2))))
def s4_1 : S := (.ife (.cmp .eq (.idx (.var 0) (.neg (.cst (.int 1)))) (.neg (.cst (.int 1)))) (.cons (.set 2 (.idx (.var 1) (.neg (.cst (.int 1))))) .nil) .nil)
def s4_2 : S := (.ife (.cmp .eq (.idx (.var 1) (.neg (.cst (.int 1)))) (.neg (.cst (.int 1)))) (.cons (.set 2 (.idx (.var 0) (.neg (.cst (.int 1))))) .nil) .nil)
def s4_3 : S := (.ret (.bi .tuple (.cons (.bin .add x4_0 (.lst (.cons (.var 2) .nil))) .nil)))
def b4 : Ss := (.cons s4_0 (.cons s4_1 (.cons s4_2 (.cons s4_3 .nil))))
def f4 : Fn := ⟨2, 4, (.mut []), b4⟩
/-- way_of : 0 machine 1 row 2 found 3 doc -/
def l5_0 : Ss := (.cons (.set 2 (.call 4 (.cons (.var 2) (.cons (.call 3 (.cons (.var 0) (.cons (.call 1 (.cons (.var 0) (.cons (.var 3) .nil))) .nil))) .nil)))) .nil)
def s5_0 : S := (.set 2 (.call 2 (.cons (.var 0) .nil)))
def s5_1 : S := (.forS (.name 3) .seq (.cons (.var 1) .nil) l5_0)
def s5_2 : S := (.ret (.var 2))
def b5 : Ss := (.cons s5_0 (.cons s5_1 (.cons s5_2 .nil)))
def f5 : Fn := ⟨2, 4, (.mut []), b5⟩
/-- item_state : 0 machine 1 item 2 way -/
def s6_0 : S := (.ret (.idx (.call 7 (.cons (.var 0) (.cons (.idx (.var 1) (.cst (.int 1))) (.cons (.var 2) .nil)))) (.call 0 (.cons (.var 0) (.cons (.idx (.var 1) (.cst
    (.int 0))) .nil)))))
def b6 : Ss := (.cons s6_0 .nil)
def f6 : Fn := ⟨3, 3, (.mut []), b6⟩
/-- way_filled : 0 machine 1 items 2 way 3 found 4 item -/
def l7_0 : Ss := (.cons (.ife (.cmp .eq (.var 4) (.glb 0)) (.cons (.set 3 (.call 4 (.cons (.var 3) (.cons (.var 2) .nil)))) .nil) (.cons (.set 3 (.call 4 (.cons (.var 3)
    (.cons (.call 3 (.cons (.var 0) (.cons (.call 6 (.cons (.var 0) (.cons (.var 4) (.cons (.var 2) .nil)))) .nil))) .nil)))) .nil)) .nil)
def s7_0 : S := (.set 3 (.call 2 (.cons (.var 0) .nil)))
def s7_1 : S := (.forS (.name 4) .seq (.cons (.var 1) .nil) l7_0)
def s7_2 : S := (.ret (.var 3))
def b7 : Ss := (.cons s7_0 (.cons s7_1 (.cons s7_2 .nil)))
def f7 : Fn := ⟨3, 5, (.mut []), b7⟩
/-- _law_cell_at : 0 _law_script 1 _law_k -/
def s8_0 : S := (.ife (.cmp .lt (.var 1) (.bi .len (.cons (.var 0) .nil))) (.cons (.ret (.idx (.var 0) (.var 1))) .nil) .nil)
def s8_1 : S := (.ret (.cst (.int 0)))
def b8 : Ss := (.cons s8_0 (.cons s8_1 .nil))
def f8 : Fn := ⟨2, 2, (.mut []), b8⟩
/-- _law_mix : 0 _law_number 1 _law_k 2 _law_blend -/
def s9_0 : S := (.set 2 (.bin .mod (.bin .mul (.bin .add (.bin .add (.var 0) (.cst (.int 1))) (.bin .mul (.var 1) (.var 1))) (.cst (.int 48271))) (.cst (.int
    2147483629))))
def s9_1 : S := (.ret (.bin .mod (.bin .mul (.var 2) (.bin .add (.bin .add (.bin .fdiv (.var 2) (.cst (.int 128))) (.bin .mul (.cst (.int 69621)) (.var 1))) (.cst (.int
    16807)))) (.cst (.int 2147483587))))
def b9 : Ss := (.cons s9_0 (.cons s9_1 .nil))
def f9 : Fn := ⟨2, 3, (.mut []), b9⟩
/-- _law_tape : 0 _law_cell 1 _law_many 2 _law_found 3 _law_rest 4 _law_k -/
def l10_0 : Ss := (.cons (.ife (.cmp .ge (.var 3) (.bin .pow (.cst (.int 10)) (.cst (.int 18)))) (.cons (.expr (.mth .append (.var 2) (.cons (.bin .mod (.var 3) (.cst
    (.int 1000003))) .nil))) (.cons (.set 3 (.bin .fdiv (.var 3) (.cst (.int 1000003)))) .nil)) (.cons (.expr (.mth .append (.var 2) (.cons (.call 9 (.cons (.var 0) (.cons
    (.var 4) .nil))) .nil))) .nil)) .nil)
def s10_0 : S := (.set 2 (.lst .nil))
def s10_1 : S := (.set 3 (.var 0))
def s10_2 : S := (.forS (.name 4) .range (.cons (.var 1) .nil) l10_0)
def s10_3 : S := (.ret (.rev (.var 2)))
def b10 : Ss := (.cons s10_0 (.cons s10_1 (.cons s10_2 (.cons s10_3 .nil))))
def f10 : Fn := ⟨2, 5, (.mut []), b10⟩
/-- _law_next : 0 _law_tape_here 1 _law_many -/
def s11_0 : S := (.ife (.cmp .eq (.var 0) (.lst .nil)) (.cons (.ret (.cst (.int 0))) .nil) .nil)
def s11_1 : S := (.ret (.bin .mod (.mth .pop (.var 0) .nil) (.var 1)))
def b11 : Ss := (.cons s11_0 (.cons s11_1 .nil))
def f11 : Fn := ⟨2, 2, (.mut [0]), b11⟩
/-- _law_names : 0 _law_cell 1 _law_letters 2 _law_start 3 _law_base 4 _law_at 5 _law_first 6 _law_k -/
def x12_0 : E := (.comp (.name 6) .range (.cons (.cst (.int 8)) .nil) .nil (.idx (.var 1) (.bin .mod (.bin .add (.var 2) (.bin .mul (.cst (.int 3)) (.var 6))) (.cst (.int
    26)))) [6])
def x12_1 : E := (.comp (.name 6) .range (.cons (.cst (.int 9)) .nil) .nil (.bin .add (.bin .add (.slc (.var 3) .nil (.cons (.var 4) .nil)) (.idx (.var 1) (.bin .mod (.bin
    .add (.var 5) (.var 6)) (.cst (.int 26))))) (.slc (.var 3) (.cons (.bin .add (.var 4) (.cst (.int 1))) .nil) .nil)) [6])
def x12_2 : E := (.comp (.name 6) .range (.cons (.cst (.int 8)) .nil) .nil (.slc (.var 3) .nil (.cons (.bin .add (.var 6) (.cst (.int 1))) .nil)) [6])
def x12_3 : E := (.comp (.name 6) .range (.cons (.cst (.int 9)) .nil) .nil (.idx (.var 1) (.bin .mod (.bin .add (.var 2) (.bin .mul (.cst (.int 5)) (.var 6))) (.cst (.int
    26)))) [6])
def s12_0 : S := (.set 1 (.cst (.str "abcdefghijklmnopqrstuvwxyz")))
def s12_1 : S := (.set 2 (.bin .mod (.var 0) (.cst (.int 26))))
def s12_2 : S := (.set 3 (.mth .join (.cst (.str "")) (.cons x12_0 .nil)))
def s12_3 : S := (.ife (.cmp .eq (.bin .mod (.bin .fdiv (.var 0) (.cst (.int 26))) (.cst (.int 3))) (.cst (.int 0))) (.cons (.set 4 (.bin .mod (.bin .fdiv (.var 0) (.cst
    (.int 78))) (.cst (.int 8)))) (.cons (.set 5 (.bin .mod (.bin .fdiv (.var 0) (.cst (.int 624))) (.cst (.int 26)))) (.cons (.ret x12_1) .nil))) .nil)
def s12_4 : S := (.ife (.cmp .eq (.bin .mod (.bin .fdiv (.var 0) (.cst (.int 26))) (.cst (.int 3))) (.cst (.int 1))) (.cons (.ret (.bin .add x12_2 (.lst (.cons (.slc (.var
    3) (.cons (.cst (.int 1)) .nil) .nil) .nil)))) .nil) .nil)
def s12_5 : S := (.ret x12_3)
def b12 : Ss := (.cons s12_0 (.cons s12_1 (.cons s12_2 (.cons s12_3 (.cons s12_4 (.cons s12_5 .nil))))))
def f12 : Fn := ⟨1, 7, (.mut []), b12⟩
/-- _law_machine : 0 _law_script 1 _law_start 2 _law_pool 3 _law_most 4 _law_first 5 _law_many 6 _law_forms 7 _law_names_here 8 _law_tape_here 9 _law_starts 10 _law_way_here 11 _law_steps 12 _law_p 13 _law_marks 14 _law_row_here 15 _law_name 16 _law_q -/
def x13_0 : E := (.comp (.name 15) .seq (.cons (.bin .add (.var 7) (.lst (.cons (.cst (.str "")) .nil))) .nil) .nil (.call 11 (.cons (.var 8) (.cons (.var 5) .nil))) [15])
def x13_1 : E := (.comp (.name 16) .range (.cons (.var 5) .nil) .nil (.call 11 (.cons (.var 8) (.cons (.var 5) .nil))) [16])
def x13_2 : E := (.comp (.name 16) .range (.cons (.var 5) .nil) .nil (.bin .mod (.bin .add (.bin .add (.var 12) (.var 16)) (.cst (.int 1))) (.var 5)) [16])
def x13_3 : E := (.comp (.name 16) .range (.cons (.var 5) .nil) .nil (.bi .max (.cons (.var 12) (.cons (.var 16) .nil))) [16])
def x13_4 : E := (.comp (.name 16) .range (.cons (.var 5) .nil) .nil (.bi .min (.cons (.bin .add (.bin .add (.var 12) (.cst (.int 1))) (.bin .mul (.bin .mod (.idx (.var
    14) (.cst (.int 0))) (.cst (.int 2))) (.var 16))) (.cons (.bin .sub (.var 5) (.cst (.int 1))) .nil))) [16])
def l13_5 : Ss := (.cons (.set 14 x13_1) (.cons (.ife (.cmp .eq (.var 10) (.cst (.int 0))) (.cons (.set 14 x13_2) .nil) .nil) (.cons (.ife (.cmp .eq (.var 10) (.cst (.int
    1))) (.cons (.set 14 x13_3) .nil) .nil) (.cons (.ife (.cmp .eq (.var 10) (.cst (.int 2))) (.cons (.set 14 x13_4) .nil) .nil) (.cons (.expr (.mth .append (.var 11)
    (.cons (.bi .tuple (.cons (.var 14) .nil)) .nil))) .nil)))))
def x13_6 : E := (.comp (.name 12) .range (.cons (.var 5) .nil) .nil (.call 11 (.cons (.var 8) (.cons (.bin .shl (.cst (.int 1)) (.bi .len (.cons (.var 6) .nil))) .nil)))
    [12])
def s13_0 : S := (.set 4 (.call 8 (.cons (.var 0) (.cons (.var 1) .nil))))
def s13_1 : S := (.set 5 (.bin .add (.cst (.int 1)) (.bin .mod (.var 4) (.var 3))))
def s13_2 : S := (.set 6 (.slc (.var 2) .nil (.cons (.bin .mod (.bin .fdiv (.var 4) (.cst (.int 8))) (.cst (.int 10))) .nil)))
def s13_3 : S := (.set 7 (.bi .sorted (.cons (.slc (.slc (.var 2) (.cons (.bin .mod (.bin .fdiv (.var 4) (.cst (.int 80))) (.cst (.int 9))) .nil) .nil) .nil (.cons (.bin
    .mod (.bin .fdiv (.var 4) (.cst (.int 720))) (.cst (.int 5))) .nil)) .nil)))
def s13_4 : S := (.set 8 (.call 10 (.cons (.call 8 (.cons (.var 0) (.cons (.bin .add (.var 1) (.cst (.int 1))) .nil))) (.cons (.cst (.int 5)) .nil))))
def s13_5 : S := (.set 9 x13_0)
def s13_6 : S := (.set 8 (.call 10 (.cons (.call 8 (.cons (.var 0) (.cons (.bin .add (.var 1) (.cst (.int 2))) .nil))) (.cons (.cst (.int 66)) .nil))))
def s13_7 : S := (.set 10 (.call 11 (.cons (.var 8) (.cons (.cst (.int 5)) .nil))))
def s13_8 : S := (.set 11 (.lst .nil))
def s13_9 : S := (.forS (.name 12) .range (.cons (.var 5) .nil) l13_5)
def s13_10 : S := (.set 8 (.call 10 (.cons (.call 8 (.cons (.var 0) (.cons (.bin .add (.var 1) (.cst (.int 3))) .nil))) (.cons (.cst (.int 8)) .nil))))
def s13_11 : S := (.set 13 x13_6)
def s13_12 : S := (.ret (.tup (.cons (.bi .tuple (.cons (.var 6) .nil)) (.cons (.bi .tuple (.cons (.var 7) .nil)) (.cons (.bi .tuple (.cons (.var 9) .nil)) (.cons (.bi
    .tuple (.cons (.var 11) .nil)) (.cons (.bi .tuple (.cons (.var 13) .nil)) .nil)))))))
def b13 : Ss := (.cons s13_0 (.cons s13_1 (.cons s13_2 (.cons s13_3 (.cons s13_4 (.cons s13_5 (.cons s13_6 (.cons s13_7 (.cons s13_8 (.cons s13_9 (.cons s13_10 (.cons s13_11 (.cons s13_12 .nil)))))))))))))
def f13 : Fn := ⟨4, 17, (.mut []), b13⟩
/-- _law_state : 0 _law_table 1 _law_name 2 _law_states 3 _law_state_here 4 _law_other -/
def l14_0 : Ss := (.cons (.set 3 (.idx (.idx (.idx (.var 0) (.cst (.int 3))) (.var 3)) (.var 4))) .nil)
def s14_0 : S := (.set 3 (.idx (.idx (.var 0) (.cst (.int 2))) (.neg (.cst (.int 1)))))
def s14_1 : S := (.ife (.cmp .in_ (.var 1) (.idx (.var 0) (.cst (.int 1)))) (.cons (.set 3 (.idx (.idx (.var 0) (.cst (.int 2))) (.mth .index (.idx (.var 0) (.cst (.int
    1))) (.cons (.var 1) .nil)))) .nil) .nil)
def s14_2 : S := (.forS (.name 4) .seq (.cons (.var 2) .nil) l14_0)
def s14_3 : S := (.ret (.var 3))
def b14 : Ss := (.cons s14_0 (.cons s14_1 (.cons s14_2 (.cons s14_3 .nil))))
def f14 : Fn := ⟨3, 5, (.mut []), b14⟩
/-- _law_row : 0 _law_tape_here 1 _law_pool 2 _law_row_here 3 _law_k 4 _law_way_here 5 _law_doc -/
def l15_0 : Ss := (.cons (.set 4 (.call 11 (.cons (.var 0) (.cons (.cst (.int 4)) .nil)))) (.cons (.set 5 (.tup (.cons (.idx (.var 1) (.call 11 (.cons (.var 0) (.cons
    (.cst (.int 9)) .nil)))) (.cons (.tup .nil) .nil)))) (.cons (.ife (.cmp .gt (.var 4) (.cst (.int 0))) (.cons (.set 5 (.tup (.cons (.idx (.var 1) (.call 11 (.cons (.var
    0) (.cons (.cst (.int 9)) .nil)))) (.cons (.tup (.cons (.var 5) .nil)) .nil)))) .nil) .nil) (.cons (.ife (.cmp .gt (.var 4) (.cst (.int 1))) (.cons (.set 5 (.tup
    (.cons (.idx (.var 1) (.call 11 (.cons (.var 0) (.cons (.cst (.int 9)) .nil)))) (.cons (.tup (.cons (.var 5) (.cons (.tup (.cons (.idx (.var 1) (.call 11 (.cons (.var
    0) (.cons (.cst (.int 9)) .nil)))) (.cons (.tup .nil) .nil))) .nil))) .nil)))) .nil) .nil) (.cons (.expr (.mth .append (.var 2) (.cons (.var 5) .nil))) .nil)))))
def s15_0 : S := (.set 2 (.lst .nil))
def s15_1 : S := (.forS (.name 3) .range (.cons (.call 11 (.cons (.var 0) (.cons (.cst (.int 6)) .nil))) .nil) l15_0)
def s15_2 : S := (.ret (.var 2))
def b15 : Ss := (.cons s15_0 (.cons s15_1 (.cons s15_2 .nil)))
def f15 : Fn := ⟨2, 6, (.mut [0]), b15⟩
/-- _law_doc_state : 0 _law_table 1 _law_doc 2 _law_child -/
def x16_0 : E := (.comp (.name 2) .seq (.cons (.idx (.var 1) (.cst (.int 1))) .nil) .nil (.call 16 (.cons (.var 0) (.cons (.var 2) .nil))) [2])
def s16_0 : S := (.ret (.call 14 (.cons (.var 0) (.cons (.idx (.var 1) (.cst (.int 0))) (.cons x16_0 .nil)))))
def b16 : Ss := (.cons s16_0 .nil)
def f16 : Fn := ⟨2, 3, (.mut []), b16⟩
/-- _law_way : 0 _law_table 1 _law_row_here 2 _law_found 3 _law_states 4 _law_state_here 5 _law_last 6 _law_other 7 _law_doc -/
def x17_0 : E := (.comp (.name 7) .seq (.cons (.var 1) .nil) .nil (.call 16 (.cons (.var 0) (.cons (.var 7) .nil))) [7])
def l17_1 : Ss := (.cons (.set 4 (.idx (.idx (.idx (.var 0) (.cst (.int 3))) (.var 4)) (.var 6))) .nil)
def l17_2 : Ss := (.cons (.forS (.name 6) .seq (.cons (.var 3) .nil) l17_1) (.cons (.expr (.mth .append (.var 2) (.cons (.var 4) .nil))) .nil))
def s17_0 : S := (.set 2 (.lst .nil))
def s17_1 : S := (.set 3 x17_0)
def s17_2 : S := (.forS (.name 4) .range (.cons (.bi .len (.cons (.idx (.var 0) (.cst (.int 3))) .nil)) .nil) l17_2)
def s17_3 : S := (.set 5 (.neg (.cst (.int 2))))
def s17_4 : S := (.ife (.cmp .eq (.bi .len (.cons (.var 3) .nil)) (.cst (.int 0))) (.cons (.set 5 (.neg (.cst (.int 1)))) .nil) .nil)
def s17_5 : S := (.ife (.cmp .eq (.bi .len (.cons (.var 3) .nil)) (.cst (.int 1))) (.cons (.set 5 (.idx (.var 3) (.cst (.int 0)))) .nil) .nil)
def s17_6 : S := (.ret (.bi .tuple (.cons (.bin .add (.var 2) (.lst (.cons (.var 5) .nil))) .nil)))
def b17 : Ss := (.cons s17_0 (.cons s17_1 (.cons s17_2 (.cons s17_3 (.cons s17_4 (.cons s17_5 (.cons s17_6 .nil)))))))
def f17 : Fn := ⟨2, 8, (.mut []), b17⟩
/-- _law_items : 0 _law_tape_here 1 _law_depth 2 _law_pool 3 _law_found 4 _law_k 5 _law_name -/
def l18_0 : Ss := (.cons (.ife (.cmp .eq (.call 11 (.cons (.var 0) (.cons (.cst (.int 3)) .nil))) (.cst (.int 0))) (.cons (.expr (.mth .append (.var 3) (.cons (.cst (.str
    "*")) .nil))) .nil) (.cons (.ife (.cmp .eq (.var 1) (.cst (.int 0))) (.cons (.expr (.mth .append (.var 3) (.cons (.tup (.cons (.idx (.var 2) (.call 11 (.cons (.var 0)
    (.cons (.cst (.int 9)) .nil)))) (.cons (.tup .nil) .nil))) .nil))) .nil) (.cons (.set 5 (.idx (.var 2) (.call 11 (.cons (.var 0) (.cons (.cst (.int 9)) .nil)))))
    (.cons (.expr (.mth .append (.var 3) (.cons (.tup (.cons (.var 5) (.cons (.call 18 (.cons (.var 0) (.cons (.bin .sub (.var 1) (.cst (.int 1))) (.cons (.var 2) .nil))))
    .nil))) .nil))) .nil))) .nil)) .nil)
def s18_0 : S := (.set 3 (.lst .nil))
def s18_1 : S := (.forS (.name 4) .range (.cons (.call 11 (.cons (.var 0) (.cons (.cst (.int 4)) .nil))) .nil) l18_0)
def s18_2 : S := (.ret (.bi .tuple (.cons (.var 3) .nil)))
def b18 : Ss := (.cons s18_0 (.cons s18_1 (.cons s18_2 .nil)))
def f18 : Fn := ⟨3, 6, (.mut [0]), b18⟩
/-- _law_full : 0 _law_items_here 1 _law_row_here 2 _law_found 3 _law_item -/
def l19_0 : Ss := (.cons (.ife (.cmp .eq (.var 3) (.cst (.str "*"))) (.cons (.expr (.mth .extend (.var 2) (.cons (.var 1) .nil))) .nil) (.cons (.expr (.mth .append (.var
    2) (.cons (.tup (.cons (.idx (.var 3) (.cst (.int 0))) (.cons (.bi .tuple (.cons (.call 19 (.cons (.idx (.var 3) (.cst (.int 1))) (.cons (.var 1) .nil))) .nil))
    .nil))) .nil))) .nil)) .nil)
def s19_0 : S := (.set 2 (.lst .nil))
def s19_1 : S := (.forS (.name 3) .seq (.cons (.var 0) .nil) l19_0)
def s19_2 : S := (.ret (.var 2))
def b19 : Ss := (.cons s19_0 (.cons s19_1 (.cons s19_2 .nil)))
def f19 : Fn := ⟨2, 4, (.mut []), b19⟩
/-- _law_same : 0 _law_found 1 _law_due 2 _law_a 3 _law_b -/
def x20_0 : E := (.comp (.tup [2, 3]) .zip (.cons (.var 0) (.cons (.var 1) .nil)) .nil (.call 20 (.cons (.var 2) (.cons (.var 3) .nil))) [2, 3])
def s20_0 : S := (.ife (.isi (.var 1) .tup) (.cons (.ife (.or (.cons (.not (.isi (.var 0) .tup)) (.cons (.cmp .ne (.bi .len (.cons (.var 0) .nil)) (.bi .len (.cons (.var
    1) .nil))) .nil))) (.cons (.ret (.cst (.bl false))) .nil) .nil) (.cons (.ret (.bi .all (.cons x20_0 .nil))) .nil)) .nil)
def s20_1 : S := (.ife (.isi (.var 1) .str) (.cons (.ret (.and (.cons (.isi (.var 0) .str) (.cons (.cmp .eq (.var 0) (.var 1)) .nil)))) .nil) .nil)
def s20_2 : S := (.ret (.and (.cons (.isi (.var 0) .int) (.cons (.not (.isi (.var 0) .bool)) (.cons (.cmp .eq (.var 0) (.var 1)) .nil)))))
def b20 : Ss := (.cons s20_0 (.cons s20_1 (.cons s20_2 .nil)))
def f20 : Fn := ⟨2, 4, (.mut []), b20⟩
/-- _law_right : 0 _law_table 1 _law_row_here 2 _law_others 3 _law_items_here 4 _law_one_way 5 _law_other_way -/
def s21_0 : S := (.set 4 (.call 17 (.cons (.var 0) (.cons (.var 1) .nil))))
def s21_1 : S := (.set 5 (.call 17 (.cons (.var 0) (.cons (.var 2) .nil))))
def s21_2 : S := (.ife (.not (.call 20 (.cons (.call 5 (.cons (.var 0) (.cons (.bi .tuple (.cons (.var 1) .nil)) .nil))) (.cons (.var 4) .nil)))) (.cons (.ret (.cst (.bl
    false))) .nil) .nil)
def s21_3 : S := (.ife (.not (.call 20 (.cons (.call 4 (.cons (.var 4) (.cons (.var 5) .nil))) (.cons (.call 17 (.cons (.var 0) (.cons (.bin .add (.var 1) (.var 2))
    .nil))) .nil)))) (.cons (.ret (.cst (.bl false))) .nil) .nil)
def s21_4 : S := (.ife (.not (.call 20 (.cons (.call 4 (.cons (.var 4) (.cons (.var 4) .nil))) (.cons (.call 17 (.cons (.var 0) (.cons (.bin .add (.var 1) (.var 1))
    .nil))) .nil)))) (.cons (.ret (.cst (.bl false))) .nil) .nil)
def s21_5 : S := (.ret (.call 20 (.cons (.call 7 (.cons (.var 0) (.cons (.var 3) (.cons (.var 4) .nil)))) (.cons (.call 17 (.cons (.var 0) (.cons (.call 19 (.cons (.var 3)
    (.cons (.var 1) .nil))) .nil))) .nil))))
def b21 : Ss := (.cons s21_0 (.cons s21_1 (.cons s21_2 (.cons s21_3 (.cons s21_4 (.cons s21_5 .nil))))))
def f21 : Fn := ⟨4, 6, (.mut []), b21⟩
/-- law : 0 _law_script 1 _law_pool 2 _law_table 3 _law_rows 4 _law_items_here 5 _law_k 6 _law_tape_here -/
def l22_0 : Ss := (.cons (.expr (.mth .append (.var 3) (.cons (.call 15 (.cons (.call 10 (.cons (.call 8 (.cons (.var 0) (.cons (.bin .add (.cst (.int 5)) (.bin .mul (.cst
    (.int 2)) (.var 5))) .nil))) (.cons (.cst (.int 32)) .nil))) (.cons (.var 1) .nil))) .nil))) (.cons (.set 6 (.call 10 (.cons (.call 8 (.cons (.var 0) (.cons (.bin .add
    (.cst (.int 6)) (.bin .mul (.cst (.int 2)) (.var 5))) .nil))) (.cons (.cst (.int 120)) .nil)))) (.cons (.expr (.mth .append (.var 4) (.cons (.call 18 (.cons (.var 6)
    (.cons (.call 11 (.cons (.var 6) (.cons (.cst (.int 3)) .nil))) (.cons (.var 1) .nil)))) .nil))) .nil)))
def l22_1 : Ss := (.cons (.ife (.not (.call 21 (.cons (.var 2) (.cons (.idx (.var 3) (.var 5)) (.cons (.idx (.var 3) (.bin .sub (.var 5) (.cst (.int 1)))) (.cons (.idx
    (.var 4) (.var 5)) .nil)))))) (.cons (.ret (.cst (.bl false))) .nil) .nil) (.cons (.ife (.not (.call 21 (.cons (.var 2) (.cons (.idx (.var 3) (.bin .sub (.var 5) (.cst
    (.int 1)))) (.cons (.idx (.var 3) (.var 5)) (.cons (.idx (.var 4) (.var 5)) .nil)))))) (.cons (.ret (.cst (.bl false))) .nil) .nil) .nil))
def s22_0 : S := (.set 1 (.call 12 (.cons (.call 8 (.cons (.var 0) (.cons (.cst (.int 0)) .nil))) .nil)))
def s22_1 : S := (.set 2 (.call 13 (.cons (.var 0) (.cons (.cst (.int 1)) (.cons (.var 1) (.cons (.cst (.int 8)) .nil))))))
def s22_2 : S := (.set 3 (.lst .nil))
def s22_3 : S := (.set 4 (.lst .nil))
def s22_4 : S := (.forS (.name 5) .range (.cons (.bi .max (.cons (.cst (.int 1)) (.cons (.bi .min (.cons (.cst (.int 8)) (.cons (.bin .fdiv (.bin .sub (.bi .len (.cons
    (.var 0) .nil)) (.cst (.int 5))) (.cst (.int 2))) .nil))) .nil))) .nil) l22_0)
def s22_5 : S := (.forS (.name 5) .range (.cons (.bi .len (.cons (.var 3) .nil)) .nil) l22_1)
def s22_6 : S := (.ret (.call 21 (.cons (.var 2) (.cons (.idx (.var 3) (.cst (.int 0))) (.cons (.idx (.var 3) (.cst (.int 0))) (.cons (.idx (.var 4) (.cst (.int 0)))
    .nil))))))
def b22 : Ss := (.cons s22_0 (.cons s22_1 (.cons s22_2 (.cons s22_3 (.cons s22_4 (.cons s22_5 (.cons s22_6 .nil)))))))
def f22 : Fn := ⟨1, 7, (.mut []), b22⟩
def cfg : Cfg := ⟨[f0, f1, f2, f3, f4, f5, f6, f7, f8, f9, f10, f11, f12, f13, f14, f15, f16, f17, f18, f19, f20, f21, f22], [.str "*"], 1000000⟩
end Iv.Tk75
end
section
set_option Elab.async false
set_option linter.all false
set_option maxRecDepth 100000
/-! IvC_k75: what a call runs. Printed by tr.py. -/
namespace Iv.Tk75
open PySem
theorem c0 (n : Nat) (a0 : U) (a1 : U) : callV cfg (n + 1) 0 [a0, a1] = endV [] false (exVs cfg (callV cfg n) b0 [some (a0, .bor), some (a1, .bor)]) := call_mut (f := 0) (fn := f0) rfl rfl rfl
theorem ps0 : psOf cfg 0 = [] := rfl
theorem c1 (n : Nat) (a0 : U) (a1 : U) : callV cfg (n + 1) 1 [a0, a1] = endV [] false (exVs cfg (callV cfg n) b1 [some (a0, .bor), some (a1, .bor), none, none]) := call_mut (f := 1) (fn := f1) rfl rfl rfl
theorem ps1 : psOf cfg 1 = [] := rfl
theorem c2 (n : Nat) (a0 : U) : callV cfg (n + 1) 2 [a0] = endV [] false (exVs cfg (callV cfg n) b2 [some (a0, .bor)]) := call_mut (f := 2) (fn := f2) rfl rfl rfl
theorem ps2 : psOf cfg 2 = [] := rfl
theorem c3 (n : Nat) (a0 : U) (a1 : U) : callV cfg (n + 1) 3 [a0, a1] = endV [] false (exVs cfg (callV cfg n) b3 [some (a0, .bor), some (a1, .bor), none]) := call_mut (f := 3) (fn := f3) rfl rfl rfl
theorem px3_0 (env : VE) : pinV x3_0 env = env := (rfl)
theorem qx3_0 (e0 env : VE) : unpinV x3_0 e0 env = env := (rfl)
theorem nx3_0 (i : Nat) : (x3_0 = E.var i) = False := eq_false fun h => by unfold x3_0 at h; exact nomatch h
theorem ps3 : psOf cfg 3 = [] := rfl
theorem c4 (n : Nat) (a0 : U) (a1 : U) : callV cfg (n + 1) 4 [a0, a1] = endV [] false (exVs cfg (callV cfg n) b4 [some (a0, .bor), some (a1, .bor), none, none]) := call_mut (f := 4) (fn := f4) rfl rfl rfl
theorem px4_0 (env : VE) : pinV x4_0 env = env := (rfl)
theorem qx4_0 (e0 env : VE) : unpinV x4_0 e0 env = env := (rfl)
theorem nx4_0 (i : Nat) : (x4_0 = E.var i) = False := eq_false fun h => by unfold x4_0 at h; exact nomatch h
theorem ps4 : psOf cfg 4 = [] := rfl
theorem c5 (n : Nat) (a0 : U) (a1 : U) : callV cfg (n + 1) 5 [a0, a1] = endV [] false (exVs cfg (callV cfg n) b5 [some (a0, .bor), some (a1, .bor), none, none]) := call_mut (f := 5) (fn := f5) rfl rfl rfl
theorem ps5 : psOf cfg 5 = [] := rfl
theorem c6 (n : Nat) (a0 : U) (a1 : U) (a2 : U) : callV cfg (n + 1) 6 [a0, a1, a2] = endV [] false (exVs cfg (callV cfg n) b6 [some (a0, .bor), some (a1, .bor), some (a2, .bor)]) := call_mut (f := 6) (fn := f6) rfl rfl rfl
theorem ps6 : psOf cfg 6 = [] := rfl
theorem c7 (n : Nat) (a0 : U) (a1 : U) (a2 : U) : callV cfg (n + 1) 7 [a0, a1, a2] = endV [] false (exVs cfg (callV cfg n) b7 [some (a0, .bor), some (a1, .bor), some (a2, .bor), none, none]) := call_mut (f := 7) (fn := f7) rfl rfl rfl
theorem ps7 : psOf cfg 7 = [] := rfl
theorem c8 (n : Nat) (a0 : U) (a1 : U) : callV cfg (n + 1) 8 [a0, a1] = endV [] false (exVs cfg (callV cfg n) b8 [some (a0, .bor), some (a1, .bor)]) := call_mut (f := 8) (fn := f8) rfl rfl rfl
theorem ps8 : psOf cfg 8 = [] := rfl
theorem c9 (n : Nat) (a0 : U) (a1 : U) : callV cfg (n + 1) 9 [a0, a1] = endV [] false (exVs cfg (callV cfg n) b9 [some (a0, .bor), some (a1, .bor), none]) := call_mut (f := 9) (fn := f9) rfl rfl rfl
theorem ps9 : psOf cfg 9 = [] := rfl
theorem c10 (n : Nat) (a0 : U) (a1 : U) : callV cfg (n + 1) 10 [a0, a1] = endV [] false (exVs cfg (callV cfg n) b10 [some (a0, .bor), some (a1, .bor), none, none, none]) := call_mut (f := 10) (fn := f10) rfl rfl rfl
theorem ps10 : psOf cfg 10 = [] := rfl
theorem c11 (n : Nat) (a0 : U) (a1 : U) : callV cfg (n + 1) 11 [a0, a1] = endV [0] false (exVs cfg (callV cfg n) b11 [some (a0, .mu), some (a1, .bor)]) := call_mut (f := 11) (fn := f11) rfl rfl rfl
theorem ps11 : psOf cfg 11 = [0] := rfl
theorem c12 (n : Nat) (a0 : U) : callV cfg (n + 1) 12 [a0] = endV [] false (exVs cfg (callV cfg n) b12 [some (a0, .bor), none, none, none, none, none, none]) := call_mut (f := 12) (fn := f12) rfl rfl rfl
theorem px12_0 (env : VE) : pinV x12_0 env = env := (rfl)
theorem qx12_0 (e0 env : VE) : unpinV x12_0 e0 env = env := (rfl)
theorem nx12_0 (i : Nat) : (x12_0 = E.var i) = False := eq_false fun h => by unfold x12_0 at h; exact nomatch h
theorem px12_1 (env : VE) : pinV x12_1 env = env := (rfl)
theorem qx12_1 (e0 env : VE) : unpinV x12_1 e0 env = env := (rfl)
theorem nx12_1 (i : Nat) : (x12_1 = E.var i) = False := eq_false fun h => by unfold x12_1 at h; exact nomatch h
theorem px12_2 (env : VE) : pinV x12_2 env = env := (rfl)
theorem qx12_2 (e0 env : VE) : unpinV x12_2 e0 env = env := (rfl)
theorem nx12_2 (i : Nat) : (x12_2 = E.var i) = False := eq_false fun h => by unfold x12_2 at h; exact nomatch h
theorem px12_3 (env : VE) : pinV x12_3 env = env := (rfl)
theorem qx12_3 (e0 env : VE) : unpinV x12_3 e0 env = env := (rfl)
theorem nx12_3 (i : Nat) : (x12_3 = E.var i) = False := eq_false fun h => by unfold x12_3 at h; exact nomatch h
theorem ps12 : psOf cfg 12 = [] := rfl
theorem c13 (n : Nat) (a0 : U) (a1 : U) (a2 : U) (a3 : U) : callV cfg (n + 1) 13 [a0, a1, a2, a3] = endV [] false (exVs cfg (callV cfg n) b13 [some (a0, .bor), some (a1, .bor), some (a2, .bor), some (a3, .bor), none, none, none, none, none, none, none, none, none, none, none, none, none]) := call_mut (f := 13) (fn := f13) rfl rfl rfl
theorem px13_0 (env : VE) : pinV x13_0 env = env := (rfl)
theorem qx13_0 (e0 env : VE) : unpinV x13_0 e0 env = env := (rfl)
theorem nx13_0 (i : Nat) : (x13_0 = E.var i) = False := eq_false fun h => by unfold x13_0 at h; exact nomatch h
theorem px13_1 (env : VE) : pinV x13_1 env = env := (rfl)
theorem qx13_1 (e0 env : VE) : unpinV x13_1 e0 env = env := (rfl)
theorem nx13_1 (i : Nat) : (x13_1 = E.var i) = False := eq_false fun h => by unfold x13_1 at h; exact nomatch h
theorem px13_2 (env : VE) : pinV x13_2 env = env := (rfl)
theorem qx13_2 (e0 env : VE) : unpinV x13_2 e0 env = env := (rfl)
theorem nx13_2 (i : Nat) : (x13_2 = E.var i) = False := eq_false fun h => by unfold x13_2 at h; exact nomatch h
theorem px13_3 (env : VE) : pinV x13_3 env = env := (rfl)
theorem qx13_3 (e0 env : VE) : unpinV x13_3 e0 env = env := (rfl)
theorem nx13_3 (i : Nat) : (x13_3 = E.var i) = False := eq_false fun h => by unfold x13_3 at h; exact nomatch h
theorem px13_4 (env : VE) : pinV x13_4 env = env := (rfl)
theorem qx13_4 (e0 env : VE) : unpinV x13_4 e0 env = env := (rfl)
theorem nx13_4 (i : Nat) : (x13_4 = E.var i) = False := eq_false fun h => by unfold x13_4 at h; exact nomatch h
theorem px13_6 (env : VE) : pinV x13_6 env = env := (rfl)
theorem qx13_6 (e0 env : VE) : unpinV x13_6 e0 env = env := (rfl)
theorem nx13_6 (i : Nat) : (x13_6 = E.var i) = False := eq_false fun h => by unfold x13_6 at h; exact nomatch h
theorem ps13 : psOf cfg 13 = [] := rfl
theorem c14 (n : Nat) (a0 : U) (a1 : U) (a2 : U) : callV cfg (n + 1) 14 [a0, a1, a2] = endV [] false (exVs cfg (callV cfg n) b14 [some (a0, .bor), some (a1, .bor), some (a2, .bor), none, none]) := call_mut (f := 14) (fn := f14) rfl rfl rfl
theorem ps14 : psOf cfg 14 = [] := rfl
theorem c15 (n : Nat) (a0 : U) (a1 : U) : callV cfg (n + 1) 15 [a0, a1] = endV [0] false (exVs cfg (callV cfg n) b15 [some (a0, .mu), some (a1, .bor), none, none, none, none]) := call_mut (f := 15) (fn := f15) rfl rfl rfl
theorem ps15 : psOf cfg 15 = [0] := rfl
theorem c16 (n : Nat) (a0 : U) (a1 : U) : callV cfg (n + 1) 16 [a0, a1] = endV [] false (exVs cfg (callV cfg n) b16 [some (a0, .bor), some (a1, .bor), none]) := call_mut (f := 16) (fn := f16) rfl rfl rfl
theorem px16_0 (env : VE) : pinV x16_0 env = env := (rfl)
theorem qx16_0 (e0 env : VE) : unpinV x16_0 e0 env = env := (rfl)
theorem nx16_0 (i : Nat) : (x16_0 = E.var i) = False := eq_false fun h => by unfold x16_0 at h; exact nomatch h
theorem ps16 : psOf cfg 16 = [] := rfl
theorem c17 (n : Nat) (a0 : U) (a1 : U) : callV cfg (n + 1) 17 [a0, a1] = endV [] false (exVs cfg (callV cfg n) b17 [some (a0, .bor), some (a1, .bor), none, none, none, none, none, none]) := call_mut (f := 17) (fn := f17) rfl rfl rfl
theorem px17_0 (env : VE) : pinV x17_0 env = env := (rfl)
theorem qx17_0 (e0 env : VE) : unpinV x17_0 e0 env = env := (rfl)
theorem nx17_0 (i : Nat) : (x17_0 = E.var i) = False := eq_false fun h => by unfold x17_0 at h; exact nomatch h
theorem ps17 : psOf cfg 17 = [] := rfl
theorem c18 (n : Nat) (a0 : U) (a1 : U) (a2 : U) : callV cfg (n + 1) 18 [a0, a1, a2] = endV [0] false (exVs cfg (callV cfg n) b18 [some (a0, .mu), some (a1, .bor), some (a2, .bor), none, none, none]) := call_mut (f := 18) (fn := f18) rfl rfl rfl
theorem ps18 : psOf cfg 18 = [0] := rfl
theorem c19 (n : Nat) (a0 : U) (a1 : U) : callV cfg (n + 1) 19 [a0, a1] = endV [] false (exVs cfg (callV cfg n) b19 [some (a0, .bor), some (a1, .bor), none, none]) := call_mut (f := 19) (fn := f19) rfl rfl rfl
theorem ps19 : psOf cfg 19 = [] := rfl
theorem c20 (n : Nat) (a0 : U) (a1 : U) : callV cfg (n + 1) 20 [a0, a1] = endV [] false (exVs cfg (callV cfg n) b20 [some (a0, .bor), some (a1, .bor), none, none]) := call_mut (f := 20) (fn := f20) rfl rfl rfl
theorem px20_0 (env : VE) : pinV x20_0 env = env := (rfl)
theorem qx20_0 (e0 env : VE) : unpinV x20_0 e0 env = env := (rfl)
theorem nx20_0 (i : Nat) : (x20_0 = E.var i) = False := eq_false fun h => by unfold x20_0 at h; exact nomatch h
theorem ps20 : psOf cfg 20 = [] := rfl
theorem c21 (n : Nat) (a0 : U) (a1 : U) (a2 : U) (a3 : U) : callV cfg (n + 1) 21 [a0, a1, a2, a3] = endV [] false (exVs cfg (callV cfg n) b21 [some (a0, .bor), some (a1, .bor), some (a2, .bor), some (a3, .bor), none, none]) := call_mut (f := 21) (fn := f21) rfl rfl rfl
theorem ps21 : psOf cfg 21 = [] := rfl
theorem c22 (n : Nat) (a0 : U) : callV cfg (n + 1) 22 [a0] = endV [] false (exVs cfg (callV cfg n) b22 [some (a0, .bor), none, none, none, none, none, none]) := call_mut (f := 22) (fn := f22) rfl rfl rfl
theorem ps22 : psOf cfg 22 = [] := rfl
end Iv.Tk75
end
section
set_option Elab.async false
set_option linter.all false
set_option maxRecDepth 100000
namespace Iv
open PySem L2
namespace Tk75
theorem start_of {n : Nat} {M : Ma} {k : Nat} (o : M.Ok k) (x : Str) : callV cfg (n + 1) 0 [eM M, .str x] = some (.ok (eN (M.start x), false), []) := by
  rw [c0]
  simp only [b0, s0_0, s0_1, exVs, exV, evV, evVl, rdU, List.getElem?_cons_zero, List.getElem?_cons_succ, bndV_ok, lftV_ok, unpV_ok, retV_ok, pinV, unpinV, Md.may, M1, M2, cmpU, in_names, ↓reduceIte, Bool.false_eq_true, D.pur, D.up]
  cases hb : M.names.findIdx? (· == x) with
  | some i =>
    have h1 : M.names.any (· == x) = true := by
      obtain ⟨h2, h3⟩ := List.findIdx?_eq_some_iff_findIdx_eq.mp hb
      exact List.any_eq_true.mpr ⟨M.names[i], List.getElem_mem h2, by
        subst h3
        exact List.findIdx_getElem (p := (· == x)) (w := h2)⟩
    have hl : i < M.starts.length := by
      have := (List.findIdx?_eq_some_iff_findIdx_eq.mp hb).1
      have h2 := o.sl
      omega
    have hx : idxU (.tup (M.starts.map eN)) (.int i) = some (eN (M.start x), false) := idx_tup (by
      rw [List.getElem?_map, List.getElem?_eq_getElem hl]
      unfold Ma.start
      rw [hb]
      show some (eN M.starts[i]) = some (eN ((M.starts[i]?).getD 0))
      rw [List.getElem?_eq_getElem hl]
      rfl)
    simp only [h1, rcvU, index_names hb, retV_ok, unpV_ok, bndV_ok, lftV_ok, hx, sqV_rt, unpinV, Bool.not_true, Bool.false_eq_true, ↓reduceIte]
    rfl
  | none =>
    have h1 : M.names.any (· == x) = false := by
      rw [List.findIdx?_eq_none_iff] at hb
      exact List.any_eq_false.mpr fun y hy => by rw [hb y hy]; decide
    have hx : idxU (.tup (M.starts.map eN)) (.int (-1)) = some (eN (M.start x), false) := idx_last (by
      unfold Ma.start
      rw [hb, List.getLast?_map]
      cases hq : M.starts.getLast? with
      | none =>
        have := List.getLast?_eq_none_iff.mp hq
        have h2 := o.sl
        rw [this] at h2
        cases h2
      | some y => rfl)
    simp only [h1, sqV_nx, rdU, List.getElem?_cons_zero, List.getElem?_cons_succ, bndV_ok, lftV_ok, unpV_ok, retV_ok, unpinV, pinV, Md.may, M2, hx, sqV_rt, ↓reduceIte, Bool.false_eq_true]
    rfl
theorem state_of {M : Ma} {k : Nat} (o : M.Ok k) : ∀ (n : Nat) (d : Doc), d.dep < n → callV cfg n 1 [eM M, eD d] = some (.ok (eN (M.sem d), false), [])
  | 0, _, h => absurd h (Nat.not_lt_zero _)
  | n + 1, .node x ks, h => by
    have hk : Doc.deps ks + 1 < n + 1 := h
    obtain ⟨m, rfl⟩ : ∃ m, n = m + 1 := ⟨n - 1, by omega⟩
    rw [c1]
    apply wp_end
    simp only [b1, l1_0, s1_0, s1_1, s1_2, mod_int, fdiv_int, mul_l, mul_r, small64, Int.reduceLT, Int.reduceNeg, decide_true, Bool.and_self, src_t, src_l, src_s, src_z, ev_append, ev_extend, ev_pop, ev_index, ev_join, rcvG_true, rcv_idxT, rcv_idxL, rcv_join, lstV, lstG_some, tmpG_ok, isi_tt, isi_ti, isi_ts, isi_tb, isi_ss, isi_si, isi_st, isi_ii, isi_ib, isi_bi, eq_int, eq_str, ne_str, ne_int, eq_ts, lt_int, le_int, gt_int, ge_int, add_int, sub_int, bi_max2, bi_min2, bi_listL, bi_listT, bi_tuple, bi_tupT, bi_lenT, bi_lenL, slc_lst, slc_tup, rev_lst, ev_lrg, ev_slc11, prtG_some, slcG_ok, isL_int, isL_str, isL_tup, Bool.not_true, Bool.not_false, ss_nil, ss_cons, ex_set, ex_ife, ex_expr, ex_for, ex_whl, ex_ret, ex_retv, retF_own, retF_frz, ex_retN, ev_var, ev_cst, ev_glb, ev_bin, ev_neg, negV_int, ev_cmp, blV_ok, ev_not, notV_bl, iteV_bl, ev_and, ev_or, ev_and1, ev_and2, ev_or1, ev_or2, ev_ife, ev_tup, ev_lst, ev_idx, ev_rev, ev_bi, ev_isi, ev_slc10, ev_slc01, part_int, vs_nil, vs_cons, vl_nil, vl_cons, callR_ok, sizV_0, sizV_1, sizV_2, sizV_5, rdU, List.getElem?_cons_zero, List.getElem?_cons_succ, List.set_cons_zero, List.set_cons_succ, bndV_ok, lftV_ok, unpV_ok, retV_ok, sqV_nx, sqV_rt, unpF_nx, unpF_rt, pin_var, unpin_var, pin_glb, unpin_glb, pin_cst, unpin_cst, pin_bin, unpin_bin, pin_neg, unpin_neg, pin_cmp, unpin_cmp, pin_cmp2, unpin_cmp2, pin_and, unpin_and, pin_or, unpin_or, pin_not, unpin_not, pin_ife, unpin_ife, pin_tup, unpin_tup, pin_lst, unpin_lst, pin_idx, unpin_idx, pin_slc, unpin_slc, pin_rev, unpin_rev, pin_call, unpin_call, pin_bi, unpin_bi, pin_lrg, unpin_lrg, pin_mth, unpin_mth, pin_isi, unpin_isi, pin_comp, unpin_comp, pinS, unpinS, Md.may, ↓reduceIte, Bool.false_eq_true, reduceCtorEq, ne_eq, not_false_eq_true, implies_true, D.pur, D.up, ev_call0 ps1, ev_call0 ps0, D0, D1, start_of o]
    refine wp_for eD ks (fun done e => ∃ q, e = [some (eM M, Md.bor), some (eD (.node x ks), Md.bor), some (eN (M.sems (M.start x) done), Md.frz), q]) rfl ⟨none, rfl⟩ ?_ ?_
    · rintro done y more hl e ⟨q, rfl⟩
      have hy : y ∈ ks := by rw [hl]; simp
      have hs : M.sems (M.start x) done < k := o.sems done (o.start x)
      obtain ⟨r, r1, r2⟩ := row_ix o hs
      refine ⟨_, rfl, ?_⟩
      have hrec := state_of o (m + 1) y (by have := dep_mem hy; omega)
      have hst : M.sems (M.start x) (done ++ [y]) = M.step (M.sems (M.start x) done) (M.sem y) := by rw [sems_append]; rfl
      simp only [mod_int, fdiv_int, mul_l, mul_r, small64, Int.reduceLT, Int.reduceNeg, decide_true, Bool.and_self, src_t, src_l, src_s, src_z, ev_append, ev_extend, ev_pop, ev_index, ev_join, rcvG_true, rcv_idxT, rcv_idxL, rcv_join, lstV, lstG_some, tmpG_ok, isi_tt, isi_ti, isi_ts, isi_tb, isi_ss, isi_si, isi_st, isi_ii, isi_ib, isi_bi, eq_int, eq_str, ne_str, ne_int, eq_ts, lt_int, le_int, gt_int, ge_int, add_int, sub_int, bi_max2, bi_min2, bi_listL, bi_listT, bi_tuple, bi_tupT, bi_lenT, bi_lenL, slc_lst, slc_tup, rev_lst, ev_lrg, ev_slc11, prtG_some, slcG_ok, isL_int, isL_str, isL_tup, Bool.not_true, Bool.not_false, ss_nil, ss_cons, ex_set, ex_ife, ex_expr, ex_for, ex_whl, ex_ret, ex_retv, retF_own, retF_frz, ex_retN, ev_var, ev_cst, ev_glb, ev_bin, ev_neg, negV_int, ev_cmp, blV_ok, ev_not, notV_bl, iteV_bl, ev_and, ev_or, ev_and1, ev_and2, ev_or1, ev_or2, ev_ife, ev_tup, ev_lst, ev_idx, ev_rev, ev_bi, ev_isi, ev_slc10, ev_slc01, part_int, vs_nil, vs_cons, vl_nil, vl_cons, callR_ok, sizV_0, sizV_1, sizV_2, sizV_5, rdU, List.getElem?_cons_zero, List.getElem?_cons_succ, List.set_cons_zero, List.set_cons_succ, bndV_ok, lftV_ok, unpV_ok, retV_ok, sqV_nx, sqV_rt, unpF_nx, unpF_rt, pin_var, unpin_var, pin_glb, unpin_glb, pin_cst, unpin_cst, pin_bin, unpin_bin, pin_neg, unpin_neg, pin_cmp, unpin_cmp, pin_cmp2, unpin_cmp2, pin_and, unpin_and, pin_or, unpin_or, pin_not, unpin_not, pin_ife, unpin_ife, pin_tup, unpin_tup, pin_lst, unpin_lst, pin_idx, unpin_idx, pin_slc, unpin_slc, pin_rev, unpin_rev, pin_call, unpin_call, pin_bi, unpin_bi, pin_lrg, unpin_lrg, pin_mth, unpin_mth, pin_isi, unpin_isi, pin_comp, unpin_comp, pinS, unpinS, Md.may, ↓reduceIte, Bool.false_eq_true, reduceCtorEq, ne_eq, not_false_eq_true, implies_true, D.pur, D.up, M3, r1, ev_call0 ps1, hrec, r2 _ (o.sem y)]
      exact wp_ok ⟨_, by rw [hst]⟩
    · rintro e ⟨q, rfl⟩
      simp only [mod_int, fdiv_int, mul_l, mul_r, small64, Int.reduceLT, Int.reduceNeg, decide_true, Bool.and_self, src_t, src_l, src_s, src_z, ev_append, ev_extend, ev_pop, ev_index, ev_join, rcvG_true, rcv_idxT, rcv_idxL, rcv_join, lstV, lstG_some, tmpG_ok, isi_tt, isi_ti, isi_ts, isi_tb, isi_ss, isi_si, isi_st, isi_ii, isi_ib, isi_bi, eq_int, eq_str, ne_str, ne_int, eq_ts, lt_int, le_int, gt_int, ge_int, add_int, sub_int, bi_max2, bi_min2, bi_listL, bi_listT, bi_tuple, bi_tupT, bi_lenT, bi_lenL, slc_lst, slc_tup, rev_lst, ev_lrg, ev_slc11, prtG_some, slcG_ok, isL_int, isL_str, isL_tup, Bool.not_true, Bool.not_false, ss_nil, ss_cons, ex_set, ex_ife, ex_expr, ex_for, ex_whl, ex_ret, ex_retv, retF_own, retF_frz, ex_retN, ev_var, ev_cst, ev_glb, ev_bin, ev_neg, negV_int, ev_cmp, blV_ok, ev_not, notV_bl, iteV_bl, ev_and, ev_or, ev_and1, ev_and2, ev_or1, ev_or2, ev_ife, ev_tup, ev_lst, ev_idx, ev_rev, ev_bi, ev_isi, ev_slc10, ev_slc01, part_int, vs_nil, vs_cons, vl_nil, vl_cons, callR_ok, sizV_0, sizV_1, sizV_2, sizV_5, rdU, List.getElem?_cons_zero, List.getElem?_cons_succ, List.set_cons_zero, List.set_cons_succ, bndV_ok, lftV_ok, unpV_ok, retV_ok, sqV_nx, sqV_rt, unpF_nx, unpF_rt, pin_var, unpin_var, pin_glb, unpin_glb, pin_cst, unpin_cst, pin_bin, unpin_bin, pin_neg, unpin_neg, pin_cmp, unpin_cmp, pin_cmp2, unpin_cmp2, pin_and, unpin_and, pin_or, unpin_or, pin_not, unpin_not, pin_ife, unpin_ife, pin_tup, unpin_tup, pin_lst, unpin_lst, pin_idx, unpin_idx, pin_slc, unpin_slc, pin_rev, unpin_rev, pin_call, unpin_call, pin_bi, unpin_bi, pin_lrg, unpin_lrg, pin_mth, unpin_mth, pin_isi, unpin_isi, pin_comp, unpin_comp, pinS, unpinS, Md.may, ↓reduceIte, Bool.false_eq_true, reduceCtorEq, ne_eq, not_false_eq_true, implies_true, D.pur, D.up]
      exact wp_ok rfl
theorem way_none {M : Ma} {k n : Nat} (o : M.Ok k) : callV cfg (n + 1) 2 [eM M] = some (.ok (eW (List.range k) (-1), false), []) := by
  have hk : k ≤ 1000000 := by have := o.le; omega
  have hl : (M.steps.map eR).length = k := by rw [List.length_map, o.tl]
  rw [c2]
  apply wp_end
  have h2 : ((List.range k).map eN).length + [U.int (-1)].length ≤ 1000000 := by
    rw [List.length_map, List.length_range, List.length_singleton]
    have := o.le
    omega
  simp only [b2, s2_0, mod_int, fdiv_int, mul_l, mul_r, small64, Int.reduceLT, Int.reduceNeg, decide_true, Bool.and_self, src_t, src_l, src_s, src_z, ev_append, ev_extend, ev_pop, ev_index, ev_join, rcvG_true, rcv_idxT, rcv_idxL, rcv_join, lstV, lstG_some, tmpG_ok, isi_tt, isi_ti, isi_ts, isi_tb, isi_ss, isi_si, isi_st, isi_ii, isi_ib, isi_bi, eq_int, eq_str, ne_str, ne_int, eq_ts, lt_int, le_int, gt_int, ge_int, add_int, sub_int, bi_max2, bi_min2, bi_listL, bi_listT, bi_tuple, bi_tupT, bi_lenT, bi_lenL, slc_lst, slc_tup, rev_lst, ev_lrg, ev_slc11, prtG_some, slcG_ok, isL_int, isL_str, isL_tup, Bool.not_true, Bool.not_false, ss_nil, ss_cons, ex_set, ex_ife, ex_expr, ex_for, ex_whl, ex_ret, ex_retv, retF_own, retF_frz, ex_retN, ev_var, ev_cst, ev_glb, ev_bin, ev_neg, negV_int, ev_cmp, blV_ok, ev_not, notV_bl, iteV_bl, ev_and, ev_or, ev_and1, ev_and2, ev_or1, ev_or2, ev_ife, ev_tup, ev_lst, ev_idx, ev_rev, ev_bi, ev_isi, ev_slc10, ev_slc01, part_int, vs_nil, vs_cons, vl_nil, vl_cons, callR_ok, sizV_0, sizV_1, sizV_2, sizV_5, rdU, List.getElem?_cons_zero, List.getElem?_cons_succ, List.set_cons_zero, List.set_cons_succ, bndV_ok, lftV_ok, unpV_ok, retV_ok, sqV_nx, sqV_rt, unpF_nx, unpF_rt, pin_var, unpin_var, pin_glb, unpin_glb, pin_cst, unpin_cst, pin_bin, unpin_bin, pin_neg, unpin_neg, pin_cmp, unpin_cmp, pin_cmp2, unpin_cmp2, pin_and, unpin_and, pin_or, unpin_or, pin_not, unpin_not, pin_ife, unpin_ife, pin_tup, unpin_tup, pin_lst, unpin_lst, pin_idx, unpin_idx, pin_slc, unpin_slc, pin_rev, unpin_rev, pin_call, unpin_call, pin_bi, unpin_bi, pin_lrg, unpin_lrg, pin_mth, unpin_mth, pin_isi, unpin_isi, pin_comp, unpin_comp, pinS, unpinS, Md.may, ↓reduceIte, Bool.false_eq_true, reduceCtorEq, ne_eq, not_false_eq_true, implies_true, D.pur, D.up, M3, bi_lenT, hl, ev_lrg, range_nat hk, lrgN hk, add_lst h2, bi_tuple]
  exact (wp_ok (by exact end_pur (pur_eW _ _)))
theorem way_one {M : Ma} {k n : Nat} (o : M.Ok k) {s : Nat} (hs : s < k) : callV cfg (n + 1) 3 [eM M, eN s] = some (.ok (eW (M.col k s) s, false), []) := by
  have hc : evV cfg (callV cfg n) x3_0 false [some (eM M, Md.bor), some (eN s, Md.bor), none] = some (.ok (.lst ((M.col k s).map eN), true), [some (eM M, Md.bor), some (eN s, Md.bor), none]) := by
    rw [col_steps o hs, List.map_map]
    unfold x3_0
    refine ev_compM (env0 := [some (eM M, Md.bor), some (eN s, Md.bor), none]) (xs := [.tup (M.steps.map eR)]) eR _ M.steps (by simp only [mod_int, fdiv_int, mul_l, mul_r, small64, Int.reduceLT, Int.reduceNeg, decide_true, Bool.and_self, src_t, src_l, src_s, src_z, ev_append, ev_extend, ev_pop, ev_index, ev_join, rcvG_true, rcv_idxT, rcv_idxL, rcv_join, lstV, lstG_some, tmpG_ok, isi_tt, isi_ti, isi_ts, isi_tb, isi_ss, isi_si, isi_st, isi_ii, isi_ib, isi_bi, eq_int, eq_str, ne_str, ne_int, eq_ts, lt_int, le_int, gt_int, ge_int, add_int, sub_int, bi_max2, bi_min2, bi_listL, bi_listT, bi_tuple, bi_tupT, bi_lenT, bi_lenL, slc_lst, slc_tup, rev_lst, ev_lrg, ev_slc11, prtG_some, slcG_ok, isL_int, isL_str, isL_tup, Bool.not_true, Bool.not_false, ss_nil, ss_cons, ex_set, ex_ife, ex_expr, ex_for, ex_whl, ex_ret, ex_retv, retF_own, retF_frz, ex_retN, ev_var, ev_cst, ev_glb, ev_bin, ev_neg, negV_int, ev_cmp, blV_ok, ev_not, notV_bl, iteV_bl, ev_and, ev_or, ev_and1, ev_and2, ev_or1, ev_or2, ev_ife, ev_tup, ev_lst, ev_idx, ev_rev, ev_bi, ev_isi, ev_slc10, ev_slc01, part_int, vs_nil, vs_cons, vl_nil, vl_cons, callR_ok, sizV_0, sizV_1, sizV_2, sizV_5, rdU, List.getElem?_cons_zero, List.getElem?_cons_succ, List.set_cons_zero, List.set_cons_succ, bndV_ok, lftV_ok, unpV_ok, retV_ok, sqV_nx, sqV_rt, unpF_nx, unpF_rt, pin_var, unpin_var, pin_glb, unpin_glb, pin_cst, unpin_cst, pin_bin, unpin_bin, pin_neg, unpin_neg, pin_cmp, unpin_cmp, pin_cmp2, unpin_cmp2, pin_and, unpin_and, pin_or, unpin_or, pin_not, unpin_not, pin_ife, unpin_ife, pin_tup, unpin_tup, pin_lst, unpin_lst, pin_idx, unpin_idx, pin_slc, unpin_slc, pin_rev, unpin_rev, pin_call, unpin_call, pin_bi, unpin_bi, pin_lrg, unpin_lrg, pin_mth, unpin_mth, pin_isi, unpin_isi, pin_comp, unpin_comp, pinS, unpinS, Md.may, ↓reduceIte, Bool.false_eq_true, reduceCtorEq, ne_eq, not_false_eq_true, implies_true, D.pur, D.up, M3]) rfl (by rw [o.tl]; have := o.le; omega) (fun r hr => ⟨false, ?_⟩) (fun o => rfl)
    simp only [mod_int, fdiv_int, mul_l, mul_r, small64, Int.reduceLT, Int.reduceNeg, decide_true, Bool.and_self, src_t, src_l, src_s, src_z, ev_append, ev_extend, ev_pop, ev_index, ev_join, rcvG_true, rcv_idxT, rcv_idxL, rcv_join, lstV, lstG_some, tmpG_ok, isi_tt, isi_ti, isi_ts, isi_tb, isi_ss, isi_si, isi_st, isi_ii, isi_ib, isi_bi, eq_int, eq_str, ne_str, ne_int, eq_ts, lt_int, le_int, gt_int, ge_int, add_int, sub_int, bi_max2, bi_min2, bi_listL, bi_listT, bi_tuple, bi_tupT, bi_lenT, bi_lenL, slc_lst, slc_tup, rev_lst, ev_lrg, ev_slc11, prtG_some, slcG_ok, isL_int, isL_str, isL_tup, Bool.not_true, Bool.not_false, ss_nil, ss_cons, ex_set, ex_ife, ex_expr, ex_for, ex_whl, ex_ret, ex_retv, retF_own, retF_frz, ex_retN, ev_var, ev_cst, ev_glb, ev_bin, ev_neg, negV_int, ev_cmp, blV_ok, ev_not, notV_bl, iteV_bl, ev_and, ev_or, ev_and1, ev_and2, ev_or1, ev_or2, ev_ife, ev_tup, ev_lst, ev_idx, ev_rev, ev_bi, ev_isi, ev_slc10, ev_slc01, part_int, vs_nil, vs_cons, vl_nil, vl_cons, callR_ok, sizV_0, sizV_1, sizV_2, sizV_5, rdU, List.getElem?_cons_zero, List.getElem?_cons_succ, List.set_cons_zero, List.set_cons_succ, bndV_ok, lftV_ok, unpV_ok, retV_ok, sqV_nx, sqV_rt, unpF_nx, unpF_rt, pin_var, unpin_var, pin_glb, unpin_glb, pin_cst, unpin_cst, pin_bin, unpin_bin, pin_neg, unpin_neg, pin_cmp, unpin_cmp, pin_cmp2, unpin_cmp2, pin_and, unpin_and, pin_or, unpin_or, pin_not, unpin_not, pin_ife, unpin_ife, pin_tup, unpin_tup, pin_lst, unpin_lst, pin_idx, unpin_idx, pin_slc, unpin_slc, pin_rev, unpin_rev, pin_call, unpin_call, pin_bi, unpin_bi, pin_lrg, unpin_lrg, pin_mth, unpin_mth, pin_isi, unpin_isi, pin_comp, unpin_comp, pinS, unpinS, Md.may, ↓reduceIte, Bool.false_eq_true, reduceCtorEq, ne_eq, not_false_eq_true, implies_true, D.pur, D.up, idx_eR (show s < r.length by rw [o.rl r hr]; exact hs)]
    rfl
  have hlen : ((M.col k s).map eN).length + [eN s].length ≤ 1000000 := by
    unfold Ma.col
    rw [List.length_map, List.length_map, List.length_range]
    show k + 1 ≤ 1000000
    have := o.le
    omega
  rw [c3]
  apply wp_end
  simp only [b3, s3_0, px3_0, qx3_0, nx3_0, mod_int, fdiv_int, mul_l, mul_r, small64, Int.reduceLT, Int.reduceNeg, decide_true, Bool.and_self, src_t, src_l, src_s, src_z, ev_append, ev_extend, ev_pop, ev_index, ev_join, rcvG_true, rcv_idxT, rcv_idxL, rcv_join, lstV, lstG_some, tmpG_ok, isi_tt, isi_ti, isi_ts, isi_tb, isi_ss, isi_si, isi_st, isi_ii, isi_ib, isi_bi, eq_int, eq_str, ne_str, ne_int, eq_ts, lt_int, le_int, gt_int, ge_int, add_int, sub_int, bi_max2, bi_min2, bi_listL, bi_listT, bi_tuple, bi_tupT, bi_lenT, bi_lenL, slc_lst, slc_tup, rev_lst, ev_lrg, ev_slc11, prtG_some, slcG_ok, isL_int, isL_str, isL_tup, Bool.not_true, Bool.not_false, ss_nil, ss_cons, ex_set, ex_ife, ex_expr, ex_for, ex_whl, ex_ret, ex_retv, retF_own, retF_frz, ex_retN, ev_var, ev_cst, ev_glb, ev_bin, ev_neg, negV_int, ev_cmp, blV_ok, ev_not, notV_bl, iteV_bl, ev_and, ev_or, ev_and1, ev_and2, ev_or1, ev_or2, ev_ife, ev_tup, ev_lst, ev_idx, ev_rev, ev_bi, ev_isi, ev_slc10, ev_slc01, part_int, vs_nil, vs_cons, vl_nil, vl_cons, callR_ok, sizV_0, sizV_1, sizV_2, sizV_5, rdU, List.getElem?_cons_zero, List.getElem?_cons_succ, List.set_cons_zero, List.set_cons_succ, bndV_ok, lftV_ok, unpV_ok, retV_ok, sqV_nx, sqV_rt, unpF_nx, unpF_rt, pin_var, unpin_var, pin_glb, unpin_glb, pin_cst, unpin_cst, pin_bin, unpin_bin, pin_neg, unpin_neg, pin_cmp, unpin_cmp, pin_cmp2, unpin_cmp2, pin_and, unpin_and, pin_or, unpin_or, pin_not, unpin_not, pin_ife, unpin_ife, pin_tup, unpin_tup, pin_lst, unpin_lst, pin_idx, unpin_idx, pin_slc, unpin_slc, pin_rev, unpin_rev, pin_call, unpin_call, pin_bi, unpin_bi, pin_lrg, unpin_lrg, pin_mth, unpin_mth, pin_isi, unpin_isi, pin_comp, unpin_comp, pinS, unpinS, Md.may, ↓reduceIte, Bool.false_eq_true, reduceCtorEq, ne_eq, not_false_eq_true, implies_true, D.pur, D.up, hc, isL_eN, add_lst hlen, bi_tuple]
  exact (wp_ok (by exact end_pur (pur_eW _ _)))
theorem way_behind {n : Nat} {f g : List Nat} {l m : Int} (hf : ∀ s, s ∈ f → s < g.length) (hl : f.length ≤ 1000) : callV cfg (n + 1) 4 [eW f l, eW g m] = some (.ok (eW (thenL f g) (lastL l m), false), []) := by
  have hc : ∀ q : Int, evV cfg (callV cfg n) x4_0 false [some (eW f l, Md.bor), some (eW g m, Md.bor), some (.int q, Md.frz), none] = some (.ok (.lst ((thenL f g).map eN), true), [some (eW f l, Md.bor), some (eW g m, Md.bor), some (.int q, Md.frz), none]) := fun q => by
    unfold thenL x4_0
    rw [List.map_map]
    have hs0 : slcU (eW f l) none (some (-1)) = some (.tup (f.map eN), false) := slc_init _ _
    refine ev_compM (env0 := [some (eW f l, Md.bor), some (eW g m, Md.bor), some (.int q, Md.frz), none]) (xs := [.tup (f.map eN)]) eN _ f (by simp only [mod_int, fdiv_int, mul_l, mul_r, small64, Int.reduceLT, Int.reduceNeg, decide_true, Bool.and_self, src_t, src_l, src_s, src_z, ev_append, ev_extend, ev_pop, ev_index, ev_join, rcvG_true, rcv_idxT, rcv_idxL, rcv_join, lstV, lstG_some, tmpG_ok, isi_tt, isi_ti, isi_ts, isi_tb, isi_ss, isi_si, isi_st, isi_ii, isi_ib, isi_bi, eq_int, eq_str, ne_str, ne_int, eq_ts, lt_int, le_int, gt_int, ge_int, add_int, sub_int, bi_max2, bi_min2, bi_listL, bi_listT, bi_tuple, bi_tupT, bi_lenT, bi_lenL, slc_lst, slc_tup, rev_lst, ev_lrg, ev_slc11, prtG_some, slcG_ok, isL_int, isL_str, isL_tup, Bool.not_true, Bool.not_false, ss_nil, ss_cons, ex_set, ex_ife, ex_expr, ex_for, ex_whl, ex_ret, ex_retv, retF_own, retF_frz, ex_retN, ev_var, ev_cst, ev_glb, ev_bin, ev_neg, negV_int, ev_cmp, blV_ok, ev_not, notV_bl, iteV_bl, ev_and, ev_or, ev_and1, ev_and2, ev_or1, ev_or2, ev_ife, ev_tup, ev_lst, ev_idx, ev_rev, ev_bi, ev_isi, ev_slc10, ev_slc01, part_int, vs_nil, vs_cons, vl_nil, vl_cons, callR_ok, sizV_0, sizV_1, sizV_2, sizV_5, rdU, List.getElem?_cons_zero, List.getElem?_cons_succ, List.set_cons_zero, List.set_cons_succ, bndV_ok, lftV_ok, unpV_ok, retV_ok, sqV_nx, sqV_rt, unpF_nx, unpF_rt, pin_var, unpin_var, pin_glb, unpin_glb, pin_cst, unpin_cst, pin_bin, unpin_bin, pin_neg, unpin_neg, pin_cmp, unpin_cmp, pin_cmp2, unpin_cmp2, pin_and, unpin_and, pin_or, unpin_or, pin_not, unpin_not, pin_ife, unpin_ife, pin_tup, unpin_tup, pin_lst, unpin_lst, pin_idx, unpin_idx, pin_slc, unpin_slc, pin_rev, unpin_rev, pin_call, unpin_call, pin_bi, unpin_bi, pin_lrg, unpin_lrg, pin_mth, unpin_mth, pin_isi, unpin_isi, pin_comp, unpin_comp, pinS, unpinS, Md.may, ↓reduceIte, Bool.false_eq_true, reduceCtorEq, ne_eq, not_false_eq_true, implies_true, D.pur, D.up, hs0]) rfl (by omega) (fun s hs => ⟨false, ?_⟩) (fun o => rfl)
    simp only [mod_int, fdiv_int, mul_l, mul_r, small64, Int.reduceLT, Int.reduceNeg, decide_true, Bool.and_self, src_t, src_l, src_s, src_z, ev_append, ev_extend, ev_pop, ev_index, ev_join, rcvG_true, rcv_idxT, rcv_idxL, rcv_join, lstV, lstG_some, tmpG_ok, isi_tt, isi_ti, isi_ts, isi_tb, isi_ss, isi_si, isi_st, isi_ii, isi_ib, isi_bi, eq_int, eq_str, ne_str, ne_int, eq_ts, lt_int, le_int, gt_int, ge_int, add_int, sub_int, bi_max2, bi_min2, bi_listL, bi_listT, bi_tuple, bi_tupT, bi_lenT, bi_lenL, slc_lst, slc_tup, rev_lst, ev_lrg, ev_slc11, prtG_some, slcG_ok, isL_int, isL_str, isL_tup, Bool.not_true, Bool.not_false, ss_nil, ss_cons, ex_set, ex_ife, ex_expr, ex_for, ex_whl, ex_ret, ex_retv, retF_own, retF_frz, ex_retN, ev_var, ev_cst, ev_glb, ev_bin, ev_neg, negV_int, ev_cmp, blV_ok, ev_not, notV_bl, iteV_bl, ev_and, ev_or, ev_and1, ev_and2, ev_or1, ev_or2, ev_ife, ev_tup, ev_lst, ev_idx, ev_rev, ev_bi, ev_isi, ev_slc10, ev_slc01, part_int, vs_nil, vs_cons, vl_nil, vl_cons, callR_ok, sizV_0, sizV_1, sizV_2, sizV_5, rdU, List.getElem?_cons_zero, List.getElem?_cons_succ, List.set_cons_zero, List.set_cons_succ, bndV_ok, lftV_ok, unpV_ok, retV_ok, sqV_nx, sqV_rt, unpF_nx, unpF_rt, pin_var, unpin_var, pin_glb, unpin_glb, pin_cst, unpin_cst, pin_bin, unpin_bin, pin_neg, unpin_neg, pin_cmp, unpin_cmp, pin_cmp2, unpin_cmp2, pin_and, unpin_and, pin_or, unpin_or, pin_not, unpin_not, pin_ife, unpin_ife, pin_tup, unpin_tup, pin_lst, unpin_lst, pin_idx, unpin_idx, pin_slc, unpin_slc, pin_rev, unpin_rev, pin_call, unpin_call, pin_bi, unpin_bi, pin_lrg, unpin_lrg, pin_mth, unpin_mth, pin_isi, unpin_isi, pin_comp, unpin_comp, pinS, unpinS, Md.may, ↓reduceIte, Bool.false_eq_true, reduceCtorEq, ne_eq, not_false_eq_true, implies_true, D.pur, D.up, idx_eW (hf s hs)]
    rfl
  have hlen : ∀ q : Int, ((thenL f g).map eN).length + [U.int q].length ≤ 1000000 := fun q => by
    unfold thenL
    rw [List.length_map, List.length_map, List.length_singleton]
    omega
  have w0 : idxU (eW f l) (.int (-1)) = some (.int l, false) := last_app _ _
  have w1 : idxU (eW g m) (.int (-1)) = some (.int m, false) := last_app _ _
  rw [c4]
  apply wp_end
  unfold lastL
  cases h1 : (l == -1) <;> cases h2 : (m == -1) <;> simp only [b4, s4_0, s4_1, s4_2, s4_3, px4_0, qx4_0, nx4_0, mod_int, fdiv_int, mul_l, mul_r, small64, Int.reduceLT, Int.reduceNeg, decide_true, Bool.and_self, src_t, src_l, src_s, src_z, ev_append, ev_extend, ev_pop, ev_index, ev_join, rcvG_true, rcv_idxT, rcv_idxL, rcv_join, lstV, lstG_some, tmpG_ok, isi_tt, isi_ti, isi_ts, isi_tb, isi_ss, isi_si, isi_st, isi_ii, isi_ib, isi_bi, eq_int, eq_str, ne_str, ne_int, eq_ts, lt_int, le_int, gt_int, ge_int, add_int, sub_int, bi_max2, bi_min2, bi_listL, bi_listT, bi_tuple, bi_tupT, bi_lenT, bi_lenL, slc_lst, slc_tup, rev_lst, ev_lrg, ev_slc11, prtG_some, slcG_ok, isL_int, isL_str, isL_tup, Bool.not_true, Bool.not_false, ss_nil, ss_cons, ex_set, ex_ife, ex_expr, ex_for, ex_whl, ex_ret, ex_retv, retF_own, retF_frz, ex_retN, ev_var, ev_cst, ev_glb, ev_bin, ev_neg, negV_int, ev_cmp, blV_ok, ev_not, notV_bl, iteV_bl, ev_and, ev_or, ev_and1, ev_and2, ev_or1, ev_or2, ev_ife, ev_tup, ev_lst, ev_idx, ev_rev, ev_bi, ev_isi, ev_slc10, ev_slc01, part_int, vs_nil, vs_cons, vl_nil, vl_cons, callR_ok, sizV_0, sizV_1, sizV_2, sizV_5, rdU, List.getElem?_cons_zero, List.getElem?_cons_succ, List.set_cons_zero, List.set_cons_succ, bndV_ok, lftV_ok, unpV_ok, retV_ok, sqV_nx, sqV_rt, unpF_nx, unpF_rt, pin_var, unpin_var, pin_glb, unpin_glb, pin_cst, unpin_cst, pin_bin, unpin_bin, pin_neg, unpin_neg, pin_cmp, unpin_cmp, pin_cmp2, unpin_cmp2, pin_and, unpin_and, pin_or, unpin_or, pin_not, unpin_not, pin_ife, unpin_ife, pin_tup, unpin_tup, pin_lst, unpin_lst, pin_idx, unpin_idx, pin_slc, unpin_slc, pin_rev, unpin_rev, pin_call, unpin_call, pin_bi, unpin_bi, pin_lrg, unpin_lrg, pin_mth, unpin_mth, pin_isi, unpin_isi, pin_comp, unpin_comp, pinS, unpinS, Md.may, ↓reduceIte, Bool.false_eq_true, reduceCtorEq, ne_eq, not_false_eq_true, implies_true, D.pur, D.up, w0, w1, eq_int, h1, h2, hc, add_lst (hlen _), bi_tuple, isL_int] <;> exact wp_ok (end_pur (pur_eW _ _))
theorem way_app {M : Ma} {k n : Nat} (o : M.Ok k) (a b : List Doc) : callV cfg (n + 1) 4 [M.way k a, M.way k b] = some (.ok (M.way k (a ++ b), false), []) := by
  unfold Ma.way
  rw [way_behind (fun s hs => by rw [wf_len]; exact wf_mem o hs) (by rw [wf_len]; have := o.le; omega), wf_app o, wl_app]
theorem way_of {M : Ma} {k n : Nat} (o : M.Ok k) (r : List Doc) (h : Doc.deps r < n) : callV cfg (n + 1) 5 [eM M, .tup (r.map eD)] = some (.ok (M.way k r, false), []) := by
  obtain ⟨m, rfl⟩ : ∃ m, n = m + 1 := ⟨n - 1, by omega⟩
  rw [c5]
  apply wp_end
  simp only [b5, l5_0, s5_0, s5_1, s5_2, mod_int, fdiv_int, mul_l, mul_r, small64, Int.reduceLT, Int.reduceNeg, decide_true, Bool.and_self, src_t, src_l, src_s, src_z, ev_append, ev_extend, ev_pop, ev_index, ev_join, rcvG_true, rcv_idxT, rcv_idxL, rcv_join, lstV, lstG_some, tmpG_ok, isi_tt, isi_ti, isi_ts, isi_tb, isi_ss, isi_si, isi_st, isi_ii, isi_ib, isi_bi, eq_int, eq_str, ne_str, ne_int, eq_ts, lt_int, le_int, gt_int, ge_int, add_int, sub_int, bi_max2, bi_min2, bi_listL, bi_listT, bi_tuple, bi_tupT, bi_lenT, bi_lenL, slc_lst, slc_tup, rev_lst, ev_lrg, ev_slc11, prtG_some, slcG_ok, isL_int, isL_str, isL_tup, Bool.not_true, Bool.not_false, ss_nil, ss_cons, ex_set, ex_ife, ex_expr, ex_for, ex_whl, ex_ret, ex_retv, retF_own, retF_frz, ex_retN, ev_var, ev_cst, ev_glb, ev_bin, ev_neg, negV_int, ev_cmp, blV_ok, ev_not, notV_bl, iteV_bl, ev_and, ev_or, ev_and1, ev_and2, ev_or1, ev_or2, ev_ife, ev_tup, ev_lst, ev_idx, ev_rev, ev_bi, ev_isi, ev_slc10, ev_slc01, part_int, vs_nil, vs_cons, vl_nil, vl_cons, callR_ok, sizV_0, sizV_1, sizV_2, sizV_5, rdU, List.getElem?_cons_zero, List.getElem?_cons_succ, List.set_cons_zero, List.set_cons_succ, bndV_ok, lftV_ok, unpV_ok, retV_ok, sqV_nx, sqV_rt, unpF_nx, unpF_rt, pin_var, unpin_var, pin_glb, unpin_glb, pin_cst, unpin_cst, pin_bin, unpin_bin, pin_neg, unpin_neg, pin_cmp, unpin_cmp, pin_cmp2, unpin_cmp2, pin_and, unpin_and, pin_or, unpin_or, pin_not, unpin_not, pin_ife, unpin_ife, pin_tup, unpin_tup, pin_lst, unpin_lst, pin_idx, unpin_idx, pin_slc, unpin_slc, pin_rev, unpin_rev, pin_call, unpin_call, pin_bi, unpin_bi, pin_lrg, unpin_lrg, pin_mth, unpin_mth, pin_isi, unpin_isi, pin_comp, unpin_comp, pinS, unpinS, Md.may, ↓reduceIte, Bool.false_eq_true, reduceCtorEq, ne_eq, not_false_eq_true, implies_true, D.pur, D.up, ev_call0 ps2, way_none o]
  refine wp_for eD r (fun done e => ∃ q, e = [some (eM M, Md.bor), some (.tup (r.map eD), Md.bor), some (M.way k done, Md.frz), q]) rfl ⟨none, by unfold Ma.way; rw [wf_nil]; rfl⟩ ?_ ?_
  · rintro done y more hl e ⟨q, rfl⟩
    have hy : y ∈ r := by rw [hl]; simp
    refine ⟨_, rfl, ?_⟩
    have h1 := state_of o (m + 1) y (by have := dep_mem hy; omega)
    have h2 : callV cfg (m + 1) 3 [eM M, eN (M.sem y)] = some (.ok (M.way k [y], false), []) := way_one o (o.sem y)
    have h3 : callV cfg (m + 1) 4 [M.way k done, M.way k [y]] = some (.ok (M.way k (done ++ [y]), false), []) := way_app o done [y]
    simp only [mod_int, fdiv_int, mul_l, mul_r, small64, Int.reduceLT, Int.reduceNeg, decide_true, Bool.and_self, src_t, src_l, src_s, src_z, ev_append, ev_extend, ev_pop, ev_index, ev_join, rcvG_true, rcv_idxT, rcv_idxL, rcv_join, lstV, lstG_some, tmpG_ok, isi_tt, isi_ti, isi_ts, isi_tb, isi_ss, isi_si, isi_st, isi_ii, isi_ib, isi_bi, eq_int, eq_str, ne_str, ne_int, eq_ts, lt_int, le_int, gt_int, ge_int, add_int, sub_int, bi_max2, bi_min2, bi_listL, bi_listT, bi_tuple, bi_tupT, bi_lenT, bi_lenL, slc_lst, slc_tup, rev_lst, ev_lrg, ev_slc11, prtG_some, slcG_ok, isL_int, isL_str, isL_tup, Bool.not_true, Bool.not_false, ss_nil, ss_cons, ex_set, ex_ife, ex_expr, ex_for, ex_whl, ex_ret, ex_retv, retF_own, retF_frz, ex_retN, ev_var, ev_cst, ev_glb, ev_bin, ev_neg, negV_int, ev_cmp, blV_ok, ev_not, notV_bl, iteV_bl, ev_and, ev_or, ev_and1, ev_and2, ev_or1, ev_or2, ev_ife, ev_tup, ev_lst, ev_idx, ev_rev, ev_bi, ev_isi, ev_slc10, ev_slc01, part_int, vs_nil, vs_cons, vl_nil, vl_cons, callR_ok, sizV_0, sizV_1, sizV_2, sizV_5, rdU, List.getElem?_cons_zero, List.getElem?_cons_succ, List.set_cons_zero, List.set_cons_succ, bndV_ok, lftV_ok, unpV_ok, retV_ok, sqV_nx, sqV_rt, unpF_nx, unpF_rt, pin_var, unpin_var, pin_glb, unpin_glb, pin_cst, unpin_cst, pin_bin, unpin_bin, pin_neg, unpin_neg, pin_cmp, unpin_cmp, pin_cmp2, unpin_cmp2, pin_and, unpin_and, pin_or, unpin_or, pin_not, unpin_not, pin_ife, unpin_ife, pin_tup, unpin_tup, pin_lst, unpin_lst, pin_idx, unpin_idx, pin_slc, unpin_slc, pin_rev, unpin_rev, pin_call, unpin_call, pin_bi, unpin_bi, pin_lrg, unpin_lrg, pin_mth, unpin_mth, pin_isi, unpin_isi, pin_comp, unpin_comp, pinS, unpinS, Md.may, ↓reduceIte, Bool.false_eq_true, reduceCtorEq, ne_eq, not_false_eq_true, implies_true, D.pur, D.up, ev_call0 ps1, ev_call0 ps3, ev_call0 ps4, h1, h2, h3]
    exact wp_ok ⟨_, rfl⟩
  · rintro e ⟨q, rfl⟩
    simp only [mod_int, fdiv_int, mul_l, mul_r, small64, Int.reduceLT, Int.reduceNeg, decide_true, Bool.and_self, src_t, src_l, src_s, src_z, ev_append, ev_extend, ev_pop, ev_index, ev_join, rcvG_true, rcv_idxT, rcv_idxL, rcv_join, lstV, lstG_some, tmpG_ok, isi_tt, isi_ti, isi_ts, isi_tb, isi_ss, isi_si, isi_st, isi_ii, isi_ib, isi_bi, eq_int, eq_str, ne_str, ne_int, eq_ts, lt_int, le_int, gt_int, ge_int, add_int, sub_int, bi_max2, bi_min2, bi_listL, bi_listT, bi_tuple, bi_tupT, bi_lenT, bi_lenL, slc_lst, slc_tup, rev_lst, ev_lrg, ev_slc11, prtG_some, slcG_ok, isL_int, isL_str, isL_tup, Bool.not_true, Bool.not_false, ss_nil, ss_cons, ex_set, ex_ife, ex_expr, ex_for, ex_whl, ex_ret, ex_retv, retF_own, retF_frz, ex_retN, ev_var, ev_cst, ev_glb, ev_bin, ev_neg, negV_int, ev_cmp, blV_ok, ev_not, notV_bl, iteV_bl, ev_and, ev_or, ev_and1, ev_and2, ev_or1, ev_or2, ev_ife, ev_tup, ev_lst, ev_idx, ev_rev, ev_bi, ev_isi, ev_slc10, ev_slc01, part_int, vs_nil, vs_cons, vl_nil, vl_cons, callR_ok, sizV_0, sizV_1, sizV_2, sizV_5, rdU, List.getElem?_cons_zero, List.getElem?_cons_succ, List.set_cons_zero, List.set_cons_succ, bndV_ok, lftV_ok, unpV_ok, retV_ok, sqV_nx, sqV_rt, unpF_nx, unpF_rt, pin_var, unpin_var, pin_glb, unpin_glb, pin_cst, unpin_cst, pin_bin, unpin_bin, pin_neg, unpin_neg, pin_cmp, unpin_cmp, pin_cmp2, unpin_cmp2, pin_and, unpin_and, pin_or, unpin_or, pin_not, unpin_not, pin_ife, unpin_ife, pin_tup, unpin_tup, pin_lst, unpin_lst, pin_idx, unpin_idx, pin_slc, unpin_slc, pin_rev, unpin_rev, pin_call, unpin_call, pin_bi, unpin_bi, pin_lrg, unpin_lrg, pin_mth, unpin_mth, pin_isi, unpin_isi, pin_comp, unpin_comp, pinS, unpinS, Md.may, ↓reduceIte, Bool.false_eq_true, reduceCtorEq, ne_eq, not_false_eq_true, implies_true, D.pur, D.up]
    exact (wp_ok (by exact end_pur (pur_eW _ _)))
theorem cell_at (l : List Int) (k : Nat) (n : Nat) : callV cfg (n + 1) 8 [.rol (l.map .int), .int k] = some (.ok (.int (cellAt l k), false), []) := by
  rw [c8]
  apply wp_end
  by_cases h : k < l.length
  · have h1 : decide ((k : Int) < ((l.map U.int).length : Int)) = true := decide_eq_true (by rw [List.length_map]; omega)
    simp only [b8, s8_0, s8_1, mod_int, fdiv_int, mul_l, mul_r, small64, Int.reduceLT, Int.reduceNeg, decide_true, Bool.and_self, src_t, src_l, src_s, src_z, ev_append, ev_extend, ev_pop, ev_index, ev_join, rcvG_true, rcv_idxT, rcv_idxL, rcv_join, lstV, lstG_some, tmpG_ok, isi_tt, isi_ti, isi_ts, isi_tb, isi_ss, isi_si, isi_st, isi_ii, isi_ib, isi_bi, eq_int, eq_str, ne_str, ne_int, eq_ts, lt_int, le_int, gt_int, ge_int, add_int, sub_int, bi_max2, bi_min2, bi_listL, bi_listT, bi_tuple, bi_tupT, bi_lenT, bi_lenL, slc_lst, slc_tup, rev_lst, ev_lrg, ev_slc11, prtG_some, slcG_ok, isL_int, isL_str, isL_tup, Bool.not_true, Bool.not_false, ss_nil, ss_cons, ex_set, ex_ife, ex_expr, ex_for, ex_whl, ex_ret, ex_retv, retF_own, retF_frz, ex_retN, ev_var, ev_cst, ev_glb, ev_bin, ev_neg, negV_int, ev_cmp, blV_ok, ev_not, notV_bl, iteV_bl, ev_and, ev_or, ev_and1, ev_and2, ev_or1, ev_or2, ev_ife, ev_tup, ev_lst, ev_idx, ev_rev, ev_bi, ev_isi, ev_slc10, ev_slc01, part_int, vs_nil, vs_cons, vl_nil, vl_cons, callR_ok, sizV_0, sizV_1, sizV_2, sizV_5, rdU, List.getElem?_cons_zero, List.getElem?_cons_succ, List.set_cons_zero, List.set_cons_succ, bndV_ok, lftV_ok, unpV_ok, retV_ok, sqV_nx, sqV_rt, unpF_nx, unpF_rt, pin_var, unpin_var, pin_glb, unpin_glb, pin_cst, unpin_cst, pin_bin, unpin_bin, pin_neg, unpin_neg, pin_cmp, unpin_cmp, pin_cmp2, unpin_cmp2, pin_and, unpin_and, pin_or, unpin_or, pin_not, unpin_not, pin_ife, unpin_ife, pin_tup, unpin_tup, pin_lst, unpin_lst, pin_idx, unpin_idx, pin_slc, unpin_slc, pin_rev, unpin_rev, pin_call, unpin_call, pin_bi, unpin_bi, pin_lrg, unpin_lrg, pin_mth, unpin_mth, pin_isi, unpin_isi, pin_comp, unpin_comp, pinS, unpinS, Md.may, ↓reduceIte, Bool.false_eq_true, reduceCtorEq, ne_eq, not_false_eq_true, implies_true, D.pur, D.up, bi_lenR, h1, cellAt_idx h]
    exact wp_ok rfl
  · have h1 : decide ((k : Int) < ((l.map U.int).length : Int)) = false := decide_eq_false (by rw [List.length_map]; omega)
    have h2 : cellAt l k = 0 := by
      unfold cellAt
      rw [List.getElem?_eq_none (by omega)]
      rfl
    simp only [b8, s8_0, s8_1, mod_int, fdiv_int, mul_l, mul_r, small64, Int.reduceLT, Int.reduceNeg, decide_true, Bool.and_self, src_t, src_l, src_s, src_z, ev_append, ev_extend, ev_pop, ev_index, ev_join, rcvG_true, rcv_idxT, rcv_idxL, rcv_join, lstV, lstG_some, tmpG_ok, isi_tt, isi_ti, isi_ts, isi_tb, isi_ss, isi_si, isi_st, isi_ii, isi_ib, isi_bi, eq_int, eq_str, ne_str, ne_int, eq_ts, lt_int, le_int, gt_int, ge_int, add_int, sub_int, bi_max2, bi_min2, bi_listL, bi_listT, bi_tuple, bi_tupT, bi_lenT, bi_lenL, slc_lst, slc_tup, rev_lst, ev_lrg, ev_slc11, prtG_some, slcG_ok, isL_int, isL_str, isL_tup, Bool.not_true, Bool.not_false, ss_nil, ss_cons, ex_set, ex_ife, ex_expr, ex_for, ex_whl, ex_ret, ex_retv, retF_own, retF_frz, ex_retN, ev_var, ev_cst, ev_glb, ev_bin, ev_neg, negV_int, ev_cmp, blV_ok, ev_not, notV_bl, iteV_bl, ev_and, ev_or, ev_and1, ev_and2, ev_or1, ev_or2, ev_ife, ev_tup, ev_lst, ev_idx, ev_rev, ev_bi, ev_isi, ev_slc10, ev_slc01, part_int, vs_nil, vs_cons, vl_nil, vl_cons, callR_ok, sizV_0, sizV_1, sizV_2, sizV_5, rdU, List.getElem?_cons_zero, List.getElem?_cons_succ, List.set_cons_zero, List.set_cons_succ, bndV_ok, lftV_ok, unpV_ok, retV_ok, sqV_nx, sqV_rt, unpF_nx, unpF_rt, pin_var, unpin_var, pin_glb, unpin_glb, pin_cst, unpin_cst, pin_bin, unpin_bin, pin_neg, unpin_neg, pin_cmp, unpin_cmp, pin_cmp2, unpin_cmp2, pin_and, unpin_and, pin_or, unpin_or, pin_not, unpin_not, pin_ife, unpin_ife, pin_tup, unpin_tup, pin_lst, unpin_lst, pin_idx, unpin_idx, pin_slc, unpin_slc, pin_rev, unpin_rev, pin_call, unpin_call, pin_bi, unpin_bi, pin_lrg, unpin_lrg, pin_mth, unpin_mth, pin_isi, unpin_isi, pin_comp, unpin_comp, pinS, unpinS, Md.may, ↓reduceIte, Bool.false_eq_true, reduceCtorEq, ne_eq, not_false_eq_true, implies_true, D.pur, D.up, bi_lenR, h1, h2]
    exact wp_ok rfl
theorem mix (a : Int) (k : Nat) (hk : k < 1000000) (n : Nat) : callV cfg (n + 1) 9 [.int a, .int k] = some (.ok (.int (mixV a k), false), []) := by
  rw [c9]
  apply wp_end
  have k1 : small64 (k : Int) = true := small_of (by omega) (by omega)
  have k2 : ∀ q, binU .mod (.int q) (.int 2147483629) = some (.int (q % 2147483629), false) := fun q => mod_int (by decide)
  have k3 : ∀ q, binU .mod (.int q) (.int 2147483587) = some (.int (q % 2147483587), false) := fun q => mod_int (by decide)
  have k4 : ∀ q, binU .fdiv (.int q) (.int 128) = some (.int (q / 128), false) := fun q => fdiv_int (by decide) (by decide)
  have k5 : ∀ q, binU .mul (.int q) (.int 48271) = some (.int (q * 48271), false) := fun q => mul_r (by decide)
  have k6 : ∀ q, binU .mul (.int 69621) (.int q) = some (.int (69621 * q), false) := fun q => mul_l (by decide)
  have k7 : ∀ q r, binU .mul (.int (q % 2147483629)) (.int r) = some (.int (q % 2147483629 * r), false) := fun q r => mul_l (small_of (by have := Int.emod_nonneg q (show (2147483629 : Int) ≠ 0 by decide); omega) (by have := Int.emod_lt_of_pos q (show (0 : Int) < 2147483629 by decide); omega))
  simp only [b9, s9_0, s9_1, mod_int, fdiv_int, mul_l, mul_r, small64, Int.reduceLT, Int.reduceNeg, decide_true, Bool.and_self, src_t, src_l, src_s, src_z, ev_append, ev_extend, ev_pop, ev_index, ev_join, rcvG_true, rcv_idxT, rcv_idxL, rcv_join, lstV, lstG_some, tmpG_ok, isi_tt, isi_ti, isi_ts, isi_tb, isi_ss, isi_si, isi_st, isi_ii, isi_ib, isi_bi, eq_int, eq_str, ne_str, ne_int, eq_ts, lt_int, le_int, gt_int, ge_int, add_int, sub_int, bi_max2, bi_min2, bi_listL, bi_listT, bi_tuple, bi_tupT, bi_lenT, bi_lenL, slc_lst, slc_tup, rev_lst, ev_lrg, ev_slc11, prtG_some, slcG_ok, isL_int, isL_str, isL_tup, Bool.not_true, Bool.not_false, ss_nil, ss_cons, ex_set, ex_ife, ex_expr, ex_for, ex_whl, ex_ret, ex_retv, retF_own, retF_frz, ex_retN, ev_var, ev_cst, ev_glb, ev_bin, ev_neg, negV_int, ev_cmp, blV_ok, ev_not, notV_bl, iteV_bl, ev_and, ev_or, ev_and1, ev_and2, ev_or1, ev_or2, ev_ife, ev_tup, ev_lst, ev_idx, ev_rev, ev_bi, ev_isi, ev_slc10, ev_slc01, part_int, vs_nil, vs_cons, vl_nil, vl_cons, callR_ok, sizV_0, sizV_1, sizV_2, sizV_5, rdU, List.getElem?_cons_zero, List.getElem?_cons_succ, List.set_cons_zero, List.set_cons_succ, bndV_ok, lftV_ok, unpV_ok, retV_ok, sqV_nx, sqV_rt, unpF_nx, unpF_rt, pin_var, unpin_var, pin_glb, unpin_glb, pin_cst, unpin_cst, pin_bin, unpin_bin, pin_neg, unpin_neg, pin_cmp, unpin_cmp, pin_cmp2, unpin_cmp2, pin_and, unpin_and, pin_or, unpin_or, pin_not, unpin_not, pin_ife, unpin_ife, pin_tup, unpin_tup, pin_lst, unpin_lst, pin_idx, unpin_idx, pin_slc, unpin_slc, pin_rev, unpin_rev, pin_call, unpin_call, pin_bi, unpin_bi, pin_lrg, unpin_lrg, pin_mth, unpin_mth, pin_isi, unpin_isi, pin_comp, unpin_comp, pinS, unpinS, Md.may, ↓reduceIte, Bool.false_eq_true, reduceCtorEq, ne_eq, not_false_eq_true, implies_true, D.pur, D.up, mul_l k1, k2, k3, k4, k5, k6, k7]
  exact wp_ok rfl
theorem tape (a : Int) (m : Nat) (hm : m ≤ 1000) (n : Nat) : ∃ t : List Int, callV cfg (n + 2) 10 [.int a, .int m] = some (.ok (iL t, true), []) := by
  rw [c10]
  apply wp_endE (P := fun r => ∃ t : List Int, r = some (.ok (iL t, true), []))
  have k1 : binU .pow (.int 10) (.int 18) = some (.int 1000000000000000000, false) := by rfl
  have k2 : ∀ q, binU .mod (.int q) (.int 1000003) = some (.int (q % 1000003), false) := fun q => mod_int (by decide)
  have k3 : ∀ q, binU .fdiv (.int q) (.int 1000003) = some (.int (q / 1000003), false) := fun q => fdiv_int (by decide) (by decide)
  simp only [b10, l10_0, s10_0, s10_1, s10_2, s10_3, mod_int, fdiv_int, mul_l, mul_r, small64, Int.reduceLT, Int.reduceNeg, decide_true, Bool.and_self, src_t, src_l, src_s, src_z, ev_append, ev_extend, ev_pop, ev_index, ev_join, rcvG_true, rcv_idxT, rcv_idxL, rcv_join, lstV, lstG_some, tmpG_ok, isi_tt, isi_ti, isi_ts, isi_tb, isi_ss, isi_si, isi_st, isi_ii, isi_ib, isi_bi, eq_int, eq_str, ne_str, ne_int, eq_ts, lt_int, le_int, gt_int, ge_int, add_int, sub_int, bi_max2, bi_min2, bi_listL, bi_listT, bi_tuple, bi_tupT, bi_lenT, bi_lenL, slc_lst, slc_tup, rev_lst, ev_lrg, ev_slc11, prtG_some, slcG_ok, isL_int, isL_str, isL_tup, Bool.not_true, Bool.not_false, ss_nil, ss_cons, ex_set, ex_ife, ex_expr, ex_for, ex_whl, ex_ret, ex_retv, retF_own, retF_frz, ex_retN, ev_var, ev_cst, ev_glb, ev_bin, ev_neg, negV_int, ev_cmp, blV_ok, ev_not, notV_bl, iteV_bl, ev_and, ev_or, ev_and1, ev_and2, ev_or1, ev_or2, ev_ife, ev_tup, ev_lst, ev_idx, ev_rev, ev_bi, ev_isi, ev_slc10, ev_slc01, part_int, vs_nil, vs_cons, vl_nil, vl_cons, callR_ok, sizV_0, sizV_1, sizV_2, sizV_5, rdU, List.getElem?_cons_zero, List.getElem?_cons_succ, List.set_cons_zero, List.set_cons_succ, bndV_ok, lftV_ok, unpV_ok, retV_ok, sqV_nx, sqV_rt, unpF_nx, unpF_rt, pin_var, unpin_var, pin_glb, unpin_glb, pin_cst, unpin_cst, pin_bin, unpin_bin, pin_neg, unpin_neg, pin_cmp, unpin_cmp, pin_cmp2, unpin_cmp2, pin_and, unpin_and, pin_or, unpin_or, pin_not, unpin_not, pin_ife, unpin_ife, pin_tup, unpin_tup, pin_lst, unpin_lst, pin_idx, unpin_idx, pin_slc, unpin_slc, pin_rev, unpin_rev, pin_call, unpin_call, pin_bi, unpin_bi, pin_lrg, unpin_lrg, pin_mth, unpin_mth, pin_isi, unpin_isi, pin_comp, unpin_comp, pinS, unpinS, Md.may, ↓reduceIte, Bool.false_eq_true, reduceCtorEq, ne_eq, not_false_eq_true, implies_true, D.pur, D.up, srcU_rng (show m ≤ 1000000 by omega)]
  refine wp_for (fun (k : Nat) => U.int k) (List.range m) (fun done e => ∃ (t : List Int) (r : Int) (q : Option (U × Md)), t.length = done.length ∧ e = [some (.int a, Md.bor), some (.int m, Md.bor), some (iL t, Md.own), some (.int r, Md.frz), q]) rfl ⟨[], a, none, rfl, rfl⟩ ?_ ?_
  · rintro done k more hl e ⟨t, r, q, ht, rfl⟩
    refine ⟨_, rfl, ?_⟩
    have hk : k < m := by
      have : k ∈ List.range m := by rw [hl]; simp
      exact List.mem_range.mp this
    have hd : done.length < m := by
      have := congrArg List.length hl
      rw [List.length_range, List.length_append, List.length_cons] at this
      omega
    have hlen : (t.map U.int).length < 1000000 := by rw [List.length_map]; omega
    unfold iL
    by_cases hr : (1000000000000000000 : Int) ≤ r
    · simp only [mod_int, fdiv_int, mul_l, mul_r, small64, Int.reduceLT, Int.reduceNeg, decide_true, Bool.and_self, src_t, src_l, src_s, src_z, ev_append, ev_extend, ev_pop, ev_index, ev_join, rcvG_true, rcv_idxT, rcv_idxL, rcv_join, lstV, lstG_some, tmpG_ok, isi_tt, isi_ti, isi_ts, isi_tb, isi_ss, isi_si, isi_st, isi_ii, isi_ib, isi_bi, eq_int, eq_str, ne_str, ne_int, eq_ts, lt_int, le_int, gt_int, ge_int, add_int, sub_int, bi_max2, bi_min2, bi_listL, bi_listT, bi_tuple, bi_tupT, bi_lenT, bi_lenL, slc_lst, slc_tup, rev_lst, ev_lrg, ev_slc11, prtG_some, slcG_ok, isL_int, isL_str, isL_tup, Bool.not_true, Bool.not_false, ss_nil, ss_cons, ex_set, ex_ife, ex_expr, ex_for, ex_whl, ex_ret, ex_retv, retF_own, retF_frz, ex_retN, ev_var, ev_cst, ev_glb, ev_bin, ev_neg, negV_int, ev_cmp, blV_ok, ev_not, notV_bl, iteV_bl, ev_and, ev_or, ev_and1, ev_and2, ev_or1, ev_or2, ev_ife, ev_tup, ev_lst, ev_idx, ev_rev, ev_bi, ev_isi, ev_slc10, ev_slc01, part_int, vs_nil, vs_cons, vl_nil, vl_cons, callR_ok, sizV_0, sizV_1, sizV_2, sizV_5, rdU, List.getElem?_cons_zero, List.getElem?_cons_succ, List.set_cons_zero, List.set_cons_succ, bndV_ok, lftV_ok, unpV_ok, retV_ok, sqV_nx, sqV_rt, unpF_nx, unpF_rt, pin_var, unpin_var, pin_glb, unpin_glb, pin_cst, unpin_cst, pin_bin, unpin_bin, pin_neg, unpin_neg, pin_cmp, unpin_cmp, pin_cmp2, unpin_cmp2, pin_and, unpin_and, pin_or, unpin_or, pin_not, unpin_not, pin_ife, unpin_ife, pin_tup, unpin_tup, pin_lst, unpin_lst, pin_idx, unpin_idx, pin_slc, unpin_slc, pin_rev, unpin_rev, pin_call, unpin_call, pin_bi, unpin_bi, pin_lrg, unpin_lrg, pin_mth, unpin_mth, pin_isi, unpin_isi, pin_comp, unpin_comp, pinS, unpinS, Md.may, ↓reduceIte, Bool.false_eq_true, reduceCtorEq, ne_eq, not_false_eq_true, implies_true, D.pur, D.up, k1, k2, k3, decide_eq_true hr, appG_ok hlen]
      exact wp_ok ⟨t ++ [r % 1000003], _, _, by rw [List.length_append, List.length_append, ht]; rfl, by rw [List.map_append]; rfl⟩
    · simp only [mod_int, fdiv_int, mul_l, mul_r, small64, Int.reduceLT, Int.reduceNeg, decide_true, Bool.and_self, src_t, src_l, src_s, src_z, ev_append, ev_extend, ev_pop, ev_index, ev_join, rcvG_true, rcv_idxT, rcv_idxL, rcv_join, lstV, lstG_some, tmpG_ok, isi_tt, isi_ti, isi_ts, isi_tb, isi_ss, isi_si, isi_st, isi_ii, isi_ib, isi_bi, eq_int, eq_str, ne_str, ne_int, eq_ts, lt_int, le_int, gt_int, ge_int, add_int, sub_int, bi_max2, bi_min2, bi_listL, bi_listT, bi_tuple, bi_tupT, bi_lenT, bi_lenL, slc_lst, slc_tup, rev_lst, ev_lrg, ev_slc11, prtG_some, slcG_ok, isL_int, isL_str, isL_tup, Bool.not_true, Bool.not_false, ss_nil, ss_cons, ex_set, ex_ife, ex_expr, ex_for, ex_whl, ex_ret, ex_retv, retF_own, retF_frz, ex_retN, ev_var, ev_cst, ev_glb, ev_bin, ev_neg, negV_int, ev_cmp, blV_ok, ev_not, notV_bl, iteV_bl, ev_and, ev_or, ev_and1, ev_and2, ev_or1, ev_or2, ev_ife, ev_tup, ev_lst, ev_idx, ev_rev, ev_bi, ev_isi, ev_slc10, ev_slc01, part_int, vs_nil, vs_cons, vl_nil, vl_cons, callR_ok, sizV_0, sizV_1, sizV_2, sizV_5, rdU, List.getElem?_cons_zero, List.getElem?_cons_succ, List.set_cons_zero, List.set_cons_succ, bndV_ok, lftV_ok, unpV_ok, retV_ok, sqV_nx, sqV_rt, unpF_nx, unpF_rt, pin_var, unpin_var, pin_glb, unpin_glb, pin_cst, unpin_cst, pin_bin, unpin_bin, pin_neg, unpin_neg, pin_cmp, unpin_cmp, pin_cmp2, unpin_cmp2, pin_and, unpin_and, pin_or, unpin_or, pin_not, unpin_not, pin_ife, unpin_ife, pin_tup, unpin_tup, pin_lst, unpin_lst, pin_idx, unpin_idx, pin_slc, unpin_slc, pin_rev, unpin_rev, pin_call, unpin_call, pin_bi, unpin_bi, pin_lrg, unpin_lrg, pin_mth, unpin_mth, pin_isi, unpin_isi, pin_comp, unpin_comp, pinS, unpinS, Md.may, ↓reduceIte, Bool.false_eq_true, reduceCtorEq, ne_eq, not_false_eq_true, implies_true, D.pur, D.up, k1, k2, k3, decide_eq_false hr, ev_call0 ps9, mix a k (by omega), appG_ok hlen]
      exact wp_ok ⟨t ++ [mixV a k], _, _, by rw [List.length_append, List.length_append, ht]; rfl, by rw [List.map_append]; rfl⟩
  · rintro e ⟨t, r, q, ht, rfl⟩
    unfold iL
    simp only [mod_int, fdiv_int, mul_l, mul_r, small64, Int.reduceLT, Int.reduceNeg, decide_true, Bool.and_self, src_t, src_l, src_s, src_z, ev_append, ev_extend, ev_pop, ev_index, ev_join, rcvG_true, rcv_idxT, rcv_idxL, rcv_join, lstV, lstG_some, tmpG_ok, isi_tt, isi_ti, isi_ts, isi_tb, isi_ss, isi_si, isi_st, isi_ii, isi_ib, isi_bi, eq_int, eq_str, ne_str, ne_int, eq_ts, lt_int, le_int, gt_int, ge_int, add_int, sub_int, bi_max2, bi_min2, bi_listL, bi_listT, bi_tuple, bi_tupT, bi_lenT, bi_lenL, slc_lst, slc_tup, rev_lst, ev_lrg, ev_slc11, prtG_some, slcG_ok, isL_int, isL_str, isL_tup, Bool.not_true, Bool.not_false, ss_nil, ss_cons, ex_set, ex_ife, ex_expr, ex_for, ex_whl, ex_ret, ex_retv, retF_own, retF_frz, ex_retN, ev_var, ev_cst, ev_glb, ev_bin, ev_neg, negV_int, ev_cmp, blV_ok, ev_not, notV_bl, iteV_bl, ev_and, ev_or, ev_and1, ev_and2, ev_or1, ev_or2, ev_ife, ev_tup, ev_lst, ev_idx, ev_rev, ev_bi, ev_isi, ev_slc10, ev_slc01, part_int, vs_nil, vs_cons, vl_nil, vl_cons, callR_ok, sizV_0, sizV_1, sizV_2, sizV_5, rdU, List.getElem?_cons_zero, List.getElem?_cons_succ, List.set_cons_zero, List.set_cons_succ, bndV_ok, lftV_ok, unpV_ok, retV_ok, sqV_nx, sqV_rt, unpF_nx, unpF_rt, pin_var, unpin_var, pin_glb, unpin_glb, pin_cst, unpin_cst, pin_bin, unpin_bin, pin_neg, unpin_neg, pin_cmp, unpin_cmp, pin_cmp2, unpin_cmp2, pin_and, unpin_and, pin_or, unpin_or, pin_not, unpin_not, pin_ife, unpin_ife, pin_tup, unpin_tup, pin_lst, unpin_lst, pin_idx, unpin_idx, pin_slc, unpin_slc, pin_rev, unpin_rev, pin_call, unpin_call, pin_bi, unpin_bi, pin_lrg, unpin_lrg, pin_mth, unpin_mth, pin_isi, unpin_isi, pin_comp, unpin_comp, pinS, unpinS, Md.may, ↓reduceIte, Bool.false_eq_true, reduceCtorEq, ne_eq, not_false_eq_true, implies_true, D.pur, D.up]
    refine wp_ok ⟨t.reverse, ?_⟩
    rw [← List.map_reverse]
    exact end_lst (purs_int _)
theorem nxt (t : List Int) (m : Nat) (hm : 0 < m) (n : Nat) : callV cfg (n + 1) 11 [iL t, .int m] = some (.ok (.int (nextN t m), false), [t.dropLast.map .int]) := by
  rw [c11]
  apply wp_end
  have hp : ∀ l : List Int, (if U.purs (l.map U.int) = true then Option.map (fun x => l.map U.int :: x) (some []) else none) = some [l.map U.int] := fun l => by rw [if_pos (purs_int l)]; rfl
  unfold iL
  cases he : t.isEmpty with
  | true =>
    have : t = [] := List.isEmpty_iff.mp he
    subst this
    simp only [b11, s11_0, s11_1, mod_int, fdiv_int, mul_l, mul_r, small64, Int.reduceLT, Int.reduceNeg, decide_true, Bool.and_self, src_t, src_l, src_s, src_z, ev_append, ev_extend, ev_pop, ev_index, ev_join, rcvG_true, rcv_idxT, rcv_idxL, rcv_join, lstV, lstG_some, tmpG_ok, isi_tt, isi_ti, isi_ts, isi_tb, isi_ss, isi_si, isi_st, isi_ii, isi_ib, isi_bi, eq_int, eq_str, ne_str, ne_int, eq_ts, lt_int, le_int, gt_int, ge_int, add_int, sub_int, bi_max2, bi_min2, bi_listL, bi_listT, bi_tuple, bi_tupT, bi_lenT, bi_lenL, slc_lst, slc_tup, rev_lst, ev_lrg, ev_slc11, prtG_some, slcG_ok, isL_int, isL_str, isL_tup, Bool.not_true, Bool.not_false, ss_nil, ss_cons, ex_set, ex_ife, ex_expr, ex_for, ex_whl, ex_ret, ex_retv, retF_own, retF_frz, ex_retN, ev_var, ev_cst, ev_glb, ev_bin, ev_neg, negV_int, ev_cmp, blV_ok, ev_not, notV_bl, iteV_bl, ev_and, ev_or, ev_and1, ev_and2, ev_or1, ev_or2, ev_ife, ev_tup, ev_lst, ev_idx, ev_rev, ev_bi, ev_isi, ev_slc10, ev_slc01, part_int, vs_nil, vs_cons, vl_nil, vl_cons, callR_ok, sizV_0, sizV_1, sizV_2, sizV_5, rdU, List.getElem?_cons_zero, List.getElem?_cons_succ, List.set_cons_zero, List.set_cons_succ, bndV_ok, lftV_ok, unpV_ok, retV_ok, sqV_nx, sqV_rt, unpF_nx, unpF_rt, pin_var, unpin_var, pin_glb, unpin_glb, pin_cst, unpin_cst, pin_bin, unpin_bin, pin_neg, unpin_neg, pin_cmp, unpin_cmp, pin_cmp2, unpin_cmp2, pin_and, unpin_and, pin_or, unpin_or, pin_not, unpin_not, pin_ife, unpin_ife, pin_tup, unpin_tup, pin_lst, unpin_lst, pin_idx, unpin_idx, pin_slc, unpin_slc, pin_rev, unpin_rev, pin_call, unpin_call, pin_bi, unpin_bi, pin_lrg, unpin_lrg, pin_mth, unpin_mth, pin_isi, unpin_isi, pin_comp, unpin_comp, pinS, unpinS, Md.may, ↓reduceIte, Bool.false_eq_true, reduceCtorEq, ne_eq, not_false_eq_true, implies_true, D.pur, D.up, ints_nil, he]
    exact wp_ok rfl
  | false =>
    obtain ⟨x, hx⟩ := isEmpty_last he
    have hx' : (t.map U.int).getLast? = some (.int x) := by rw [List.getLast?_map, hx]; rfl
    have hv : (nextN t m : Int) = x % m := by
      rw [← nextN_eq t hm]
      unfold nextV
      rw [hx]
    simp only [b11, s11_0, s11_1, mod_int, fdiv_int, mul_l, mul_r, small64, Int.reduceLT, Int.reduceNeg, decide_true, Bool.and_self, src_t, src_l, src_s, src_z, ev_append, ev_extend, ev_pop, ev_index, ev_join, rcvG_true, rcv_idxT, rcv_idxL, rcv_join, lstV, lstG_some, tmpG_ok, isi_tt, isi_ti, isi_ts, isi_tb, isi_ss, isi_si, isi_st, isi_ii, isi_ib, isi_bi, eq_int, eq_str, ne_str, ne_int, eq_ts, lt_int, le_int, gt_int, ge_int, add_int, sub_int, bi_max2, bi_min2, bi_listL, bi_listT, bi_tuple, bi_tupT, bi_lenT, bi_lenL, slc_lst, slc_tup, rev_lst, ev_lrg, ev_slc11, prtG_some, slcG_ok, isL_int, isL_str, isL_tup, Bool.not_true, Bool.not_false, ss_nil, ss_cons, ex_set, ex_ife, ex_expr, ex_for, ex_whl, ex_ret, ex_retv, retF_own, retF_frz, ex_retN, ev_var, ev_cst, ev_glb, ev_bin, ev_neg, negV_int, ev_cmp, blV_ok, ev_not, notV_bl, iteV_bl, ev_and, ev_or, ev_and1, ev_and2, ev_or1, ev_or2, ev_ife, ev_tup, ev_lst, ev_idx, ev_rev, ev_bi, ev_isi, ev_slc10, ev_slc01, part_int, vs_nil, vs_cons, vl_nil, vl_cons, callR_ok, sizV_0, sizV_1, sizV_2, sizV_5, rdU, List.getElem?_cons_zero, List.getElem?_cons_succ, List.set_cons_zero, List.set_cons_succ, bndV_ok, lftV_ok, unpV_ok, retV_ok, sqV_nx, sqV_rt, unpF_nx, unpF_rt, pin_var, unpin_var, pin_glb, unpin_glb, pin_cst, unpin_cst, pin_bin, unpin_bin, pin_neg, unpin_neg, pin_cmp, unpin_cmp, pin_cmp2, unpin_cmp2, pin_and, unpin_and, pin_or, unpin_or, pin_not, unpin_not, pin_ife, unpin_ife, pin_tup, unpin_tup, pin_lst, unpin_lst, pin_idx, unpin_idx, pin_slc, unpin_slc, pin_rev, unpin_rev, pin_call, unpin_call, pin_bi, unpin_bi, pin_lrg, unpin_lrg, pin_mth, unpin_mth, pin_isi, unpin_isi, pin_comp, unpin_comp, pinS, unpinS, Md.may, ↓reduceIte, Bool.false_eq_true, reduceCtorEq, ne_eq, not_false_eq_true, implies_true, D.pur, D.up, ints_nil, he, popG_ok hx', mod_int (show (0 : Int) < m by omega), hv]
    refine wp_ok ?_
    unfold endV
    dsimp only
    have h1 : (U.int (x % m)).pur = true := rfl
    rw [if_pos h1]
    unfold outsV
    dsimp only [List.getElem?_cons_zero]
    rw [← List.map_dropLast, if_pos (purs_int _)]
    rfl
theorem names (a : Int) (n : Nat) : ∃ ss : List Str, ss.length = 9 ∧ callV cfg (n + 1) 12 [.int a] = some (.ok (sL ss, true), []) := by
  rw [c12]
  apply wp_endE (P := fun r => ∃ ss : List Str, ss.length = 9 ∧ r = some (.ok (sL ss, true), []))
  have b8 : srcU .range [.int 8] = some ((List.range 8).map fun (k : Nat) => U.int k) := srcU_rng (n := 8) (by decide)
  have b9 : srcU .range [.int 9] = some ((List.range 9).map fun (k : Nat) => U.int k) := srcU_rng (n := 9) (by decide)
  have h0 : evV cfg (callV cfg n) x12_0 false [some (.int a, .bor), some (.str "abcdefghijklmnopqrstuvwxyz", .frz), some (.int (a % 26), .frz), none, none, none, none] = some (.ok (.lst (((List.range 8).map fun (k : Nat) => letter (a % 26 + 3 * k)).map .str), true), [some (.int a, .bor), some (.str "abcdefghijklmnopqrstuvwxyz", .frz), some (.int (a % 26), .frz), none, none, none, none]) := by
    unfold x12_0
    rw [List.map_map]
    refine ev_compM (env0 := [some (.int a, .bor), some (.str "abcdefghijklmnopqrstuvwxyz", .frz), some (.int (a % 26), .frz), none, none, none, none]) (xs := [.int 8]) _ _ _ (by simp only [mod_int, fdiv_int, mul_l, mul_r, small64, Int.reduceLT, Int.reduceNeg, decide_true, Bool.and_self, src_t, src_l, src_s, src_z, ev_append, ev_extend, ev_pop, ev_index, ev_join, rcvG_true, rcv_idxT, rcv_idxL, rcv_join, lstV, lstG_some, tmpG_ok, isi_tt, isi_ti, isi_ts, isi_tb, isi_ss, isi_si, isi_st, isi_ii, isi_ib, isi_bi, eq_int, eq_str, ne_str, ne_int, eq_ts, lt_int, le_int, gt_int, ge_int, add_int, sub_int, bi_max2, bi_min2, bi_listL, bi_listT, bi_tuple, bi_tupT, bi_lenT, bi_lenL, slc_lst, slc_tup, rev_lst, ev_lrg, ev_slc11, prtG_some, slcG_ok, isL_int, isL_str, isL_tup, Bool.not_true, Bool.not_false, ss_nil, ss_cons, ex_set, ex_ife, ex_expr, ex_for, ex_whl, ex_ret, ex_retv, retF_own, retF_frz, ex_retN, ev_var, ev_cst, ev_glb, ev_bin, ev_neg, negV_int, ev_cmp, blV_ok, ev_not, notV_bl, iteV_bl, ev_and, ev_or, ev_and1, ev_and2, ev_or1, ev_or2, ev_ife, ev_tup, ev_lst, ev_idx, ev_rev, ev_bi, ev_isi, ev_slc10, ev_slc01, part_int, vs_nil, vs_cons, vl_nil, vl_cons, callR_ok, sizV_0, sizV_1, sizV_2, sizV_5, rdU, List.getElem?_cons_zero, List.getElem?_cons_succ, List.set_cons_zero, List.set_cons_succ, bndV_ok, lftV_ok, unpV_ok, retV_ok, sqV_nx, sqV_rt, unpF_nx, unpF_rt, pin_var, unpin_var, pin_glb, unpin_glb, pin_cst, unpin_cst, pin_bin, unpin_bin, pin_neg, unpin_neg, pin_cmp, unpin_cmp, pin_cmp2, unpin_cmp2, pin_and, unpin_and, pin_or, unpin_or, pin_not, unpin_not, pin_ife, unpin_ife, pin_tup, unpin_tup, pin_lst, unpin_lst, pin_idx, unpin_idx, pin_slc, unpin_slc, pin_rev, unpin_rev, pin_call, unpin_call, pin_bi, unpin_bi, pin_lrg, unpin_lrg, pin_mth, unpin_mth, pin_isi, unpin_isi, pin_comp, unpin_comp, pinS, unpinS, Md.may, ↓reduceIte, Bool.false_eq_true, reduceCtorEq, ne_eq, not_false_eq_true, implies_true, D.pur, D.up]) b8 (by decide) (fun k hk => ⟨false, ?_⟩) (fun o => rfl)
    simp only [mod_int, fdiv_int, mul_l, mul_r, small64, Int.reduceLT, Int.reduceNeg, decide_true, Bool.and_self, src_t, src_l, src_s, src_z, ev_append, ev_extend, ev_pop, ev_index, ev_join, rcvG_true, rcv_idxT, rcv_idxL, rcv_join, lstV, lstG_some, tmpG_ok, isi_tt, isi_ti, isi_ts, isi_tb, isi_ss, isi_si, isi_st, isi_ii, isi_ib, isi_bi, eq_int, eq_str, ne_str, ne_int, eq_ts, lt_int, le_int, gt_int, ge_int, add_int, sub_int, bi_max2, bi_min2, bi_listL, bi_listT, bi_tuple, bi_tupT, bi_lenT, bi_lenL, slc_lst, slc_tup, rev_lst, ev_lrg, ev_slc11, prtG_some, slcG_ok, isL_int, isL_str, isL_tup, Bool.not_true, Bool.not_false, ss_nil, ss_cons, ex_set, ex_ife, ex_expr, ex_for, ex_whl, ex_ret, ex_retv, retF_own, retF_frz, ex_retN, ev_var, ev_cst, ev_glb, ev_bin, ev_neg, negV_int, ev_cmp, blV_ok, ev_not, notV_bl, iteV_bl, ev_and, ev_or, ev_and1, ev_and2, ev_or1, ev_or2, ev_ife, ev_tup, ev_lst, ev_idx, ev_rev, ev_bi, ev_isi, ev_slc10, ev_slc01, part_int, vs_nil, vs_cons, vl_nil, vl_cons, callR_ok, sizV_0, sizV_1, sizV_2, sizV_5, rdU, List.getElem?_cons_zero, List.getElem?_cons_succ, List.set_cons_zero, List.set_cons_succ, bndV_ok, lftV_ok, unpV_ok, retV_ok, sqV_nx, sqV_rt, unpF_nx, unpF_rt, pin_var, unpin_var, pin_glb, unpin_glb, pin_cst, unpin_cst, pin_bin, unpin_bin, pin_neg, unpin_neg, pin_cmp, unpin_cmp, pin_cmp2, unpin_cmp2, pin_and, unpin_and, pin_or, unpin_or, pin_not, unpin_not, pin_ife, unpin_ife, pin_tup, unpin_tup, pin_lst, unpin_lst, pin_idx, unpin_idx, pin_slc, unpin_slc, pin_rev, unpin_rev, pin_call, unpin_call, pin_bi, unpin_bi, pin_lrg, unpin_lrg, pin_mth, unpin_mth, pin_isi, unpin_isi, pin_comp, unpin_comp, pinS, unpinS, Md.may, ↓reduceIte, Bool.false_eq_true, reduceCtorEq, ne_eq, not_false_eq_true, implies_true, D.pur, D.up, letter_ix]
    rfl
  have hs1 : ((((List.range 8).map fun (k : Nat) => letter (a % 26 + 3 * k))).map Str.length).sum = 8 := by
    exact (sum_one (fun (k : Nat) => letter (a % 26 + 3 * k)) (fun k => rfl) (List.range 8)).trans List.length_range
  have hj : ("" : Str).length * ((List.range 8).map fun (k : Nat) => letter (a % 26 + 3 * k)).length + ((((List.range 8).map fun (k : Nat) => letter (a % 26 + 3 * k))).map Str.length).sum ≤ 1000000 := by
    rw [hs1, show ("" : Str).length = 0 from rfl, Nat.zero_mul]
    decide
  obtain ⟨base, hb⟩ : ∃ base, base = Str.join "" ((List.range 8).map fun (k : Nat) => letter (a % 26 + 3 * k)) := ⟨_, rfl⟩
  have hbl : base.length ≤ 8 := by
    rw [hb]
    refine Nat.le_trans (join_le _ _) ?_
    rw [hs1, show ("" : Str).length = 0 from rfl, Nat.zero_mul]
    decide
  have hbm : base.length ≤ 1000000 := by omega
  have hsl : ∀ l h, slcU (.str base) l h = some (.str (cutS base l h), false) := fun l h => slc_str hbm l h
  have hll : ∀ l h, (cutS base l h).length ≤ 8 := fun l h => Nat.le_trans (cutS_length _ _ _) hbl
  simp only [b12, s12_0, s12_1, s12_2, s12_3, s12_4, s12_5, px12_0, qx12_0, nx12_0, px12_1, qx12_1, nx12_1, px12_2, qx12_2, nx12_2, px12_3, qx12_3, nx12_3, mod_int, fdiv_int, mul_l, mul_r, small64, Int.reduceLT, Int.reduceNeg, decide_true, Bool.and_self, src_t, src_l, src_s, src_z, ev_append, ev_extend, ev_pop, ev_index, ev_join, rcvG_true, rcv_idxT, rcv_idxL, rcv_join, lstV, lstG_some, tmpG_ok, isi_tt, isi_ti, isi_ts, isi_tb, isi_ss, isi_si, isi_st, isi_ii, isi_ib, isi_bi, eq_int, eq_str, ne_str, ne_int, eq_ts, lt_int, le_int, gt_int, ge_int, add_int, sub_int, bi_max2, bi_min2, bi_listL, bi_listT, bi_tuple, bi_tupT, bi_lenT, bi_lenL, slc_lst, slc_tup, rev_lst, ev_lrg, ev_slc11, prtG_some, slcG_ok, isL_int, isL_str, isL_tup, Bool.not_true, Bool.not_false, ss_nil, ss_cons, ex_set, ex_ife, ex_expr, ex_for, ex_whl, ex_ret, ex_retv, retF_own, retF_frz, ex_retN, ev_var, ev_cst, ev_glb, ev_bin, ev_neg, negV_int, ev_cmp, blV_ok, ev_not, notV_bl, iteV_bl, ev_and, ev_or, ev_and1, ev_and2, ev_or1, ev_or2, ev_ife, ev_tup, ev_lst, ev_idx, ev_rev, ev_bi, ev_isi, ev_slc10, ev_slc01, part_int, vs_nil, vs_cons, vl_nil, vl_cons, callR_ok, sizV_0, sizV_1, sizV_2, sizV_5, rdU, List.getElem?_cons_zero, List.getElem?_cons_succ, List.set_cons_zero, List.set_cons_succ, bndV_ok, lftV_ok, unpV_ok, retV_ok, sqV_nx, sqV_rt, unpF_nx, unpF_rt, pin_var, unpin_var, pin_glb, unpin_glb, pin_cst, unpin_cst, pin_bin, unpin_bin, pin_neg, unpin_neg, pin_cmp, unpin_cmp, pin_cmp2, unpin_cmp2, pin_and, unpin_and, pin_or, unpin_or, pin_not, unpin_not, pin_ife, unpin_ife, pin_tup, unpin_tup, pin_lst, unpin_lst, pin_idx, unpin_idx, pin_slc, unpin_slc, pin_rev, unpin_rev, pin_call, unpin_call, pin_bi, unpin_bi, pin_lrg, unpin_lrg, pin_mth, unpin_mth, pin_isi, unpin_isi, pin_comp, unpin_comp, pinS, unpinS, Md.may, ↓reduceIte, Bool.false_eq_true, reduceCtorEq, ne_eq, not_false_eq_true, implies_true, D.pur, D.up, h0, join_ok hj, ← hb]
  by_cases e0 : (a / 26 % 3 == 0) = true
  · have h1 : evV cfg (callV cfg n) x12_1 true [some (.int a, .bor), some (.str "abcdefghijklmnopqrstuvwxyz", .frz), some (.int (a % 26), .frz), some (.str base, .frz), some (.int (a / 78 % 8), .frz), some (.int (a / 624 % 26), .frz), none] = some (.ok (.lst (((List.range 9).map fun (k : Nat) => cutS base none (some (a / 78 % 8)) ++ letter (a / 624 % 26 + k) ++ cutS base (some (a / 78 % 8 + 1)) none).map .str), true), [some (.int a, .bor), some (.str "abcdefghijklmnopqrstuvwxyz", .frz), some (.int (a % 26), .frz), some (.str base, .frz), some (.int (a / 78 % 8), .frz), some (.int (a / 624 % 26), .frz), none]) := by
      unfold x12_1
      rw [List.map_map]
      refine ev_compM (env0 := [some (.int a, .bor), some (.str "abcdefghijklmnopqrstuvwxyz", .frz), some (.int (a % 26), .frz), some (.str base, .frz), some (.int (a / 78 % 8), .frz), some (.int (a / 624 % 26), .frz), none]) (xs := [.int 9]) _ _ _ (by simp only [mod_int, fdiv_int, mul_l, mul_r, small64, Int.reduceLT, Int.reduceNeg, decide_true, Bool.and_self, src_t, src_l, src_s, src_z, ev_append, ev_extend, ev_pop, ev_index, ev_join, rcvG_true, rcv_idxT, rcv_idxL, rcv_join, lstV, lstG_some, tmpG_ok, isi_tt, isi_ti, isi_ts, isi_tb, isi_ss, isi_si, isi_st, isi_ii, isi_ib, isi_bi, eq_int, eq_str, ne_str, ne_int, eq_ts, lt_int, le_int, gt_int, ge_int, add_int, sub_int, bi_max2, bi_min2, bi_listL, bi_listT, bi_tuple, bi_tupT, bi_lenT, bi_lenL, slc_lst, slc_tup, rev_lst, ev_lrg, ev_slc11, prtG_some, slcG_ok, isL_int, isL_str, isL_tup, Bool.not_true, Bool.not_false, ss_nil, ss_cons, ex_set, ex_ife, ex_expr, ex_for, ex_whl, ex_ret, ex_retv, retF_own, retF_frz, ex_retN, ev_var, ev_cst, ev_glb, ev_bin, ev_neg, negV_int, ev_cmp, blV_ok, ev_not, notV_bl, iteV_bl, ev_and, ev_or, ev_and1, ev_and2, ev_or1, ev_or2, ev_ife, ev_tup, ev_lst, ev_idx, ev_rev, ev_bi, ev_isi, ev_slc10, ev_slc01, part_int, vs_nil, vs_cons, vl_nil, vl_cons, callR_ok, sizV_0, sizV_1, sizV_2, sizV_5, rdU, List.getElem?_cons_zero, List.getElem?_cons_succ, List.set_cons_zero, List.set_cons_succ, bndV_ok, lftV_ok, unpV_ok, retV_ok, sqV_nx, sqV_rt, unpF_nx, unpF_rt, pin_var, unpin_var, pin_glb, unpin_glb, pin_cst, unpin_cst, pin_bin, unpin_bin, pin_neg, unpin_neg, pin_cmp, unpin_cmp, pin_cmp2, unpin_cmp2, pin_and, unpin_and, pin_or, unpin_or, pin_not, unpin_not, pin_ife, unpin_ife, pin_tup, unpin_tup, pin_lst, unpin_lst, pin_idx, unpin_idx, pin_slc, unpin_slc, pin_rev, unpin_rev, pin_call, unpin_call, pin_bi, unpin_bi, pin_lrg, unpin_lrg, pin_mth, unpin_mth, pin_isi, unpin_isi, pin_comp, unpin_comp, pinS, unpinS, Md.may, ↓reduceIte, Bool.false_eq_true, reduceCtorEq, ne_eq, not_false_eq_true, implies_true, D.pur, D.up]) b9 (by decide) (fun k hk => ⟨false, ?_⟩) (fun o => rfl)
      have g1 : (cutS base none (some (a / 78 % 8))).length + (letter (a / 624 % 26 + k)).length ≤ 1000000 := by
        have := hll none (some (a / 78 % 8))
        have e : (letter (a / 624 % 26 + k)).length = 1 := rfl
        omega
      have g2 : (cutS base none (some (a / 78 % 8)) ++ letter (a / 624 % 26 + k)).length + (cutS base (some (a / 78 % 8 + 1)) none).length ≤ 1000000 := by
        rw [len_app]
        have := hll none (some (a / 78 % 8))
        have := hll (some (a / 78 % 8 + 1)) none
        have e : (letter (a / 624 % 26 + k)).length = 1 := rfl
        omega
      simp only [mod_int, fdiv_int, mul_l, mul_r, small64, Int.reduceLT, Int.reduceNeg, decide_true, Bool.and_self, src_t, src_l, src_s, src_z, ev_append, ev_extend, ev_pop, ev_index, ev_join, rcvG_true, rcv_idxT, rcv_idxL, rcv_join, lstV, lstG_some, tmpG_ok, isi_tt, isi_ti, isi_ts, isi_tb, isi_ss, isi_si, isi_st, isi_ii, isi_ib, isi_bi, eq_int, eq_str, ne_str, ne_int, eq_ts, lt_int, le_int, gt_int, ge_int, add_int, sub_int, bi_max2, bi_min2, bi_listL, bi_listT, bi_tuple, bi_tupT, bi_lenT, bi_lenL, slc_lst, slc_tup, rev_lst, ev_lrg, ev_slc11, prtG_some, slcG_ok, isL_int, isL_str, isL_tup, Bool.not_true, Bool.not_false, ss_nil, ss_cons, ex_set, ex_ife, ex_expr, ex_for, ex_whl, ex_ret, ex_retv, retF_own, retF_frz, ex_retN, ev_var, ev_cst, ev_glb, ev_bin, ev_neg, negV_int, ev_cmp, blV_ok, ev_not, notV_bl, iteV_bl, ev_and, ev_or, ev_and1, ev_and2, ev_or1, ev_or2, ev_ife, ev_tup, ev_lst, ev_idx, ev_rev, ev_bi, ev_isi, ev_slc10, ev_slc01, part_int, vs_nil, vs_cons, vl_nil, vl_cons, callR_ok, sizV_0, sizV_1, sizV_2, sizV_5, rdU, List.getElem?_cons_zero, List.getElem?_cons_succ, List.set_cons_zero, List.set_cons_succ, bndV_ok, lftV_ok, unpV_ok, retV_ok, sqV_nx, sqV_rt, unpF_nx, unpF_rt, pin_var, unpin_var, pin_glb, unpin_glb, pin_cst, unpin_cst, pin_bin, unpin_bin, pin_neg, unpin_neg, pin_cmp, unpin_cmp, pin_cmp2, unpin_cmp2, pin_and, unpin_and, pin_or, unpin_or, pin_not, unpin_not, pin_ife, unpin_ife, pin_tup, unpin_tup, pin_lst, unpin_lst, pin_idx, unpin_idx, pin_slc, unpin_slc, pin_rev, unpin_rev, pin_call, unpin_call, pin_bi, unpin_bi, pin_lrg, unpin_lrg, pin_mth, unpin_mth, pin_isi, unpin_isi, pin_comp, unpin_comp, pinS, unpinS, Md.may, ↓reduceIte, Bool.false_eq_true, reduceCtorEq, ne_eq, not_false_eq_true, implies_true, D.pur, D.up, letter_ix, hsl, add_str g1, add_str g2]
      rfl
    simp only [mod_int, fdiv_int, mul_l, mul_r, small64, Int.reduceLT, Int.reduceNeg, decide_true, Bool.and_self, src_t, src_l, src_s, src_z, ev_append, ev_extend, ev_pop, ev_index, ev_join, rcvG_true, rcv_idxT, rcv_idxL, rcv_join, lstV, lstG_some, tmpG_ok, isi_tt, isi_ti, isi_ts, isi_tb, isi_ss, isi_si, isi_st, isi_ii, isi_ib, isi_bi, eq_int, eq_str, ne_str, ne_int, eq_ts, lt_int, le_int, gt_int, ge_int, add_int, sub_int, bi_max2, bi_min2, bi_listL, bi_listT, bi_tuple, bi_tupT, bi_lenT, bi_lenL, slc_lst, slc_tup, rev_lst, ev_lrg, ev_slc11, prtG_some, slcG_ok, isL_int, isL_str, isL_tup, Bool.not_true, Bool.not_false, ss_nil, ss_cons, ex_set, ex_ife, ex_expr, ex_for, ex_whl, ex_ret, ex_retv, retF_own, retF_frz, ex_retN, ev_var, ev_cst, ev_glb, ev_bin, ev_neg, negV_int, ev_cmp, blV_ok, ev_not, notV_bl, iteV_bl, ev_and, ev_or, ev_and1, ev_and2, ev_or1, ev_or2, ev_ife, ev_tup, ev_lst, ev_idx, ev_rev, ev_bi, ev_isi, ev_slc10, ev_slc01, part_int, vs_nil, vs_cons, vl_nil, vl_cons, callR_ok, sizV_0, sizV_1, sizV_2, sizV_5, rdU, List.getElem?_cons_zero, List.getElem?_cons_succ, List.set_cons_zero, List.set_cons_succ, bndV_ok, lftV_ok, unpV_ok, retV_ok, sqV_nx, sqV_rt, unpF_nx, unpF_rt, pin_var, unpin_var, pin_glb, unpin_glb, pin_cst, unpin_cst, pin_bin, unpin_bin, pin_neg, unpin_neg, pin_cmp, unpin_cmp, pin_cmp2, unpin_cmp2, pin_and, unpin_and, pin_or, unpin_or, pin_not, unpin_not, pin_ife, unpin_ife, pin_tup, unpin_tup, pin_lst, unpin_lst, pin_idx, unpin_idx, pin_slc, unpin_slc, pin_rev, unpin_rev, pin_call, unpin_call, pin_bi, unpin_bi, pin_lrg, unpin_lrg, pin_mth, unpin_mth, pin_isi, unpin_isi, pin_comp, unpin_comp, pinS, unpinS, Md.may, ↓reduceIte, Bool.false_eq_true, reduceCtorEq, ne_eq, not_false_eq_true, implies_true, D.pur, D.up, px12_0, qx12_0, nx12_0, px12_1, qx12_1, nx12_1, px12_2, qx12_2, nx12_2, px12_3, qx12_3, nx12_3, e0, h1]
    exact wp_ok ⟨_, by rw [List.length_map, List.length_range], end_lst (purs_str _)⟩
  · by_cases e1 : (a / 26 % 3 == 1) = true
    · have h1 : evV cfg (callV cfg n) x12_2 false [some (.int a, .bor), some (.str "abcdefghijklmnopqrstuvwxyz", .frz), some (.int (a % 26), .frz), some (.str base, .frz), none, none, none] = some (.ok (.lst (((List.range 8).map fun (k : Nat) => cutS base none (some (k + 1))).map .str), true), [some (.int a, .bor), some (.str "abcdefghijklmnopqrstuvwxyz", .frz), some (.int (a % 26), .frz), some (.str base, .frz), none, none, none]) := by
        unfold x12_2
        rw [List.map_map]
        refine ev_compM (env0 := [some (.int a, .bor), some (.str "abcdefghijklmnopqrstuvwxyz", .frz), some (.int (a % 26), .frz), some (.str base, .frz), none, none, none]) (xs := [.int 8]) _ _ _ (by simp only [mod_int, fdiv_int, mul_l, mul_r, small64, Int.reduceLT, Int.reduceNeg, decide_true, Bool.and_self, src_t, src_l, src_s, src_z, ev_append, ev_extend, ev_pop, ev_index, ev_join, rcvG_true, rcv_idxT, rcv_idxL, rcv_join, lstV, lstG_some, tmpG_ok, isi_tt, isi_ti, isi_ts, isi_tb, isi_ss, isi_si, isi_st, isi_ii, isi_ib, isi_bi, eq_int, eq_str, ne_str, ne_int, eq_ts, lt_int, le_int, gt_int, ge_int, add_int, sub_int, bi_max2, bi_min2, bi_listL, bi_listT, bi_tuple, bi_tupT, bi_lenT, bi_lenL, slc_lst, slc_tup, rev_lst, ev_lrg, ev_slc11, prtG_some, slcG_ok, isL_int, isL_str, isL_tup, Bool.not_true, Bool.not_false, ss_nil, ss_cons, ex_set, ex_ife, ex_expr, ex_for, ex_whl, ex_ret, ex_retv, retF_own, retF_frz, ex_retN, ev_var, ev_cst, ev_glb, ev_bin, ev_neg, negV_int, ev_cmp, blV_ok, ev_not, notV_bl, iteV_bl, ev_and, ev_or, ev_and1, ev_and2, ev_or1, ev_or2, ev_ife, ev_tup, ev_lst, ev_idx, ev_rev, ev_bi, ev_isi, ev_slc10, ev_slc01, part_int, vs_nil, vs_cons, vl_nil, vl_cons, callR_ok, sizV_0, sizV_1, sizV_2, sizV_5, rdU, List.getElem?_cons_zero, List.getElem?_cons_succ, List.set_cons_zero, List.set_cons_succ, bndV_ok, lftV_ok, unpV_ok, retV_ok, sqV_nx, sqV_rt, unpF_nx, unpF_rt, pin_var, unpin_var, pin_glb, unpin_glb, pin_cst, unpin_cst, pin_bin, unpin_bin, pin_neg, unpin_neg, pin_cmp, unpin_cmp, pin_cmp2, unpin_cmp2, pin_and, unpin_and, pin_or, unpin_or, pin_not, unpin_not, pin_ife, unpin_ife, pin_tup, unpin_tup, pin_lst, unpin_lst, pin_idx, unpin_idx, pin_slc, unpin_slc, pin_rev, unpin_rev, pin_call, unpin_call, pin_bi, unpin_bi, pin_lrg, unpin_lrg, pin_mth, unpin_mth, pin_isi, unpin_isi, pin_comp, unpin_comp, pinS, unpinS, Md.may, ↓reduceIte, Bool.false_eq_true, reduceCtorEq, ne_eq, not_false_eq_true, implies_true, D.pur, D.up]) b8 (by decide) (fun k hk => ⟨false, ?_⟩) (fun o => rfl)
        simp only [mod_int, fdiv_int, mul_l, mul_r, small64, Int.reduceLT, Int.reduceNeg, decide_true, Bool.and_self, src_t, src_l, src_s, src_z, ev_append, ev_extend, ev_pop, ev_index, ev_join, rcvG_true, rcv_idxT, rcv_idxL, rcv_join, lstV, lstG_some, tmpG_ok, isi_tt, isi_ti, isi_ts, isi_tb, isi_ss, isi_si, isi_st, isi_ii, isi_ib, isi_bi, eq_int, eq_str, ne_str, ne_int, eq_ts, lt_int, le_int, gt_int, ge_int, add_int, sub_int, bi_max2, bi_min2, bi_listL, bi_listT, bi_tuple, bi_tupT, bi_lenT, bi_lenL, slc_lst, slc_tup, rev_lst, ev_lrg, ev_slc11, prtG_some, slcG_ok, isL_int, isL_str, isL_tup, Bool.not_true, Bool.not_false, ss_nil, ss_cons, ex_set, ex_ife, ex_expr, ex_for, ex_whl, ex_ret, ex_retv, retF_own, retF_frz, ex_retN, ev_var, ev_cst, ev_glb, ev_bin, ev_neg, negV_int, ev_cmp, blV_ok, ev_not, notV_bl, iteV_bl, ev_and, ev_or, ev_and1, ev_and2, ev_or1, ev_or2, ev_ife, ev_tup, ev_lst, ev_idx, ev_rev, ev_bi, ev_isi, ev_slc10, ev_slc01, part_int, vs_nil, vs_cons, vl_nil, vl_cons, callR_ok, sizV_0, sizV_1, sizV_2, sizV_5, rdU, List.getElem?_cons_zero, List.getElem?_cons_succ, List.set_cons_zero, List.set_cons_succ, bndV_ok, lftV_ok, unpV_ok, retV_ok, sqV_nx, sqV_rt, unpF_nx, unpF_rt, pin_var, unpin_var, pin_glb, unpin_glb, pin_cst, unpin_cst, pin_bin, unpin_bin, pin_neg, unpin_neg, pin_cmp, unpin_cmp, pin_cmp2, unpin_cmp2, pin_and, unpin_and, pin_or, unpin_or, pin_not, unpin_not, pin_ife, unpin_ife, pin_tup, unpin_tup, pin_lst, unpin_lst, pin_idx, unpin_idx, pin_slc, unpin_slc, pin_rev, unpin_rev, pin_call, unpin_call, pin_bi, unpin_bi, pin_lrg, unpin_lrg, pin_mth, unpin_mth, pin_isi, unpin_isi, pin_comp, unpin_comp, pinS, unpinS, Md.may, ↓reduceIte, Bool.false_eq_true, reduceCtorEq, ne_eq, not_false_eq_true, implies_true, D.pur, D.up, hsl]
        rfl
      have g : (((List.range 8).map fun (k : Nat) => cutS base none (some (k + 1))).map U.str).length + [U.str (cutS base (some 1) none)].length ≤ 1000000 := by
        rw [List.length_map, List.length_map, List.length_range]
        show 8 + 1 ≤ 1000000
        decide
      simp only [mod_int, fdiv_int, mul_l, mul_r, small64, Int.reduceLT, Int.reduceNeg, decide_true, Bool.and_self, src_t, src_l, src_s, src_z, ev_append, ev_extend, ev_pop, ev_index, ev_join, rcvG_true, rcv_idxT, rcv_idxL, rcv_join, lstV, lstG_some, tmpG_ok, isi_tt, isi_ti, isi_ts, isi_tb, isi_ss, isi_si, isi_st, isi_ii, isi_ib, isi_bi, eq_int, eq_str, ne_str, ne_int, eq_ts, lt_int, le_int, gt_int, ge_int, add_int, sub_int, bi_max2, bi_min2, bi_listL, bi_listT, bi_tuple, bi_tupT, bi_lenT, bi_lenL, slc_lst, slc_tup, rev_lst, ev_lrg, ev_slc11, prtG_some, slcG_ok, isL_int, isL_str, isL_tup, Bool.not_true, Bool.not_false, ss_nil, ss_cons, ex_set, ex_ife, ex_expr, ex_for, ex_whl, ex_ret, ex_retv, retF_own, retF_frz, ex_retN, ev_var, ev_cst, ev_glb, ev_bin, ev_neg, negV_int, ev_cmp, blV_ok, ev_not, notV_bl, iteV_bl, ev_and, ev_or, ev_and1, ev_and2, ev_or1, ev_or2, ev_ife, ev_tup, ev_lst, ev_idx, ev_rev, ev_bi, ev_isi, ev_slc10, ev_slc01, part_int, vs_nil, vs_cons, vl_nil, vl_cons, callR_ok, sizV_0, sizV_1, sizV_2, sizV_5, rdU, List.getElem?_cons_zero, List.getElem?_cons_succ, List.set_cons_zero, List.set_cons_succ, bndV_ok, lftV_ok, unpV_ok, retV_ok, sqV_nx, sqV_rt, unpF_nx, unpF_rt, pin_var, unpin_var, pin_glb, unpin_glb, pin_cst, unpin_cst, pin_bin, unpin_bin, pin_neg, unpin_neg, pin_cmp, unpin_cmp, pin_cmp2, unpin_cmp2, pin_and, unpin_and, pin_or, unpin_or, pin_not, unpin_not, pin_ife, unpin_ife, pin_tup, unpin_tup, pin_lst, unpin_lst, pin_idx, unpin_idx, pin_slc, unpin_slc, pin_rev, unpin_rev, pin_call, unpin_call, pin_bi, unpin_bi, pin_lrg, unpin_lrg, pin_mth, unpin_mth, pin_isi, unpin_isi, pin_comp, unpin_comp, pinS, unpinS, Md.may, ↓reduceIte, Bool.false_eq_true, reduceCtorEq, ne_eq, not_false_eq_true, implies_true, D.pur, D.up, px12_0, qx12_0, nx12_0, px12_1, qx12_1, nx12_1, px12_2, qx12_2, nx12_2, px12_3, qx12_3, nx12_3, e0, e1, h1, hsl, add_lst g]
      exact wp_ok ⟨((List.range 8).map fun (k : Nat) => cutS base none (some (k + 1))) ++ [cutS base (some 1) none], by rw [List.length_append, List.length_map, List.length_range]; rfl, by
        unfold sL
        rw [List.map_append]
        refine end_lst (xs := List.map U.str _ ++ [U.str _]) ?_
        rw [env_map]
        exact purs_str _⟩
    · have h1 : evV cfg (callV cfg n) x12_3 true [some (.int a, .bor), some (.str "abcdefghijklmnopqrstuvwxyz", .frz), some (.int (a % 26), .frz), some (.str base, .frz), none, none, none] = some (.ok (.lst (((List.range 9).map fun (k : Nat) => letter (a % 26 + 5 * k)).map .str), true), [some (.int a, .bor), some (.str "abcdefghijklmnopqrstuvwxyz", .frz), some (.int (a % 26), .frz), some (.str base, .frz), none, none, none]) := by
        unfold x12_3
        rw [List.map_map]
        refine ev_compM (env0 := [some (.int a, .bor), some (.str "abcdefghijklmnopqrstuvwxyz", .frz), some (.int (a % 26), .frz), some (.str base, .frz), none, none, none]) (xs := [.int 9]) _ _ _ (by simp only [mod_int, fdiv_int, mul_l, mul_r, small64, Int.reduceLT, Int.reduceNeg, decide_true, Bool.and_self, src_t, src_l, src_s, src_z, ev_append, ev_extend, ev_pop, ev_index, ev_join, rcvG_true, rcv_idxT, rcv_idxL, rcv_join, lstV, lstG_some, tmpG_ok, isi_tt, isi_ti, isi_ts, isi_tb, isi_ss, isi_si, isi_st, isi_ii, isi_ib, isi_bi, eq_int, eq_str, ne_str, ne_int, eq_ts, lt_int, le_int, gt_int, ge_int, add_int, sub_int, bi_max2, bi_min2, bi_listL, bi_listT, bi_tuple, bi_tupT, bi_lenT, bi_lenL, slc_lst, slc_tup, rev_lst, ev_lrg, ev_slc11, prtG_some, slcG_ok, isL_int, isL_str, isL_tup, Bool.not_true, Bool.not_false, ss_nil, ss_cons, ex_set, ex_ife, ex_expr, ex_for, ex_whl, ex_ret, ex_retv, retF_own, retF_frz, ex_retN, ev_var, ev_cst, ev_glb, ev_bin, ev_neg, negV_int, ev_cmp, blV_ok, ev_not, notV_bl, iteV_bl, ev_and, ev_or, ev_and1, ev_and2, ev_or1, ev_or2, ev_ife, ev_tup, ev_lst, ev_idx, ev_rev, ev_bi, ev_isi, ev_slc10, ev_slc01, part_int, vs_nil, vs_cons, vl_nil, vl_cons, callR_ok, sizV_0, sizV_1, sizV_2, sizV_5, rdU, List.getElem?_cons_zero, List.getElem?_cons_succ, List.set_cons_zero, List.set_cons_succ, bndV_ok, lftV_ok, unpV_ok, retV_ok, sqV_nx, sqV_rt, unpF_nx, unpF_rt, pin_var, unpin_var, pin_glb, unpin_glb, pin_cst, unpin_cst, pin_bin, unpin_bin, pin_neg, unpin_neg, pin_cmp, unpin_cmp, pin_cmp2, unpin_cmp2, pin_and, unpin_and, pin_or, unpin_or, pin_not, unpin_not, pin_ife, unpin_ife, pin_tup, unpin_tup, pin_lst, unpin_lst, pin_idx, unpin_idx, pin_slc, unpin_slc, pin_rev, unpin_rev, pin_call, unpin_call, pin_bi, unpin_bi, pin_lrg, unpin_lrg, pin_mth, unpin_mth, pin_isi, unpin_isi, pin_comp, unpin_comp, pinS, unpinS, Md.may, ↓reduceIte, Bool.false_eq_true, reduceCtorEq, ne_eq, not_false_eq_true, implies_true, D.pur, D.up]) b9 (by decide) (fun k hk => ⟨false, ?_⟩) (fun o => rfl)
        simp only [mod_int, fdiv_int, mul_l, mul_r, small64, Int.reduceLT, Int.reduceNeg, decide_true, Bool.and_self, src_t, src_l, src_s, src_z, ev_append, ev_extend, ev_pop, ev_index, ev_join, rcvG_true, rcv_idxT, rcv_idxL, rcv_join, lstV, lstG_some, tmpG_ok, isi_tt, isi_ti, isi_ts, isi_tb, isi_ss, isi_si, isi_st, isi_ii, isi_ib, isi_bi, eq_int, eq_str, ne_str, ne_int, eq_ts, lt_int, le_int, gt_int, ge_int, add_int, sub_int, bi_max2, bi_min2, bi_listL, bi_listT, bi_tuple, bi_tupT, bi_lenT, bi_lenL, slc_lst, slc_tup, rev_lst, ev_lrg, ev_slc11, prtG_some, slcG_ok, isL_int, isL_str, isL_tup, Bool.not_true, Bool.not_false, ss_nil, ss_cons, ex_set, ex_ife, ex_expr, ex_for, ex_whl, ex_ret, ex_retv, retF_own, retF_frz, ex_retN, ev_var, ev_cst, ev_glb, ev_bin, ev_neg, negV_int, ev_cmp, blV_ok, ev_not, notV_bl, iteV_bl, ev_and, ev_or, ev_and1, ev_and2, ev_or1, ev_or2, ev_ife, ev_tup, ev_lst, ev_idx, ev_rev, ev_bi, ev_isi, ev_slc10, ev_slc01, part_int, vs_nil, vs_cons, vl_nil, vl_cons, callR_ok, sizV_0, sizV_1, sizV_2, sizV_5, rdU, List.getElem?_cons_zero, List.getElem?_cons_succ, List.set_cons_zero, List.set_cons_succ, bndV_ok, lftV_ok, unpV_ok, retV_ok, sqV_nx, sqV_rt, unpF_nx, unpF_rt, pin_var, unpin_var, pin_glb, unpin_glb, pin_cst, unpin_cst, pin_bin, unpin_bin, pin_neg, unpin_neg, pin_cmp, unpin_cmp, pin_cmp2, unpin_cmp2, pin_and, unpin_and, pin_or, unpin_or, pin_not, unpin_not, pin_ife, unpin_ife, pin_tup, unpin_tup, pin_lst, unpin_lst, pin_idx, unpin_idx, pin_slc, unpin_slc, pin_rev, unpin_rev, pin_call, unpin_call, pin_bi, unpin_bi, pin_lrg, unpin_lrg, pin_mth, unpin_mth, pin_isi, unpin_isi, pin_comp, unpin_comp, pinS, unpinS, Md.may, ↓reduceIte, Bool.false_eq_true, reduceCtorEq, ne_eq, not_false_eq_true, implies_true, D.pur, D.up, letter_ix]
        rfl
      simp only [mod_int, fdiv_int, mul_l, mul_r, small64, Int.reduceLT, Int.reduceNeg, decide_true, Bool.and_self, src_t, src_l, src_s, src_z, ev_append, ev_extend, ev_pop, ev_index, ev_join, rcvG_true, rcv_idxT, rcv_idxL, rcv_join, lstV, lstG_some, tmpG_ok, isi_tt, isi_ti, isi_ts, isi_tb, isi_ss, isi_si, isi_st, isi_ii, isi_ib, isi_bi, eq_int, eq_str, ne_str, ne_int, eq_ts, lt_int, le_int, gt_int, ge_int, add_int, sub_int, bi_max2, bi_min2, bi_listL, bi_listT, bi_tuple, bi_tupT, bi_lenT, bi_lenL, slc_lst, slc_tup, rev_lst, ev_lrg, ev_slc11, prtG_some, slcG_ok, isL_int, isL_str, isL_tup, Bool.not_true, Bool.not_false, ss_nil, ss_cons, ex_set, ex_ife, ex_expr, ex_for, ex_whl, ex_ret, ex_retv, retF_own, retF_frz, ex_retN, ev_var, ev_cst, ev_glb, ev_bin, ev_neg, negV_int, ev_cmp, blV_ok, ev_not, notV_bl, iteV_bl, ev_and, ev_or, ev_and1, ev_and2, ev_or1, ev_or2, ev_ife, ev_tup, ev_lst, ev_idx, ev_rev, ev_bi, ev_isi, ev_slc10, ev_slc01, part_int, vs_nil, vs_cons, vl_nil, vl_cons, callR_ok, sizV_0, sizV_1, sizV_2, sizV_5, rdU, List.getElem?_cons_zero, List.getElem?_cons_succ, List.set_cons_zero, List.set_cons_succ, bndV_ok, lftV_ok, unpV_ok, retV_ok, sqV_nx, sqV_rt, unpF_nx, unpF_rt, pin_var, unpin_var, pin_glb, unpin_glb, pin_cst, unpin_cst, pin_bin, unpin_bin, pin_neg, unpin_neg, pin_cmp, unpin_cmp, pin_cmp2, unpin_cmp2, pin_and, unpin_and, pin_or, unpin_or, pin_not, unpin_not, pin_ife, unpin_ife, pin_tup, unpin_tup, pin_lst, unpin_lst, pin_idx, unpin_idx, pin_slc, unpin_slc, pin_rev, unpin_rev, pin_call, unpin_call, pin_bi, unpin_bi, pin_lrg, unpin_lrg, pin_mth, unpin_mth, pin_isi, unpin_isi, pin_comp, unpin_comp, pinS, unpinS, Md.may, ↓reduceIte, Bool.false_eq_true, reduceCtorEq, ne_eq, not_false_eq_true, implies_true, D.pur, D.up, px12_0, qx12_0, nx12_0, px12_1, qx12_1, nx12_1, px12_2, qx12_2, nx12_2, px12_3, qx12_3, nx12_3, e0, e1, h1]
      exact wp_ok ⟨_, by rw [List.length_map, List.length_range], end_lst (purs_str _)⟩
theorem way_filled {M : Ma} {k : Nat} (o : M.Ok k) (r : List Doc) : ∀ (n : Nat) (its : List It), 2 * It.deps its + 2 ≤ n → callV cfg n 7 [eM M, .tup (its.map eI), M.way k r] = some (.ok (M.way k (It.fulls r its), false), [])
  | 0, _, h => absurd h (by omega)
  | 1, _, h => absurd h (by omega)
  | n + 2, its, h => by
    rw [c7]
    apply wp_end
    simp only [b7, l7_0, s7_0, s7_1, s7_2, mod_int, fdiv_int, mul_l, mul_r, small64, Int.reduceLT, Int.reduceNeg, decide_true, Bool.and_self, src_t, src_l, src_s, src_z, ev_append, ev_extend, ev_pop, ev_index, ev_join, rcvG_true, rcv_idxT, rcv_idxL, rcv_join, lstV, lstG_some, tmpG_ok, isi_tt, isi_ti, isi_ts, isi_tb, isi_ss, isi_si, isi_st, isi_ii, isi_ib, isi_bi, eq_int, eq_str, ne_str, ne_int, eq_ts, lt_int, le_int, gt_int, ge_int, add_int, sub_int, bi_max2, bi_min2, bi_listL, bi_listT, bi_tuple, bi_tupT, bi_lenT, bi_lenL, slc_lst, slc_tup, rev_lst, ev_lrg, ev_slc11, prtG_some, slcG_ok, isL_int, isL_str, isL_tup, Bool.not_true, Bool.not_false, ss_nil, ss_cons, ex_set, ex_ife, ex_expr, ex_for, ex_whl, ex_ret, ex_retv, retF_own, retF_frz, ex_retN, ev_var, ev_cst, ev_glb, ev_bin, ev_neg, negV_int, ev_cmp, blV_ok, ev_not, notV_bl, iteV_bl, ev_and, ev_or, ev_and1, ev_and2, ev_or1, ev_or2, ev_ife, ev_tup, ev_lst, ev_idx, ev_rev, ev_bi, ev_isi, ev_slc10, ev_slc01, part_int, vs_nil, vs_cons, vl_nil, vl_cons, callR_ok, sizV_0, sizV_1, sizV_2, sizV_5, rdU, List.getElem?_cons_zero, List.getElem?_cons_succ, List.set_cons_zero, List.set_cons_succ, bndV_ok, lftV_ok, unpV_ok, retV_ok, sqV_nx, sqV_rt, unpF_nx, unpF_rt, pin_var, unpin_var, pin_glb, unpin_glb, pin_cst, unpin_cst, pin_bin, unpin_bin, pin_neg, unpin_neg, pin_cmp, unpin_cmp, pin_cmp2, unpin_cmp2, pin_and, unpin_and, pin_or, unpin_or, pin_not, unpin_not, pin_ife, unpin_ife, pin_tup, unpin_tup, pin_lst, unpin_lst, pin_idx, unpin_idx, pin_slc, unpin_slc, pin_rev, unpin_rev, pin_call, unpin_call, pin_bi, unpin_bi, pin_lrg, unpin_lrg, pin_mth, unpin_mth, pin_isi, unpin_isi, pin_comp, unpin_comp, pinS, unpinS, Md.may, ↓reduceIte, Bool.false_eq_true, reduceCtorEq, ne_eq, not_false_eq_true, implies_true, D.pur, D.up, ev_call0 ps2, way_none o]
    refine wp_for eI its (fun done e => ∃ q, e = [some (eM M, Md.bor), some (.tup (its.map eI), Md.bor), some (M.way k r, Md.bor), some (M.way k (It.fulls r done), Md.frz), q]) rfl ⟨none, by unfold Ma.way; rw [show It.fulls r [] = [] from rfl, wf_nil]; rfl⟩ ?_ ?_
    · rintro done y more hl e ⟨q, rfl⟩
      have hy : y ∈ its := by rw [hl]; simp
      refine ⟨_, rfl, ?_⟩
      have hcon : cfg.consts[0]? = some (D.str "*") := rfl
      have hisL : (M.way k r).isL = false := rfl
      cases y with
      | hole =>
        have h3 : callV cfg (n + 1) 4 [M.way k (It.fulls r done), M.way k r] = some (.ok (M.way k (It.fulls r done ++ r), false), []) := way_app o _ r
        simp only [mod_int, fdiv_int, mul_l, mul_r, small64, Int.reduceLT, Int.reduceNeg, decide_true, Bool.and_self, src_t, src_l, src_s, src_z, ev_append, ev_extend, ev_pop, ev_index, ev_join, rcvG_true, rcv_idxT, rcv_idxL, rcv_join, lstV, lstG_some, tmpG_ok, isi_tt, isi_ti, isi_ts, isi_tb, isi_ss, isi_si, isi_st, isi_ii, isi_ib, isi_bi, eq_int, eq_str, ne_str, ne_int, eq_ts, lt_int, le_int, gt_int, ge_int, add_int, sub_int, bi_max2, bi_min2, bi_listL, bi_listT, bi_tuple, bi_tupT, bi_lenT, bi_lenL, slc_lst, slc_tup, rev_lst, ev_lrg, ev_slc11, prtG_some, slcG_ok, isL_int, isL_str, isL_tup, Bool.not_true, Bool.not_false, ss_nil, ss_cons, ex_set, ex_ife, ex_expr, ex_for, ex_whl, ex_ret, ex_retv, retF_own, retF_frz, ex_retN, ev_var, ev_cst, ev_glb, ev_bin, ev_neg, negV_int, ev_cmp, blV_ok, ev_not, notV_bl, iteV_bl, ev_and, ev_or, ev_and1, ev_and2, ev_or1, ev_or2, ev_ife, ev_tup, ev_lst, ev_idx, ev_rev, ev_bi, ev_isi, ev_slc10, ev_slc01, part_int, vs_nil, vs_cons, vl_nil, vl_cons, callR_ok, sizV_0, sizV_1, sizV_2, sizV_5, rdU, List.getElem?_cons_zero, List.getElem?_cons_succ, List.set_cons_zero, List.set_cons_succ, bndV_ok, lftV_ok, unpV_ok, retV_ok, sqV_nx, sqV_rt, unpF_nx, unpF_rt, pin_var, unpin_var, pin_glb, unpin_glb, pin_cst, unpin_cst, pin_bin, unpin_bin, pin_neg, unpin_neg, pin_cmp, unpin_cmp, pin_cmp2, unpin_cmp2, pin_and, unpin_and, pin_or, unpin_or, pin_not, unpin_not, pin_ife, unpin_ife, pin_tup, unpin_tup, pin_lst, unpin_lst, pin_idx, unpin_idx, pin_slc, unpin_slc, pin_rev, unpin_rev, pin_call, unpin_call, pin_bi, unpin_bi, pin_lrg, unpin_lrg, pin_mth, unpin_mth, pin_isi, unpin_isi, pin_comp, unpin_comp, pinS, unpinS, Md.may, ↓reduceIte, Bool.false_eq_true, reduceCtorEq, ne_eq, not_false_eq_true, implies_true, D.pur, D.up, hcon, hole_eq, ev_call0 ps4, h3]
        exact wp_ok ⟨_, by rw [fulls_app, fulls_one]; rfl⟩
      | node x ks =>
        have hk : It.deps ks + 1 ≤ It.deps its := it_mem hy
        obtain ⟨m, rfl⟩ : ∃ m, n = m + 1 := ⟨n - 1, by omega⟩
        have hin := way_filled o r (m + 1) ks (by omega)
        have hst : callV cfg (m + 2) 6 [eM M, eI (.node x ks), M.way k r] = some (.ok (eN (M.sem (.node x (It.fulls r ks))), false), []) := by
          rw [c6]
          apply wp_end
          simp only [b6, s6_0, mod_int, fdiv_int, mul_l, mul_r, small64, Int.reduceLT, Int.reduceNeg, decide_true, Bool.and_self, src_t, src_l, src_s, src_z, ev_append, ev_extend, ev_pop, ev_index, ev_join, rcvG_true, rcv_idxT, rcv_idxL, rcv_join, lstV, lstG_some, tmpG_ok, isi_tt, isi_ti, isi_ts, isi_tb, isi_ss, isi_si, isi_st, isi_ii, isi_ib, isi_bi, eq_int, eq_str, ne_str, ne_int, eq_ts, lt_int, le_int, gt_int, ge_int, add_int, sub_int, bi_max2, bi_min2, bi_listL, bi_listT, bi_tuple, bi_tupT, bi_lenT, bi_lenL, slc_lst, slc_tup, rev_lst, ev_lrg, ev_slc11, prtG_some, slcG_ok, isL_int, isL_str, isL_tup, Bool.not_true, Bool.not_false, ss_nil, ss_cons, ex_set, ex_ife, ex_expr, ex_for, ex_whl, ex_ret, ex_retv, retF_own, retF_frz, ex_retN, ev_var, ev_cst, ev_glb, ev_bin, ev_neg, negV_int, ev_cmp, blV_ok, ev_not, notV_bl, iteV_bl, ev_and, ev_or, ev_and1, ev_and2, ev_or1, ev_or2, ev_ife, ev_tup, ev_lst, ev_idx, ev_rev, ev_bi, ev_isi, ev_slc10, ev_slc01, part_int, vs_nil, vs_cons, vl_nil, vl_cons, callR_ok, sizV_0, sizV_1, sizV_2, sizV_5, rdU, List.getElem?_cons_zero, List.getElem?_cons_succ, List.set_cons_zero, List.set_cons_succ, bndV_ok, lftV_ok, unpV_ok, retV_ok, sqV_nx, sqV_rt, unpF_nx, unpF_rt, pin_var, unpin_var, pin_glb, unpin_glb, pin_cst, unpin_cst, pin_bin, unpin_bin, pin_neg, unpin_neg, pin_cmp, unpin_cmp, pin_cmp2, unpin_cmp2, pin_and, unpin_and, pin_or, unpin_or, pin_not, unpin_not, pin_ife, unpin_ife, pin_tup, unpin_tup, pin_lst, unpin_lst, pin_idx, unpin_idx, pin_slc, unpin_slc, pin_rev, unpin_rev, pin_call, unpin_call, pin_bi, unpin_bi, pin_lrg, unpin_lrg, pin_mth, unpin_mth, pin_isi, unpin_isi, pin_comp, unpin_comp, pinS, unpinS, Md.may, ↓reduceIte, Bool.false_eq_true, reduceCtorEq, ne_eq, not_false_eq_true, implies_true, D.pur, D.up, I0, I1, ev_call0 ps7, hin, ev_call0 ps0, start_of o, way_idx o (o.start x)]
          exact wp_ok rfl
        have h2 : callV cfg (m + 2) 3 [eM M, eN (M.sem (.node x (It.fulls r ks)))] = some (.ok (M.way k [.node x (It.fulls r ks)], false), []) := way_one o (o.sem _)
        have h3 : callV cfg (m + 2) 4 [M.way k (It.fulls r done), M.way k [.node x (It.fulls r ks)]] = some (.ok (M.way k (It.fulls r done ++ [.node x (It.fulls r ks)]), false), []) := way_app o _ _
        simp only [mod_int, fdiv_int, mul_l, mul_r, small64, Int.reduceLT, Int.reduceNeg, decide_true, Bool.and_self, src_t, src_l, src_s, src_z, ev_append, ev_extend, ev_pop, ev_index, ev_join, rcvG_true, rcv_idxT, rcv_idxL, rcv_join, lstV, lstG_some, tmpG_ok, isi_tt, isi_ti, isi_ts, isi_tb, isi_ss, isi_si, isi_st, isi_ii, isi_ib, isi_bi, eq_int, eq_str, ne_str, ne_int, eq_ts, lt_int, le_int, gt_int, ge_int, add_int, sub_int, bi_max2, bi_min2, bi_listL, bi_listT, bi_tuple, bi_tupT, bi_lenT, bi_lenL, slc_lst, slc_tup, rev_lst, ev_lrg, ev_slc11, prtG_some, slcG_ok, isL_int, isL_str, isL_tup, Bool.not_true, Bool.not_false, ss_nil, ss_cons, ex_set, ex_ife, ex_expr, ex_for, ex_whl, ex_ret, ex_retv, retF_own, retF_frz, ex_retN, ev_var, ev_cst, ev_glb, ev_bin, ev_neg, negV_int, ev_cmp, blV_ok, ev_not, notV_bl, iteV_bl, ev_and, ev_or, ev_and1, ev_and2, ev_or1, ev_or2, ev_ife, ev_tup, ev_lst, ev_idx, ev_rev, ev_bi, ev_isi, ev_slc10, ev_slc01, part_int, vs_nil, vs_cons, vl_nil, vl_cons, callR_ok, sizV_0, sizV_1, sizV_2, sizV_5, rdU, List.getElem?_cons_zero, List.getElem?_cons_succ, List.set_cons_zero, List.set_cons_succ, bndV_ok, lftV_ok, unpV_ok, retV_ok, sqV_nx, sqV_rt, unpF_nx, unpF_rt, pin_var, unpin_var, pin_glb, unpin_glb, pin_cst, unpin_cst, pin_bin, unpin_bin, pin_neg, unpin_neg, pin_cmp, unpin_cmp, pin_cmp2, unpin_cmp2, pin_and, unpin_and, pin_or, unpin_or, pin_not, unpin_not, pin_ife, unpin_ife, pin_tup, unpin_tup, pin_lst, unpin_lst, pin_idx, unpin_idx, pin_slc, unpin_slc, pin_rev, unpin_rev, pin_call, unpin_call, pin_bi, unpin_bi, pin_lrg, unpin_lrg, pin_mth, unpin_mth, pin_isi, unpin_isi, pin_comp, unpin_comp, pinS, unpinS, Md.may, ↓reduceIte, Bool.false_eq_true, reduceCtorEq, ne_eq, not_false_eq_true, implies_true, D.pur, D.up, hcon, node_eq, ev_call0 ps6, ev_call0 ps3, ev_call0 ps4, hst, h2, h3]
        exact wp_ok ⟨_, by rw [fulls_app, fulls_one]; rfl⟩
    · rintro e ⟨q, rfl⟩
      simp only [mod_int, fdiv_int, mul_l, mul_r, small64, Int.reduceLT, Int.reduceNeg, decide_true, Bool.and_self, src_t, src_l, src_s, src_z, ev_append, ev_extend, ev_pop, ev_index, ev_join, rcvG_true, rcv_idxT, rcv_idxL, rcv_join, lstV, lstG_some, tmpG_ok, isi_tt, isi_ti, isi_ts, isi_tb, isi_ss, isi_si, isi_st, isi_ii, isi_ib, isi_bi, eq_int, eq_str, ne_str, ne_int, eq_ts, lt_int, le_int, gt_int, ge_int, add_int, sub_int, bi_max2, bi_min2, bi_listL, bi_listT, bi_tuple, bi_tupT, bi_lenT, bi_lenL, slc_lst, slc_tup, rev_lst, ev_lrg, ev_slc11, prtG_some, slcG_ok, isL_int, isL_str, isL_tup, Bool.not_true, Bool.not_false, ss_nil, ss_cons, ex_set, ex_ife, ex_expr, ex_for, ex_whl, ex_ret, ex_retv, retF_own, retF_frz, ex_retN, ev_var, ev_cst, ev_glb, ev_bin, ev_neg, negV_int, ev_cmp, blV_ok, ev_not, notV_bl, iteV_bl, ev_and, ev_or, ev_and1, ev_and2, ev_or1, ev_or2, ev_ife, ev_tup, ev_lst, ev_idx, ev_rev, ev_bi, ev_isi, ev_slc10, ev_slc01, part_int, vs_nil, vs_cons, vl_nil, vl_cons, callR_ok, sizV_0, sizV_1, sizV_2, sizV_5, rdU, List.getElem?_cons_zero, List.getElem?_cons_succ, List.set_cons_zero, List.set_cons_succ, bndV_ok, lftV_ok, unpV_ok, retV_ok, sqV_nx, sqV_rt, unpF_nx, unpF_rt, pin_var, unpin_var, pin_glb, unpin_glb, pin_cst, unpin_cst, pin_bin, unpin_bin, pin_neg, unpin_neg, pin_cmp, unpin_cmp, pin_cmp2, unpin_cmp2, pin_and, unpin_and, pin_or, unpin_or, pin_not, unpin_not, pin_ife, unpin_ife, pin_tup, unpin_tup, pin_lst, unpin_lst, pin_idx, unpin_idx, pin_slc, unpin_slc, pin_rev, unpin_rev, pin_call, unpin_call, pin_bi, unpin_bi, pin_lrg, unpin_lrg, pin_mth, unpin_mth, pin_isi, unpin_isi, pin_comp, unpin_comp, pinS, unpinS, Md.may, ↓reduceIte, Bool.false_eq_true, reduceCtorEq, ne_eq, not_false_eq_true, implies_true, D.pur, D.up]
      exact wp_ok (by exact end_pur (pur_way _ _ _))
theorem law_full {w : Nat} (r : List Doc) (hw : w * (r.length + 1) ≤ 100000) : ∀ (n : Nat) (its : List It), It.deps its < n → its.length ≤ w → It.wids its ≤ w → callV cfg n 19 [.tup (its.map eI), .lst (r.map eD)] = some (.ok (.lst ((It.fulls r its).map eD), true), [])
  | 0, _, h, _, _ => absurd h (by omega)
  | n + 1, its, h, h1, h2 => by
    rw [c19]
    apply wp_end
    simp only [b19, l19_0, s19_0, s19_1, s19_2, mod_int, fdiv_int, mul_l, mul_r, small64, Int.reduceLT, Int.reduceNeg, decide_true, Bool.and_self, src_t, src_l, src_s, src_z, ev_append, ev_extend, ev_pop, ev_index, ev_join, rcvG_true, rcv_idxT, rcv_idxL, rcv_join, lstV, lstG_some, tmpG_ok, isi_tt, isi_ti, isi_ts, isi_tb, isi_ss, isi_si, isi_st, isi_ii, isi_ib, isi_bi, eq_int, eq_str, ne_str, ne_int, eq_ts, lt_int, le_int, gt_int, ge_int, add_int, sub_int, bi_max2, bi_min2, bi_listL, bi_listT, bi_tuple, bi_tupT, bi_lenT, bi_lenL, slc_lst, slc_tup, rev_lst, ev_lrg, ev_slc11, prtG_some, slcG_ok, isL_int, isL_str, isL_tup, Bool.not_true, Bool.not_false, ss_nil, ss_cons, ex_set, ex_ife, ex_expr, ex_for, ex_whl, ex_ret, ex_retv, retF_own, retF_frz, ex_retN, ev_var, ev_cst, ev_glb, ev_bin, ev_neg, negV_int, ev_cmp, blV_ok, ev_not, notV_bl, iteV_bl, ev_and, ev_or, ev_and1, ev_and2, ev_or1, ev_or2, ev_ife, ev_tup, ev_lst, ev_idx, ev_rev, ev_bi, ev_isi, ev_slc10, ev_slc01, part_int, vs_nil, vs_cons, vl_nil, vl_cons, callR_ok, sizV_0, sizV_1, sizV_2, sizV_5, rdU, List.getElem?_cons_zero, List.getElem?_cons_succ, List.set_cons_zero, List.set_cons_succ, bndV_ok, lftV_ok, unpV_ok, retV_ok, sqV_nx, sqV_rt, unpF_nx, unpF_rt, pin_var, unpin_var, pin_glb, unpin_glb, pin_cst, unpin_cst, pin_bin, unpin_bin, pin_neg, unpin_neg, pin_cmp, unpin_cmp, pin_cmp2, unpin_cmp2, pin_and, unpin_and, pin_or, unpin_or, pin_not, unpin_not, pin_ife, unpin_ife, pin_tup, unpin_tup, pin_lst, unpin_lst, pin_idx, unpin_idx, pin_slc, unpin_slc, pin_rev, unpin_rev, pin_call, unpin_call, pin_bi, unpin_bi, pin_lrg, unpin_lrg, pin_mth, unpin_mth, pin_isi, unpin_isi, pin_comp, unpin_comp, pinS, unpinS, Md.may, ↓reduceIte, Bool.false_eq_true, reduceCtorEq, ne_eq, not_false_eq_true, implies_true, D.pur, D.up]
    have hbl : (It.fulls r its).length ≤ 100000 := Nat.le_trans (fulls_len r its) (Nat.le_trans (Nat.mul_le_mul_right _ h1) hw)
    have hrl : r.length ≤ 100000 ∨ w = 0 := by
      cases w with
      | zero => exact .inr rfl
      | succ w => exact .inl (by rw [Nat.succ_mul] at hw; omega)
    refine wp_for eI its (fun done e => ∃ q, e = [some (.tup (its.map eI), Md.bor), some (.lst (r.map eD), Md.bor), some (.lst ((It.fulls r done).map eD), Md.own), q]) rfl ⟨none, rfl⟩ ?_ ?_
    · rintro done y more hl e ⟨q, rfl⟩
      have hy : y ∈ its := by rw [hl]; simp
      have hd : (It.fulls r done).length ≤ (It.fulls r its).length := by rw [hl, fulls_app, List.length_append]; omega
      have hr : r.length ≤ 100000 := by
        rcases hrl with h | h
        · exact h
        · subst h
          have : its = [] := List.length_eq_zero_iff.mp (by omega)
          rw [this] at hy
          cases hy
      refine ⟨_, rfl, ?_⟩
      cases y with
      | hole =>
        have g : ((It.fulls r done).map eD).length + (r.map eD).length < 1000000 := by rw [List.length_map, List.length_map]; omega
        simp only [mod_int, fdiv_int, mul_l, mul_r, small64, Int.reduceLT, Int.reduceNeg, decide_true, Bool.and_self, src_t, src_l, src_s, src_z, ev_append, ev_extend, ev_pop, ev_index, ev_join, rcvG_true, rcv_idxT, rcv_idxL, rcv_join, lstV, lstG_some, tmpG_ok, isi_tt, isi_ti, isi_ts, isi_tb, isi_ss, isi_si, isi_st, isi_ii, isi_ib, isi_bi, eq_int, eq_str, ne_str, ne_int, eq_ts, lt_int, le_int, gt_int, ge_int, add_int, sub_int, bi_max2, bi_min2, bi_listL, bi_listT, bi_tuple, bi_tupT, bi_lenT, bi_lenL, slc_lst, slc_tup, rev_lst, ev_lrg, ev_slc11, prtG_some, slcG_ok, isL_int, isL_str, isL_tup, Bool.not_true, Bool.not_false, ss_nil, ss_cons, ex_set, ex_ife, ex_expr, ex_for, ex_whl, ex_ret, ex_retv, retF_own, retF_frz, ex_retN, ev_var, ev_cst, ev_glb, ev_bin, ev_neg, negV_int, ev_cmp, blV_ok, ev_not, notV_bl, iteV_bl, ev_and, ev_or, ev_and1, ev_and2, ev_or1, ev_or2, ev_ife, ev_tup, ev_lst, ev_idx, ev_rev, ev_bi, ev_isi, ev_slc10, ev_slc01, part_int, vs_nil, vs_cons, vl_nil, vl_cons, callR_ok, sizV_0, sizV_1, sizV_2, sizV_5, rdU, List.getElem?_cons_zero, List.getElem?_cons_succ, List.set_cons_zero, List.set_cons_succ, bndV_ok, lftV_ok, unpV_ok, retV_ok, sqV_nx, sqV_rt, unpF_nx, unpF_rt, pin_var, unpin_var, pin_glb, unpin_glb, pin_cst, unpin_cst, pin_bin, unpin_bin, pin_neg, unpin_neg, pin_cmp, unpin_cmp, pin_cmp2, unpin_cmp2, pin_and, unpin_and, pin_or, unpin_or, pin_not, unpin_not, pin_ife, unpin_ife, pin_tup, unpin_tup, pin_lst, unpin_lst, pin_idx, unpin_idx, pin_slc, unpin_slc, pin_rev, unpin_rev, pin_call, unpin_call, pin_bi, unpin_bi, pin_lrg, unpin_lrg, pin_mth, unpin_mth, pin_isi, unpin_isi, pin_comp, unpin_comp, pinS, unpinS, Md.may, ↓reduceIte, Bool.false_eq_true, reduceCtorEq, ne_eq, not_false_eq_true, implies_true, D.pur, D.up, hole_eq, extG_ok g]
        exact wp_ok ⟨_, by rw [fulls_app, fulls_one, List.map_append]; rfl⟩
      | node x ks =>
        have hk : It.deps ks + 1 ≤ It.deps its := it_mem hy
        have hw1 : max ks.length (It.wids ks) ≤ It.wids its := wid_mem hy
        have g : ((It.fulls r done).map eD).length < 1000000 := by rw [List.length_map]; omega
        have hin := law_full r hw n ks (by omega) (Nat.le_trans (Nat.le_max_left _ _) (Nat.le_trans hw1 h2)) (Nat.le_trans (Nat.le_max_right _ _) (Nat.le_trans hw1 h2))
        simp only [mod_int, fdiv_int, mul_l, mul_r, small64, Int.reduceLT, Int.reduceNeg, decide_true, Bool.and_self, src_t, src_l, src_s, src_z, ev_append, ev_extend, ev_pop, ev_index, ev_join, rcvG_true, rcv_idxT, rcv_idxL, rcv_join, lstV, lstG_some, tmpG_ok, isi_tt, isi_ti, isi_ts, isi_tb, isi_ss, isi_si, isi_st, isi_ii, isi_ib, isi_bi, eq_int, eq_str, ne_str, ne_int, eq_ts, lt_int, le_int, gt_int, ge_int, add_int, sub_int, bi_max2, bi_min2, bi_listL, bi_listT, bi_tuple, bi_tupT, bi_lenT, bi_lenL, slc_lst, slc_tup, rev_lst, ev_lrg, ev_slc11, prtG_some, slcG_ok, isL_int, isL_str, isL_tup, Bool.not_true, Bool.not_false, ss_nil, ss_cons, ex_set, ex_ife, ex_expr, ex_for, ex_whl, ex_ret, ex_retv, retF_own, retF_frz, ex_retN, ev_var, ev_cst, ev_glb, ev_bin, ev_neg, negV_int, ev_cmp, blV_ok, ev_not, notV_bl, iteV_bl, ev_and, ev_or, ev_and1, ev_and2, ev_or1, ev_or2, ev_ife, ev_tup, ev_lst, ev_idx, ev_rev, ev_bi, ev_isi, ev_slc10, ev_slc01, part_int, vs_nil, vs_cons, vl_nil, vl_cons, callR_ok, sizV_0, sizV_1, sizV_2, sizV_5, rdU, List.getElem?_cons_zero, List.getElem?_cons_succ, List.set_cons_zero, List.set_cons_succ, bndV_ok, lftV_ok, unpV_ok, retV_ok, sqV_nx, sqV_rt, unpF_nx, unpF_rt, pin_var, unpin_var, pin_glb, unpin_glb, pin_cst, unpin_cst, pin_bin, unpin_bin, pin_neg, unpin_neg, pin_cmp, unpin_cmp, pin_cmp2, unpin_cmp2, pin_and, unpin_and, pin_or, unpin_or, pin_not, unpin_not, pin_ife, unpin_ife, pin_tup, unpin_tup, pin_lst, unpin_lst, pin_idx, unpin_idx, pin_slc, unpin_slc, pin_rev, unpin_rev, pin_call, unpin_call, pin_bi, unpin_bi, pin_lrg, unpin_lrg, pin_mth, unpin_mth, pin_isi, unpin_isi, pin_comp, unpin_comp, pinS, unpinS, Md.may, ↓reduceIte, Bool.false_eq_true, reduceCtorEq, ne_eq, not_false_eq_true, implies_true, D.pur, D.up, node_eq, I0, I1, ev_call0 ps19, hin, appG_ok g]
        exact wp_ok ⟨_, by rw [fulls_app, fulls_one, List.map_append, eD_node]; rfl⟩
    · rintro e ⟨q, rfl⟩
      simp only [mod_int, fdiv_int, mul_l, mul_r, small64, Int.reduceLT, Int.reduceNeg, decide_true, Bool.and_self, src_t, src_l, src_s, src_z, ev_append, ev_extend, ev_pop, ev_index, ev_join, rcvG_true, rcv_idxT, rcv_idxL, rcv_join, lstV, lstG_some, tmpG_ok, isi_tt, isi_ti, isi_ts, isi_tb, isi_ss, isi_si, isi_st, isi_ii, isi_ib, isi_bi, eq_int, eq_str, ne_str, ne_int, eq_ts, lt_int, le_int, gt_int, ge_int, add_int, sub_int, bi_max2, bi_min2, bi_listL, bi_listT, bi_tuple, bi_tupT, bi_lenT, bi_lenL, slc_lst, slc_tup, rev_lst, ev_lrg, ev_slc11, prtG_some, slcG_ok, isL_int, isL_str, isL_tup, Bool.not_true, Bool.not_false, ss_nil, ss_cons, ex_set, ex_ife, ex_expr, ex_for, ex_whl, ex_ret, ex_retv, retF_own, retF_frz, ex_retN, ev_var, ev_cst, ev_glb, ev_bin, ev_neg, negV_int, ev_cmp, blV_ok, ev_not, notV_bl, iteV_bl, ev_and, ev_or, ev_and1, ev_and2, ev_or1, ev_or2, ev_ife, ev_tup, ev_lst, ev_idx, ev_rev, ev_bi, ev_isi, ev_slc10, ev_slc01, part_int, vs_nil, vs_cons, vl_nil, vl_cons, callR_ok, sizV_0, sizV_1, sizV_2, sizV_5, rdU, List.getElem?_cons_zero, List.getElem?_cons_succ, List.set_cons_zero, List.set_cons_succ, bndV_ok, lftV_ok, unpV_ok, retV_ok, sqV_nx, sqV_rt, unpF_nx, unpF_rt, pin_var, unpin_var, pin_glb, unpin_glb, pin_cst, unpin_cst, pin_bin, unpin_bin, pin_neg, unpin_neg, pin_cmp, unpin_cmp, pin_cmp2, unpin_cmp2, pin_and, unpin_and, pin_or, unpin_or, pin_not, unpin_not, pin_ife, unpin_ife, pin_tup, unpin_tup, pin_lst, unpin_lst, pin_idx, unpin_idx, pin_slc, unpin_slc, pin_rev, unpin_rev, pin_call, unpin_call, pin_bi, unpin_bi, pin_lrg, unpin_lrg, pin_mth, unpin_mth, pin_isi, unpin_isi, pin_comp, unpin_comp, pinS, unpinS, Md.may, ↓reduceIte, Bool.false_eq_true, reduceCtorEq, ne_eq, not_false_eq_true, implies_true, D.pur, D.up]
      exact wp_ok (by exact end_lst (purs_eD _))
theorem law_state {M : Ma} {k n : Nat} (o : M.Ok k) (x : Str) (ss : List Nat) (hs : ∀ s, s ∈ ss → s < k) : callV cfg (n + 1) 14 [eM M, .str x, .lst (ss.map eN)] = some (.ok (eN (ss.foldl M.step (M.start x)), false), []) := by
  rw [c14]
  apply wp_end
  have key : ∀ (q : Option (U × Md)), Wp (sqV (forF cfg (callV cfg n) (Tg.name 4) (.cons (.var 2) .nil) l14_0 (some (ss.map eN)) [some (eM M, Md.bor), some (.str x, Md.bor), some (.lst (ss.map eN), Md.bor), some (eN (M.start x), Md.frz), q]) (exVs cfg (callV cfg n) (.cons s14_3 .nil))) (fun f => endV [] false (some f) = some (.ok (eN (ss.foldl M.step (M.start x)), false), [])) := fun q => by
    refine wp_for eN ss (fun done e => ∃ q, e = [some (eM M, Md.bor), some (.str x, Md.bor), some (.lst (ss.map eN), Md.bor), some (eN (done.foldl M.step (M.start x)), Md.frz), q]) rfl ⟨q, rfl⟩ ?_ ?_
    · rintro done y more hl e ⟨q, rfl⟩
      have hy : y < k := hs y (by rw [hl]; simp)
      have hd : done.foldl M.step (M.start x) < k := foldl_lt o done (o.start x) fun s h => hs s (by rw [hl]; simp [h])
      obtain ⟨r, r1, r2⟩ := row_ix o hd
      refine ⟨_, rfl, ?_⟩
      simp only [b14, l14_0, s14_0, s14_1, s14_2, s14_3, mod_int, fdiv_int, mul_l, mul_r, small64, Int.reduceLT, Int.reduceNeg, decide_true, Bool.and_self, src_t, src_l, src_s, src_z, ev_append, ev_extend, ev_pop, ev_index, ev_join, rcvG_true, rcv_idxT, rcv_idxL, rcv_join, lstV, lstG_some, tmpG_ok, isi_tt, isi_ti, isi_ts, isi_tb, isi_ss, isi_si, isi_st, isi_ii, isi_ib, isi_bi, eq_int, eq_str, ne_str, ne_int, eq_ts, lt_int, le_int, gt_int, ge_int, add_int, sub_int, bi_max2, bi_min2, bi_listL, bi_listT, bi_tuple, bi_tupT, bi_lenT, bi_lenL, slc_lst, slc_tup, rev_lst, ev_lrg, ev_slc11, prtG_some, slcG_ok, isL_int, isL_str, isL_tup, Bool.not_true, Bool.not_false, ss_nil, ss_cons, ex_set, ex_ife, ex_expr, ex_for, ex_whl, ex_ret, ex_retv, retF_own, retF_frz, ex_retN, ev_var, ev_cst, ev_glb, ev_bin, ev_neg, negV_int, ev_cmp, blV_ok, ev_not, notV_bl, iteV_bl, ev_and, ev_or, ev_and1, ev_and2, ev_or1, ev_or2, ev_ife, ev_tup, ev_lst, ev_idx, ev_rev, ev_bi, ev_isi, ev_slc10, ev_slc01, part_int, vs_nil, vs_cons, vl_nil, vl_cons, callR_ok, sizV_0, sizV_1, sizV_2, sizV_5, rdU, List.getElem?_cons_zero, List.getElem?_cons_succ, List.set_cons_zero, List.set_cons_succ, bndV_ok, lftV_ok, unpV_ok, retV_ok, sqV_nx, sqV_rt, unpF_nx, unpF_rt, pin_var, unpin_var, pin_glb, unpin_glb, pin_cst, unpin_cst, pin_bin, unpin_bin, pin_neg, unpin_neg, pin_cmp, unpin_cmp, pin_cmp2, unpin_cmp2, pin_and, unpin_and, pin_or, unpin_or, pin_not, unpin_not, pin_ife, unpin_ife, pin_tup, unpin_tup, pin_lst, unpin_lst, pin_idx, unpin_idx, pin_slc, unpin_slc, pin_rev, unpin_rev, pin_call, unpin_call, pin_bi, unpin_bi, pin_lrg, unpin_lrg, pin_mth, unpin_mth, pin_isi, unpin_isi, pin_comp, unpin_comp, pinS, unpinS, Md.may, ↓reduceIte, Bool.false_eq_true, reduceCtorEq, ne_eq, not_false_eq_true, implies_true, D.pur, D.up, M3, r1, r2 _ hy]
      exact wp_ok ⟨_, by rw [List.foldl_append]; rfl⟩
    · rintro e ⟨q, rfl⟩
      simp only [b14, l14_0, s14_0, s14_1, s14_2, s14_3, mod_int, fdiv_int, mul_l, mul_r, small64, Int.reduceLT, Int.reduceNeg, decide_true, Bool.and_self, src_t, src_l, src_s, src_z, ev_append, ev_extend, ev_pop, ev_index, ev_join, rcvG_true, rcv_idxT, rcv_idxL, rcv_join, lstV, lstG_some, tmpG_ok, isi_tt, isi_ti, isi_ts, isi_tb, isi_ss, isi_si, isi_st, isi_ii, isi_ib, isi_bi, eq_int, eq_str, ne_str, ne_int, eq_ts, lt_int, le_int, gt_int, ge_int, add_int, sub_int, bi_max2, bi_min2, bi_listL, bi_listT, bi_tuple, bi_tupT, bi_lenT, bi_lenL, slc_lst, slc_tup, rev_lst, ev_lrg, ev_slc11, prtG_some, slcG_ok, isL_int, isL_str, isL_tup, Bool.not_true, Bool.not_false, ss_nil, ss_cons, ex_set, ex_ife, ex_expr, ex_for, ex_whl, ex_ret, ex_retv, retF_own, retF_frz, ex_retN, ev_var, ev_cst, ev_glb, ev_bin, ev_neg, negV_int, ev_cmp, blV_ok, ev_not, notV_bl, iteV_bl, ev_and, ev_or, ev_and1, ev_and2, ev_or1, ev_or2, ev_ife, ev_tup, ev_lst, ev_idx, ev_rev, ev_bi, ev_isi, ev_slc10, ev_slc01, part_int, vs_nil, vs_cons, vl_nil, vl_cons, callR_ok, sizV_0, sizV_1, sizV_2, sizV_5, rdU, List.getElem?_cons_zero, List.getElem?_cons_succ, List.set_cons_zero, List.set_cons_succ, bndV_ok, lftV_ok, unpV_ok, retV_ok, sqV_nx, sqV_rt, unpF_nx, unpF_rt, pin_var, unpin_var, pin_glb, unpin_glb, pin_cst, unpin_cst, pin_bin, unpin_bin, pin_neg, unpin_neg, pin_cmp, unpin_cmp, pin_cmp2, unpin_cmp2, pin_and, unpin_and, pin_or, unpin_or, pin_not, unpin_not, pin_ife, unpin_ife, pin_tup, unpin_tup, pin_lst, unpin_lst, pin_idx, unpin_idx, pin_slc, unpin_slc, pin_rev, unpin_rev, pin_call, unpin_call, pin_bi, unpin_bi, pin_lrg, unpin_lrg, pin_mth, unpin_mth, pin_isi, unpin_isi, pin_comp, unpin_comp, pinS, unpinS, Md.may, ↓reduceIte, Bool.false_eq_true, reduceCtorEq, ne_eq, not_false_eq_true, implies_true, D.pur, D.up]
      exact wp_ok rfl
  obtain ⟨s0, hs0⟩ := last_ok o
  have hx := index_ok o x
  rcases hx with ⟨h1, i, h2, h3⟩ | ⟨h1, h2⟩
  · simp only [b14, s14_0, s14_1, s14_2, mod_int, fdiv_int, mul_l, mul_r, small64, Int.reduceLT, Int.reduceNeg, decide_true, Bool.and_self, src_t, src_l, src_s, src_z, ev_append, ev_extend, ev_pop, ev_index, ev_join, rcvG_true, rcv_idxT, rcv_idxL, rcv_join, lstV, lstG_some, tmpG_ok, isi_tt, isi_ti, isi_ts, isi_tb, isi_ss, isi_si, isi_st, isi_ii, isi_ib, isi_bi, eq_int, eq_str, ne_str, ne_int, eq_ts, lt_int, le_int, gt_int, ge_int, add_int, sub_int, bi_max2, bi_min2, bi_listL, bi_listT, bi_tuple, bi_tupT, bi_lenT, bi_lenL, slc_lst, slc_tup, rev_lst, ev_lrg, ev_slc11, prtG_some, slcG_ok, isL_int, isL_str, isL_tup, Bool.not_true, Bool.not_false, ss_nil, ss_cons, ex_set, ex_ife, ex_expr, ex_for, ex_whl, ex_ret, ex_retv, retF_own, retF_frz, ex_retN, ev_var, ev_cst, ev_glb, ev_bin, ev_neg, negV_int, ev_cmp, blV_ok, ev_not, notV_bl, iteV_bl, ev_and, ev_or, ev_and1, ev_and2, ev_or1, ev_or2, ev_ife, ev_tup, ev_lst, ev_idx, ev_rev, ev_bi, ev_isi, ev_slc10, ev_slc01, part_int, vs_nil, vs_cons, vl_nil, vl_cons, callR_ok, sizV_0, sizV_1, sizV_2, sizV_5, rdU, List.getElem?_cons_zero, List.getElem?_cons_succ, List.set_cons_zero, List.set_cons_succ, bndV_ok, lftV_ok, unpV_ok, retV_ok, sqV_nx, sqV_rt, unpF_nx, unpF_rt, pin_var, unpin_var, pin_glb, unpin_glb, pin_cst, unpin_cst, pin_bin, unpin_bin, pin_neg, unpin_neg, pin_cmp, unpin_cmp, pin_cmp2, unpin_cmp2, pin_and, unpin_and, pin_or, unpin_or, pin_not, unpin_not, pin_ife, unpin_ife, pin_tup, unpin_tup, pin_lst, unpin_lst, pin_idx, unpin_idx, pin_slc, unpin_slc, pin_rev, unpin_rev, pin_call, unpin_call, pin_bi, unpin_bi, pin_lrg, unpin_lrg, pin_mth, unpin_mth, pin_isi, unpin_isi, pin_comp, unpin_comp, pinS, unpinS, Md.may, ↓reduceIte, Bool.false_eq_true, reduceCtorEq, ne_eq, not_false_eq_true, implies_true, D.pur, D.up, M1, M2, in_names', hs0, h1, h2, h3]
    exact key _
  · simp only [b14, s14_0, s14_1, s14_2, mod_int, fdiv_int, mul_l, mul_r, small64, Int.reduceLT, Int.reduceNeg, decide_true, Bool.and_self, src_t, src_l, src_s, src_z, ev_append, ev_extend, ev_pop, ev_index, ev_join, rcvG_true, rcv_idxT, rcv_idxL, rcv_join, lstV, lstG_some, tmpG_ok, isi_tt, isi_ti, isi_ts, isi_tb, isi_ss, isi_si, isi_st, isi_ii, isi_ib, isi_bi, eq_int, eq_str, ne_str, ne_int, eq_ts, lt_int, le_int, gt_int, ge_int, add_int, sub_int, bi_max2, bi_min2, bi_listL, bi_listT, bi_tuple, bi_tupT, bi_lenT, bi_lenL, slc_lst, slc_tup, rev_lst, ev_lrg, ev_slc11, prtG_some, slcG_ok, isL_int, isL_str, isL_tup, Bool.not_true, Bool.not_false, ss_nil, ss_cons, ex_set, ex_ife, ex_expr, ex_for, ex_whl, ex_ret, ex_retv, retF_own, retF_frz, ex_retN, ev_var, ev_cst, ev_glb, ev_bin, ev_neg, negV_int, ev_cmp, blV_ok, ev_not, notV_bl, iteV_bl, ev_and, ev_or, ev_and1, ev_and2, ev_or1, ev_or2, ev_ife, ev_tup, ev_lst, ev_idx, ev_rev, ev_bi, ev_isi, ev_slc10, ev_slc01, part_int, vs_nil, vs_cons, vl_nil, vl_cons, callR_ok, sizV_0, sizV_1, sizV_2, sizV_5, rdU, List.getElem?_cons_zero, List.getElem?_cons_succ, List.set_cons_zero, List.set_cons_succ, bndV_ok, lftV_ok, unpV_ok, retV_ok, sqV_nx, sqV_rt, unpF_nx, unpF_rt, pin_var, unpin_var, pin_glb, unpin_glb, pin_cst, unpin_cst, pin_bin, unpin_bin, pin_neg, unpin_neg, pin_cmp, unpin_cmp, pin_cmp2, unpin_cmp2, pin_and, unpin_and, pin_or, unpin_or, pin_not, unpin_not, pin_ife, unpin_ife, pin_tup, unpin_tup, pin_lst, unpin_lst, pin_idx, unpin_idx, pin_slc, unpin_slc, pin_rev, unpin_rev, pin_call, unpin_call, pin_bi, unpin_bi, pin_lrg, unpin_lrg, pin_mth, unpin_mth, pin_isi, unpin_isi, pin_comp, unpin_comp, pinS, unpinS, Md.may, ↓reduceIte, Bool.false_eq_true, reduceCtorEq, ne_eq, not_false_eq_true, implies_true, D.pur, D.up, M1, M2, in_names', h1, h2]
    exact key _
theorem law_doc_state {M : Ma} {k : Nat} (o : M.Ok k) : ∀ (n : Nat) (d : Doc), d.dep < n → d.wid ≤ 1000000 → callV cfg (n + 1) 16 [eM M, eD d] = some (.ok (eN (M.sem d), false), [])
  | 0, _, h, _ => absurd h (by omega)
  | n + 1, .node x ks, h, hw => by
    rw [deps_node] at h
    rw [wid_node] at hw
    have hc : evV cfg (callV cfg (n + 1)) x16_0 false [some (eM M, Md.bor), some (eD (.node x ks), Md.bor), none] = some (.ok (.lst ((ks.map M.sem).map eN), true), [some (eM M, Md.bor), some (eD (.node x ks), Md.bor), none]) := by
      unfold x16_0
      rw [List.map_map]
      refine ev_compM (env0 := [some (eM M, Md.bor), some (eD (.node x ks), Md.bor), none]) (xs := [.tup (ks.map eD)]) eD _ ks (by simp only [mod_int, fdiv_int, mul_l, mul_r, small64, Int.reduceLT, Int.reduceNeg, decide_true, Bool.and_self, src_t, src_l, src_s, src_z, ev_append, ev_extend, ev_pop, ev_index, ev_join, rcvG_true, rcv_idxT, rcv_idxL, rcv_join, lstV, lstG_some, tmpG_ok, isi_tt, isi_ti, isi_ts, isi_tb, isi_ss, isi_si, isi_st, isi_ii, isi_ib, isi_bi, eq_int, eq_str, ne_str, ne_int, eq_ts, lt_int, le_int, gt_int, ge_int, add_int, sub_int, bi_max2, bi_min2, bi_listL, bi_listT, bi_tuple, bi_tupT, bi_lenT, bi_lenL, slc_lst, slc_tup, rev_lst, ev_lrg, ev_slc11, prtG_some, slcG_ok, isL_int, isL_str, isL_tup, Bool.not_true, Bool.not_false, ss_nil, ss_cons, ex_set, ex_ife, ex_expr, ex_for, ex_whl, ex_ret, ex_retv, retF_own, retF_frz, ex_retN, ev_var, ev_cst, ev_glb, ev_bin, ev_neg, negV_int, ev_cmp, blV_ok, ev_not, notV_bl, iteV_bl, ev_and, ev_or, ev_and1, ev_and2, ev_or1, ev_or2, ev_ife, ev_tup, ev_lst, ev_idx, ev_rev, ev_bi, ev_isi, ev_slc10, ev_slc01, part_int, vs_nil, vs_cons, vl_nil, vl_cons, callR_ok, sizV_0, sizV_1, sizV_2, sizV_5, rdU, List.getElem?_cons_zero, List.getElem?_cons_succ, List.set_cons_zero, List.set_cons_succ, bndV_ok, lftV_ok, unpV_ok, retV_ok, sqV_nx, sqV_rt, unpF_nx, unpF_rt, pin_var, unpin_var, pin_glb, unpin_glb, pin_cst, unpin_cst, pin_bin, unpin_bin, pin_neg, unpin_neg, pin_cmp, unpin_cmp, pin_cmp2, unpin_cmp2, pin_and, unpin_and, pin_or, unpin_or, pin_not, unpin_not, pin_ife, unpin_ife, pin_tup, unpin_tup, pin_lst, unpin_lst, pin_idx, unpin_idx, pin_slc, unpin_slc, pin_rev, unpin_rev, pin_call, unpin_call, pin_bi, unpin_bi, pin_lrg, unpin_lrg, pin_mth, unpin_mth, pin_isi, unpin_isi, pin_comp, unpin_comp, pinS, unpinS, Md.may, ↓reduceIte, Bool.false_eq_true, reduceCtorEq, ne_eq, not_false_eq_true, implies_true, D.pur, D.up, D1]) rfl (by omega) (fun d hd => ⟨false, ?_⟩) (fun o => rfl)
      have := law_doc_state o n d (by have := dep_mem hd; omega) (by have := dwid_mem hd; omega)
      simp only [mod_int, fdiv_int, mul_l, mul_r, small64, Int.reduceLT, Int.reduceNeg, decide_true, Bool.and_self, src_t, src_l, src_s, src_z, ev_append, ev_extend, ev_pop, ev_index, ev_join, rcvG_true, rcv_idxT, rcv_idxL, rcv_join, lstV, lstG_some, tmpG_ok, isi_tt, isi_ti, isi_ts, isi_tb, isi_ss, isi_si, isi_st, isi_ii, isi_ib, isi_bi, eq_int, eq_str, ne_str, ne_int, eq_ts, lt_int, le_int, gt_int, ge_int, add_int, sub_int, bi_max2, bi_min2, bi_listL, bi_listT, bi_tuple, bi_tupT, bi_lenT, bi_lenL, slc_lst, slc_tup, rev_lst, ev_lrg, ev_slc11, prtG_some, slcG_ok, isL_int, isL_str, isL_tup, Bool.not_true, Bool.not_false, ss_nil, ss_cons, ex_set, ex_ife, ex_expr, ex_for, ex_whl, ex_ret, ex_retv, retF_own, retF_frz, ex_retN, ev_var, ev_cst, ev_glb, ev_bin, ev_neg, negV_int, ev_cmp, blV_ok, ev_not, notV_bl, iteV_bl, ev_and, ev_or, ev_and1, ev_and2, ev_or1, ev_or2, ev_ife, ev_tup, ev_lst, ev_idx, ev_rev, ev_bi, ev_isi, ev_slc10, ev_slc01, part_int, vs_nil, vs_cons, vl_nil, vl_cons, callR_ok, sizV_0, sizV_1, sizV_2, sizV_5, rdU, List.getElem?_cons_zero, List.getElem?_cons_succ, List.set_cons_zero, List.set_cons_succ, bndV_ok, lftV_ok, unpV_ok, retV_ok, sqV_nx, sqV_rt, unpF_nx, unpF_rt, pin_var, unpin_var, pin_glb, unpin_glb, pin_cst, unpin_cst, pin_bin, unpin_bin, pin_neg, unpin_neg, pin_cmp, unpin_cmp, pin_cmp2, unpin_cmp2, pin_and, unpin_and, pin_or, unpin_or, pin_not, unpin_not, pin_ife, unpin_ife, pin_tup, unpin_tup, pin_lst, unpin_lst, pin_idx, unpin_idx, pin_slc, unpin_slc, pin_rev, unpin_rev, pin_call, unpin_call, pin_bi, unpin_bi, pin_lrg, unpin_lrg, pin_mth, unpin_mth, pin_isi, unpin_isi, pin_comp, unpin_comp, pinS, unpinS, Md.may, ↓reduceIte, Bool.false_eq_true, reduceCtorEq, ne_eq, not_false_eq_true, implies_true, D.pur, D.up, ev_call0 ps16, this]
      rfl
    have hs : callV cfg (n + 1) 14 [eM M, .str x, .lst ((ks.map M.sem).map eN)] = some (.ok (eN (M.sem (.node x ks)), false), []) := by
      rw [law_state o x _ fun s hs => by
        obtain ⟨d, _, rfl⟩ := List.mem_map.mp hs
        exact o.sem d, foldl_sems]
      rfl
    rw [c16]
    apply wp_end
    simp only [b16, s16_0, px16_0, qx16_0, nx16_0, mod_int, fdiv_int, mul_l, mul_r, small64, Int.reduceLT, Int.reduceNeg, decide_true, Bool.and_self, src_t, src_l, src_s, src_z, ev_append, ev_extend, ev_pop, ev_index, ev_join, rcvG_true, rcv_idxT, rcv_idxL, rcv_join, lstV, lstG_some, tmpG_ok, isi_tt, isi_ti, isi_ts, isi_tb, isi_ss, isi_si, isi_st, isi_ii, isi_ib, isi_bi, eq_int, eq_str, ne_str, ne_int, eq_ts, lt_int, le_int, gt_int, ge_int, add_int, sub_int, bi_max2, bi_min2, bi_listL, bi_listT, bi_tuple, bi_tupT, bi_lenT, bi_lenL, slc_lst, slc_tup, rev_lst, ev_lrg, ev_slc11, prtG_some, slcG_ok, isL_int, isL_str, isL_tup, Bool.not_true, Bool.not_false, ss_nil, ss_cons, ex_set, ex_ife, ex_expr, ex_for, ex_whl, ex_ret, ex_retv, retF_own, retF_frz, ex_retN, ev_var, ev_cst, ev_glb, ev_bin, ev_neg, negV_int, ev_cmp, blV_ok, ev_not, notV_bl, iteV_bl, ev_and, ev_or, ev_and1, ev_and2, ev_or1, ev_or2, ev_ife, ev_tup, ev_lst, ev_idx, ev_rev, ev_bi, ev_isi, ev_slc10, ev_slc01, part_int, vs_nil, vs_cons, vl_nil, vl_cons, callR_ok, sizV_0, sizV_1, sizV_2, sizV_5, rdU, List.getElem?_cons_zero, List.getElem?_cons_succ, List.set_cons_zero, List.set_cons_succ, bndV_ok, lftV_ok, unpV_ok, retV_ok, sqV_nx, sqV_rt, unpF_nx, unpF_rt, pin_var, unpin_var, pin_glb, unpin_glb, pin_cst, unpin_cst, pin_bin, unpin_bin, pin_neg, unpin_neg, pin_cmp, unpin_cmp, pin_cmp2, unpin_cmp2, pin_and, unpin_and, pin_or, unpin_or, pin_not, unpin_not, pin_ife, unpin_ife, pin_tup, unpin_tup, pin_lst, unpin_lst, pin_idx, unpin_idx, pin_slc, unpin_slc, pin_rev, unpin_rev, pin_call, unpin_call, pin_bi, unpin_bi, pin_lrg, unpin_lrg, pin_mth, unpin_mth, pin_isi, unpin_isi, pin_comp, unpin_comp, pinS, unpinS, Md.may, ↓reduceIte, Bool.false_eq_true, reduceCtorEq, ne_eq, not_false_eq_true, implies_true, D.pur, D.up, D0, hc, ev_call0 ps14, hs]
    exact wp_ok rfl
theorem law_way {M : Ma} {k n : Nat} (o : M.Ok k) (r : List Doc) (hd : Doc.deps r < n) (hw : Doc.wids r ≤ 1000000) (hl : r.length ≤ 1000000) : callV cfg (n + 2) 17 [eM M, .lst (r.map eD)] = some (.ok (M.way k r, false), []) := by
  have hc : evV cfg (callV cfg (n + 1)) x17_0 true [some (eM M, Md.bor), some (.lst (r.map eD), Md.bor), some (.lst [], Md.own), none, none, none, none, none] = some (.ok (.lst ((r.map M.sem).map eN), true), [some (eM M, Md.bor), some (.lst (r.map eD), Md.bor), some (.lst [], Md.own), none, none, none, none, none]) := by
    unfold x17_0
    rw [List.map_map]
    refine ev_compM (env0 := [some (eM M, Md.bor), some (.lst (r.map eD), Md.bor), some (.lst [], Md.own), none, none, none, none, none]) (xs := [.lst (r.map eD)]) eD _ r (by simp only [mod_int, fdiv_int, mul_l, mul_r, small64, Int.reduceLT, Int.reduceNeg, decide_true, Bool.and_self, src_t, src_l, src_s, src_z, ev_append, ev_extend, ev_pop, ev_index, ev_join, rcvG_true, rcv_idxT, rcv_idxL, rcv_join, lstV, lstG_some, tmpG_ok, isi_tt, isi_ti, isi_ts, isi_tb, isi_ss, isi_si, isi_st, isi_ii, isi_ib, isi_bi, eq_int, eq_str, ne_str, ne_int, eq_ts, lt_int, le_int, gt_int, ge_int, add_int, sub_int, bi_max2, bi_min2, bi_listL, bi_listT, bi_tuple, bi_tupT, bi_lenT, bi_lenL, slc_lst, slc_tup, rev_lst, ev_lrg, ev_slc11, prtG_some, slcG_ok, isL_int, isL_str, isL_tup, Bool.not_true, Bool.not_false, ss_nil, ss_cons, ex_set, ex_ife, ex_expr, ex_for, ex_whl, ex_ret, ex_retv, retF_own, retF_frz, ex_retN, ev_var, ev_cst, ev_glb, ev_bin, ev_neg, negV_int, ev_cmp, blV_ok, ev_not, notV_bl, iteV_bl, ev_and, ev_or, ev_and1, ev_and2, ev_or1, ev_or2, ev_ife, ev_tup, ev_lst, ev_idx, ev_rev, ev_bi, ev_isi, ev_slc10, ev_slc01, part_int, vs_nil, vs_cons, vl_nil, vl_cons, callR_ok, sizV_0, sizV_1, sizV_2, sizV_5, rdU, List.getElem?_cons_zero, List.getElem?_cons_succ, List.set_cons_zero, List.set_cons_succ, bndV_ok, lftV_ok, unpV_ok, retV_ok, sqV_nx, sqV_rt, unpF_nx, unpF_rt, pin_var, unpin_var, pin_glb, unpin_glb, pin_cst, unpin_cst, pin_bin, unpin_bin, pin_neg, unpin_neg, pin_cmp, unpin_cmp, pin_cmp2, unpin_cmp2, pin_and, unpin_and, pin_or, unpin_or, pin_not, unpin_not, pin_ife, unpin_ife, pin_tup, unpin_tup, pin_lst, unpin_lst, pin_idx, unpin_idx, pin_slc, unpin_slc, pin_rev, unpin_rev, pin_call, unpin_call, pin_bi, unpin_bi, pin_lrg, unpin_lrg, pin_mth, unpin_mth, pin_isi, unpin_isi, pin_comp, unpin_comp, pinS, unpinS, Md.may, ↓reduceIte, Bool.false_eq_true, reduceCtorEq, ne_eq, not_false_eq_true, implies_true, D.pur, D.up]) rfl hl (fun d hm => ⟨false, ?_⟩) (fun o => rfl)
    have := law_doc_state o n d (by have := dep_mem hm; omega) (by have := dwid_mem hm; omega)
    simp only [mod_int, fdiv_int, mul_l, mul_r, small64, Int.reduceLT, Int.reduceNeg, decide_true, Bool.and_self, src_t, src_l, src_s, src_z, ev_append, ev_extend, ev_pop, ev_index, ev_join, rcvG_true, rcv_idxT, rcv_idxL, rcv_join, lstV, lstG_some, tmpG_ok, isi_tt, isi_ti, isi_ts, isi_tb, isi_ss, isi_si, isi_st, isi_ii, isi_ib, isi_bi, eq_int, eq_str, ne_str, ne_int, eq_ts, lt_int, le_int, gt_int, ge_int, add_int, sub_int, bi_max2, bi_min2, bi_listL, bi_listT, bi_tuple, bi_tupT, bi_lenT, bi_lenL, slc_lst, slc_tup, rev_lst, ev_lrg, ev_slc11, prtG_some, slcG_ok, isL_int, isL_str, isL_tup, Bool.not_true, Bool.not_false, ss_nil, ss_cons, ex_set, ex_ife, ex_expr, ex_for, ex_whl, ex_ret, ex_retv, retF_own, retF_frz, ex_retN, ev_var, ev_cst, ev_glb, ev_bin, ev_neg, negV_int, ev_cmp, blV_ok, ev_not, notV_bl, iteV_bl, ev_and, ev_or, ev_and1, ev_and2, ev_or1, ev_or2, ev_ife, ev_tup, ev_lst, ev_idx, ev_rev, ev_bi, ev_isi, ev_slc10, ev_slc01, part_int, vs_nil, vs_cons, vl_nil, vl_cons, callR_ok, sizV_0, sizV_1, sizV_2, sizV_5, rdU, List.getElem?_cons_zero, List.getElem?_cons_succ, List.set_cons_zero, List.set_cons_succ, bndV_ok, lftV_ok, unpV_ok, retV_ok, sqV_nx, sqV_rt, unpF_nx, unpF_rt, pin_var, unpin_var, pin_glb, unpin_glb, pin_cst, unpin_cst, pin_bin, unpin_bin, pin_neg, unpin_neg, pin_cmp, unpin_cmp, pin_cmp2, unpin_cmp2, pin_and, unpin_and, pin_or, unpin_or, pin_not, unpin_not, pin_ife, unpin_ife, pin_tup, unpin_tup, pin_lst, unpin_lst, pin_idx, unpin_idx, pin_slc, unpin_slc, pin_rev, unpin_rev, pin_call, unpin_call, pin_bi, unpin_bi, pin_lrg, unpin_lrg, pin_mth, unpin_mth, pin_isi, unpin_isi, pin_comp, unpin_comp, pinS, unpinS, Md.may, ↓reduceIte, Bool.false_eq_true, reduceCtorEq, ne_eq, not_false_eq_true, implies_true, D.pur, D.up, ev_call0 ps16, this]
    rfl
  have ho := o.le
  have hM : (M.steps.map eR).length = k := by rw [List.length_map, o.tl]
  rw [c17]
  apply wp_end
  simp only [b17, l17_1, l17_2, s17_0, s17_1, s17_2, s17_3, s17_4, s17_5, s17_6, px17_0, qx17_0, nx17_0, mod_int, fdiv_int, mul_l, mul_r, small64, Int.reduceLT, Int.reduceNeg, decide_true, Bool.and_self, src_t, src_l, src_s, src_z, ev_append, ev_extend, ev_pop, ev_index, ev_join, rcvG_true, rcv_idxT, rcv_idxL, rcv_join, lstV, lstG_some, tmpG_ok, isi_tt, isi_ti, isi_ts, isi_tb, isi_ss, isi_si, isi_st, isi_ii, isi_ib, isi_bi, eq_int, eq_str, ne_str, ne_int, eq_ts, lt_int, le_int, gt_int, ge_int, add_int, sub_int, bi_max2, bi_min2, bi_listL, bi_listT, bi_tuple, bi_tupT, bi_lenT, bi_lenL, slc_lst, slc_tup, rev_lst, ev_lrg, ev_slc11, prtG_some, slcG_ok, isL_int, isL_str, isL_tup, Bool.not_true, Bool.not_false, ss_nil, ss_cons, ex_set, ex_ife, ex_expr, ex_for, ex_whl, ex_ret, ex_retv, retF_own, retF_frz, ex_retN, ev_var, ev_cst, ev_glb, ev_bin, ev_neg, negV_int, ev_cmp, blV_ok, ev_not, notV_bl, iteV_bl, ev_and, ev_or, ev_and1, ev_and2, ev_or1, ev_or2, ev_ife, ev_tup, ev_lst, ev_idx, ev_rev, ev_bi, ev_isi, ev_slc10, ev_slc01, part_int, vs_nil, vs_cons, vl_nil, vl_cons, callR_ok, sizV_0, sizV_1, sizV_2, sizV_5, rdU, List.getElem?_cons_zero, List.getElem?_cons_succ, List.set_cons_zero, List.set_cons_succ, bndV_ok, lftV_ok, unpV_ok, retV_ok, sqV_nx, sqV_rt, unpF_nx, unpF_rt, pin_var, unpin_var, pin_glb, unpin_glb, pin_cst, unpin_cst, pin_bin, unpin_bin, pin_neg, unpin_neg, pin_cmp, unpin_cmp, pin_cmp2, unpin_cmp2, pin_and, unpin_and, pin_or, unpin_or, pin_not, unpin_not, pin_ife, unpin_ife, pin_tup, unpin_tup, pin_lst, unpin_lst, pin_idx, unpin_idx, pin_slc, unpin_slc, pin_rev, unpin_rev, pin_call, unpin_call, pin_bi, unpin_bi, pin_lrg, unpin_lrg, pin_mth, unpin_mth, pin_isi, unpin_isi, pin_comp, unpin_comp, pinS, unpinS, Md.may, ↓reduceIte, Bool.false_eq_true, reduceCtorEq, ne_eq, not_false_eq_true, implies_true, D.pur, D.up, hc, M3, bi_lenT, hM, srcU_rng (show k ≤ 1000000 by omega)]
  refine wp_for (fun (p : Nat) => U.int p) (List.range k) (fun done e => ∃ q4 q6, e = [some (eM M, Md.bor), some (.lst (r.map eD), Md.bor), some (.lst ((done.map fun p => M.sems p r).map eN), Md.own), some (.lst ((r.map M.sem).map eN), Md.own), q4, none, q6, none]) rfl ⟨none, none, rfl⟩ ?_ ?_
  · rintro done p more hl e ⟨q4, q6, rfl⟩
    have hp : p < k := List.mem_range.mp (by rw [hl]; simp)
    have hdl : done.length < k := by
      have := congrArg List.length hl
      rw [List.length_range, List.length_append, List.length_cons] at this
      omega
    refine ⟨_, rfl, ?_⟩
    simp only [b17, l17_1, l17_2, s17_0, s17_1, s17_2, s17_3, s17_4, s17_5, s17_6, px17_0, qx17_0, nx17_0, mod_int, fdiv_int, mul_l, mul_r, small64, Int.reduceLT, Int.reduceNeg, decide_true, Bool.and_self, src_t, src_l, src_s, src_z, ev_append, ev_extend, ev_pop, ev_index, ev_join, rcvG_true, rcv_idxT, rcv_idxL, rcv_join, lstV, lstG_some, tmpG_ok, isi_tt, isi_ti, isi_ts, isi_tb, isi_ss, isi_si, isi_st, isi_ii, isi_ib, isi_bi, eq_int, eq_str, ne_str, ne_int, eq_ts, lt_int, le_int, gt_int, ge_int, add_int, sub_int, bi_max2, bi_min2, bi_listL, bi_listT, bi_tuple, bi_tupT, bi_lenT, bi_lenL, slc_lst, slc_tup, rev_lst, ev_lrg, ev_slc11, prtG_some, slcG_ok, isL_int, isL_str, isL_tup, Bool.not_true, Bool.not_false, ss_nil, ss_cons, ex_set, ex_ife, ex_expr, ex_for, ex_whl, ex_ret, ex_retv, retF_own, retF_frz, ex_retN, ev_var, ev_cst, ev_glb, ev_bin, ev_neg, negV_int, ev_cmp, blV_ok, ev_not, notV_bl, iteV_bl, ev_and, ev_or, ev_and1, ev_and2, ev_or1, ev_or2, ev_ife, ev_tup, ev_lst, ev_idx, ev_rev, ev_bi, ev_isi, ev_slc10, ev_slc01, part_int, vs_nil, vs_cons, vl_nil, vl_cons, callR_ok, sizV_0, sizV_1, sizV_2, sizV_5, rdU, List.getElem?_cons_zero, List.getElem?_cons_succ, List.set_cons_zero, List.set_cons_succ, bndV_ok, lftV_ok, unpV_ok, retV_ok, sqV_nx, sqV_rt, unpF_nx, unpF_rt, pin_var, unpin_var, pin_glb, unpin_glb, pin_cst, unpin_cst, pin_bin, unpin_bin, pin_neg, unpin_neg, pin_cmp, unpin_cmp, pin_cmp2, unpin_cmp2, pin_and, unpin_and, pin_or, unpin_or, pin_not, unpin_not, pin_ife, unpin_ife, pin_tup, unpin_tup, pin_lst, unpin_lst, pin_idx, unpin_idx, pin_slc, unpin_slc, pin_rev, unpin_rev, pin_call, unpin_call, pin_bi, unpin_bi, pin_lrg, unpin_lrg, pin_mth, unpin_mth, pin_isi, unpin_isi, pin_comp, unpin_comp, pinS, unpinS, Md.may, ↓reduceIte, Bool.false_eq_true, reduceCtorEq, ne_eq, not_false_eq_true, implies_true, D.pur, D.up]
    refine wp_for eN (r.map M.sem) (fun dn e => ∃ q6, e = [some (eM M, Md.bor), some (.lst (r.map eD), Md.bor), some (.lst ((done.map fun p => M.sems p r).map eN), Md.own), some (.lst ((r.map M.sem).map eN), Md.bor), some (eN (dn.foldl M.step p), Md.frz), none, q6, none]) rfl ⟨q6, rfl⟩ ?_ ?_
    · rintro dn y mr hl2 e ⟨q6, rfl⟩
      have hall : ∀ s, s ∈ r.map M.sem → s < k := fun s hs => by
        obtain ⟨d, _, rfl⟩ := List.mem_map.mp hs
        exact o.sem d
      have hy : y < k := hall y (by rw [hl2]; simp)
      have hdn : dn.foldl M.step p < k := foldl_lt o dn hp fun s h => hall s (by rw [hl2]; simp [h])
      obtain ⟨r', r1, r2⟩ := row_ix o hdn
      refine ⟨_, rfl, ?_⟩
      simp only [b17, l17_1, l17_2, s17_0, s17_1, s17_2, s17_3, s17_4, s17_5, s17_6, px17_0, qx17_0, nx17_0, mod_int, fdiv_int, mul_l, mul_r, small64, Int.reduceLT, Int.reduceNeg, decide_true, Bool.and_self, src_t, src_l, src_s, src_z, ev_append, ev_extend, ev_pop, ev_index, ev_join, rcvG_true, rcv_idxT, rcv_idxL, rcv_join, lstV, lstG_some, tmpG_ok, isi_tt, isi_ti, isi_ts, isi_tb, isi_ss, isi_si, isi_st, isi_ii, isi_ib, isi_bi, eq_int, eq_str, ne_str, ne_int, eq_ts, lt_int, le_int, gt_int, ge_int, add_int, sub_int, bi_max2, bi_min2, bi_listL, bi_listT, bi_tuple, bi_tupT, bi_lenT, bi_lenL, slc_lst, slc_tup, rev_lst, ev_lrg, ev_slc11, prtG_some, slcG_ok, isL_int, isL_str, isL_tup, Bool.not_true, Bool.not_false, ss_nil, ss_cons, ex_set, ex_ife, ex_expr, ex_for, ex_whl, ex_ret, ex_retv, retF_own, retF_frz, ex_retN, ev_var, ev_cst, ev_glb, ev_bin, ev_neg, negV_int, ev_cmp, blV_ok, ev_not, notV_bl, iteV_bl, ev_and, ev_or, ev_and1, ev_and2, ev_or1, ev_or2, ev_ife, ev_tup, ev_lst, ev_idx, ev_rev, ev_bi, ev_isi, ev_slc10, ev_slc01, part_int, vs_nil, vs_cons, vl_nil, vl_cons, callR_ok, sizV_0, sizV_1, sizV_2, sizV_5, rdU, List.getElem?_cons_zero, List.getElem?_cons_succ, List.set_cons_zero, List.set_cons_succ, bndV_ok, lftV_ok, unpV_ok, retV_ok, sqV_nx, sqV_rt, unpF_nx, unpF_rt, pin_var, unpin_var, pin_glb, unpin_glb, pin_cst, unpin_cst, pin_bin, unpin_bin, pin_neg, unpin_neg, pin_cmp, unpin_cmp, pin_cmp2, unpin_cmp2, pin_and, unpin_and, pin_or, unpin_or, pin_not, unpin_not, pin_ife, unpin_ife, pin_tup, unpin_tup, pin_lst, unpin_lst, pin_idx, unpin_idx, pin_slc, unpin_slc, pin_rev, unpin_rev, pin_call, unpin_call, pin_bi, unpin_bi, pin_lrg, unpin_lrg, pin_mth, unpin_mth, pin_isi, unpin_isi, pin_comp, unpin_comp, pinS, unpinS, Md.may, ↓reduceIte, Bool.false_eq_true, reduceCtorEq, ne_eq, not_false_eq_true, implies_true, D.pur, D.up, M3, r1, r2 _ hy]
      exact wp_ok ⟨_, by rw [List.foldl_append]; rfl⟩
    · rintro e ⟨q6, rfl⟩
      have g : ((done.map fun p => M.sems p r).map eN).length < 1000000 := by rw [List.length_map, List.length_map]; omega
      simp only [b17, l17_1, l17_2, s17_0, s17_1, s17_2, s17_3, s17_4, s17_5, s17_6, px17_0, qx17_0, nx17_0, mod_int, fdiv_int, mul_l, mul_r, small64, Int.reduceLT, Int.reduceNeg, decide_true, Bool.and_self, src_t, src_l, src_s, src_z, ev_append, ev_extend, ev_pop, ev_index, ev_join, rcvG_true, rcv_idxT, rcv_idxL, rcv_join, lstV, lstG_some, tmpG_ok, isi_tt, isi_ti, isi_ts, isi_tb, isi_ss, isi_si, isi_st, isi_ii, isi_ib, isi_bi, eq_int, eq_str, ne_str, ne_int, eq_ts, lt_int, le_int, gt_int, ge_int, add_int, sub_int, bi_max2, bi_min2, bi_listL, bi_listT, bi_tuple, bi_tupT, bi_lenT, bi_lenL, slc_lst, slc_tup, rev_lst, ev_lrg, ev_slc11, prtG_some, slcG_ok, isL_int, isL_str, isL_tup, Bool.not_true, Bool.not_false, ss_nil, ss_cons, ex_set, ex_ife, ex_expr, ex_for, ex_whl, ex_ret, ex_retv, retF_own, retF_frz, ex_retN, ev_var, ev_cst, ev_glb, ev_bin, ev_neg, negV_int, ev_cmp, blV_ok, ev_not, notV_bl, iteV_bl, ev_and, ev_or, ev_and1, ev_and2, ev_or1, ev_or2, ev_ife, ev_tup, ev_lst, ev_idx, ev_rev, ev_bi, ev_isi, ev_slc10, ev_slc01, part_int, vs_nil, vs_cons, vl_nil, vl_cons, callR_ok, sizV_0, sizV_1, sizV_2, sizV_5, rdU, List.getElem?_cons_zero, List.getElem?_cons_succ, List.set_cons_zero, List.set_cons_succ, bndV_ok, lftV_ok, unpV_ok, retV_ok, sqV_nx, sqV_rt, unpF_nx, unpF_rt, pin_var, unpin_var, pin_glb, unpin_glb, pin_cst, unpin_cst, pin_bin, unpin_bin, pin_neg, unpin_neg, pin_cmp, unpin_cmp, pin_cmp2, unpin_cmp2, pin_and, unpin_and, pin_or, unpin_or, pin_not, unpin_not, pin_ife, unpin_ife, pin_tup, unpin_tup, pin_lst, unpin_lst, pin_idx, unpin_idx, pin_slc, unpin_slc, pin_rev, unpin_rev, pin_call, unpin_call, pin_bi, unpin_bi, pin_lrg, unpin_lrg, pin_mth, unpin_mth, pin_isi, unpin_isi, pin_comp, unpin_comp, pinS, unpinS, Md.may, ↓reduceIte, Bool.false_eq_true, reduceCtorEq, ne_eq, not_false_eq_true, implies_true, D.pur, D.up, appG_ok g, foldl_sems]
      exact wp_ok ⟨_, _, by rw [List.map_append, List.map_append]; rfl⟩
  · rintro e ⟨q4, q6, rfl⟩
    have g : ∀ u : U, (((List.range k).map fun p => M.sems p r).map eN).length + [u].length ≤ 1000000 := fun u => by
      rw [List.length_map, List.length_map, List.length_range, List.length_singleton]
      omega
    have hq : ((r.map M.sem).map eN).length = r.length := by rw [List.length_map, List.length_map]
    have fin : ∀ u : U, u = .int (M.wl r) → endV [] false (some (FV.rt (U.tup (((List.range k).map fun p => M.sems p r).map eN ++ [u])) false [some (eM M, Md.bor), some (.lst (r.map eD), Md.bor), some (.lst (((List.range k).map fun p => M.sems p r).map eN), Md.own), some (.lst ((r.map M.sem).map eN), Md.own), q4, some (u, Md.frz), q6, none])) = some (.ok (M.way k r, false), []) := fun u hu => by
      subst hu
      exact end_pur (pur_way M k r)
    match r, hq with
    | [], hq =>
      have z0 : ((([] : List Doc).length : Int) == 0) = true := rfl
      have z1 : ((([] : List Doc).length : Int) == 1) = false := rfl
      simp only [b17, l17_1, l17_2, s17_0, s17_1, s17_2, s17_3, s17_4, s17_5, s17_6, px17_0, qx17_0, nx17_0, mod_int, fdiv_int, mul_l, mul_r, small64, Int.reduceLT, Int.reduceNeg, decide_true, Bool.and_self, src_t, src_l, src_s, src_z, ev_append, ev_extend, ev_pop, ev_index, ev_join, rcvG_true, rcv_idxT, rcv_idxL, rcv_join, lstV, lstG_some, tmpG_ok, isi_tt, isi_ti, isi_ts, isi_tb, isi_ss, isi_si, isi_st, isi_ii, isi_ib, isi_bi, eq_int, eq_str, ne_str, ne_int, eq_ts, lt_int, le_int, gt_int, ge_int, add_int, sub_int, bi_max2, bi_min2, bi_listL, bi_listT, bi_tuple, bi_tupT, bi_lenT, bi_lenL, slc_lst, slc_tup, rev_lst, ev_lrg, ev_slc11, prtG_some, slcG_ok, isL_int, isL_str, isL_tup, Bool.not_true, Bool.not_false, ss_nil, ss_cons, ex_set, ex_ife, ex_expr, ex_for, ex_whl, ex_ret, ex_retv, retF_own, retF_frz, ex_retN, ev_var, ev_cst, ev_glb, ev_bin, ev_neg, negV_int, ev_cmp, blV_ok, ev_not, notV_bl, iteV_bl, ev_and, ev_or, ev_and1, ev_and2, ev_or1, ev_or2, ev_ife, ev_tup, ev_lst, ev_idx, ev_rev, ev_bi, ev_isi, ev_slc10, ev_slc01, part_int, vs_nil, vs_cons, vl_nil, vl_cons, callR_ok, sizV_0, sizV_1, sizV_2, sizV_5, rdU, List.getElem?_cons_zero, List.getElem?_cons_succ, List.set_cons_zero, List.set_cons_succ, bndV_ok, lftV_ok, unpV_ok, retV_ok, sqV_nx, sqV_rt, unpF_nx, unpF_rt, pin_var, unpin_var, pin_glb, unpin_glb, pin_cst, unpin_cst, pin_bin, unpin_bin, pin_neg, unpin_neg, pin_cmp, unpin_cmp, pin_cmp2, unpin_cmp2, pin_and, unpin_and, pin_or, unpin_or, pin_not, unpin_not, pin_ife, unpin_ife, pin_tup, unpin_tup, pin_lst, unpin_lst, pin_idx, unpin_idx, pin_slc, unpin_slc, pin_rev, unpin_rev, pin_call, unpin_call, pin_bi, unpin_bi, pin_lrg, unpin_lrg, pin_mth, unpin_mth, pin_isi, unpin_isi, pin_comp, unpin_comp, pinS, unpinS, Md.may, ↓reduceIte, Bool.false_eq_true, reduceCtorEq, ne_eq, not_false_eq_true, implies_true, D.pur, D.up, hq, z0, z1, add_lst (g _)]
      exact wp_ok (by exact fin _ rfl)
    | [d], hq =>
      have z0 : ((([d] : List Doc).length : Int) == 0) = false := rfl
      have z1 : ((([d] : List Doc).length : Int) == 1) = true := rfl
      have i0 : idxU (.lst (([d].map M.sem).map eN)) (.int 0) = some (eN (M.sem d), false) := rfl
      simp only [b17, l17_1, l17_2, s17_0, s17_1, s17_2, s17_3, s17_4, s17_5, s17_6, px17_0, qx17_0, nx17_0, mod_int, fdiv_int, mul_l, mul_r, small64, Int.reduceLT, Int.reduceNeg, decide_true, Bool.and_self, src_t, src_l, src_s, src_z, ev_append, ev_extend, ev_pop, ev_index, ev_join, rcvG_true, rcv_idxT, rcv_idxL, rcv_join, lstV, lstG_some, tmpG_ok, isi_tt, isi_ti, isi_ts, isi_tb, isi_ss, isi_si, isi_st, isi_ii, isi_ib, isi_bi, eq_int, eq_str, ne_str, ne_int, eq_ts, lt_int, le_int, gt_int, ge_int, add_int, sub_int, bi_max2, bi_min2, bi_listL, bi_listT, bi_tuple, bi_tupT, bi_lenT, bi_lenL, slc_lst, slc_tup, rev_lst, ev_lrg, ev_slc11, prtG_some, slcG_ok, isL_int, isL_str, isL_tup, Bool.not_true, Bool.not_false, ss_nil, ss_cons, ex_set, ex_ife, ex_expr, ex_for, ex_whl, ex_ret, ex_retv, retF_own, retF_frz, ex_retN, ev_var, ev_cst, ev_glb, ev_bin, ev_neg, negV_int, ev_cmp, blV_ok, ev_not, notV_bl, iteV_bl, ev_and, ev_or, ev_and1, ev_and2, ev_or1, ev_or2, ev_ife, ev_tup, ev_lst, ev_idx, ev_rev, ev_bi, ev_isi, ev_slc10, ev_slc01, part_int, vs_nil, vs_cons, vl_nil, vl_cons, callR_ok, sizV_0, sizV_1, sizV_2, sizV_5, rdU, List.getElem?_cons_zero, List.getElem?_cons_succ, List.set_cons_zero, List.set_cons_succ, bndV_ok, lftV_ok, unpV_ok, retV_ok, sqV_nx, sqV_rt, unpF_nx, unpF_rt, pin_var, unpin_var, pin_glb, unpin_glb, pin_cst, unpin_cst, pin_bin, unpin_bin, pin_neg, unpin_neg, pin_cmp, unpin_cmp, pin_cmp2, unpin_cmp2, pin_and, unpin_and, pin_or, unpin_or, pin_not, unpin_not, pin_ife, unpin_ife, pin_tup, unpin_tup, pin_lst, unpin_lst, pin_idx, unpin_idx, pin_slc, unpin_slc, pin_rev, unpin_rev, pin_call, unpin_call, pin_bi, unpin_bi, pin_lrg, unpin_lrg, pin_mth, unpin_mth, pin_isi, unpin_isi, pin_comp, unpin_comp, pinS, unpinS, Md.may, ↓reduceIte, Bool.false_eq_true, reduceCtorEq, ne_eq, not_false_eq_true, implies_true, D.pur, D.up, hq, z0, z1, i0, add_lst (g _)]
      exact wp_ok (by exact fin _ rfl)
    | d :: d2 :: ds, hq =>
      have z0 : (((d :: d2 :: ds).length : Int) == 0) = false := beq_eq_false_iff_ne.mpr (by rw [List.length_cons]; omega)
      have z1 : (((d :: d2 :: ds).length : Int) == 1) = false := beq_eq_false_iff_ne.mpr (by rw [List.length_cons, List.length_cons]; omega)
      simp only [b17, l17_1, l17_2, s17_0, s17_1, s17_2, s17_3, s17_4, s17_5, s17_6, px17_0, qx17_0, nx17_0, mod_int, fdiv_int, mul_l, mul_r, small64, Int.reduceLT, Int.reduceNeg, decide_true, Bool.and_self, src_t, src_l, src_s, src_z, ev_append, ev_extend, ev_pop, ev_index, ev_join, rcvG_true, rcv_idxT, rcv_idxL, rcv_join, lstV, lstG_some, tmpG_ok, isi_tt, isi_ti, isi_ts, isi_tb, isi_ss, isi_si, isi_st, isi_ii, isi_ib, isi_bi, eq_int, eq_str, ne_str, ne_int, eq_ts, lt_int, le_int, gt_int, ge_int, add_int, sub_int, bi_max2, bi_min2, bi_listL, bi_listT, bi_tuple, bi_tupT, bi_lenT, bi_lenL, slc_lst, slc_tup, rev_lst, ev_lrg, ev_slc11, prtG_some, slcG_ok, isL_int, isL_str, isL_tup, Bool.not_true, Bool.not_false, ss_nil, ss_cons, ex_set, ex_ife, ex_expr, ex_for, ex_whl, ex_ret, ex_retv, retF_own, retF_frz, ex_retN, ev_var, ev_cst, ev_glb, ev_bin, ev_neg, negV_int, ev_cmp, blV_ok, ev_not, notV_bl, iteV_bl, ev_and, ev_or, ev_and1, ev_and2, ev_or1, ev_or2, ev_ife, ev_tup, ev_lst, ev_idx, ev_rev, ev_bi, ev_isi, ev_slc10, ev_slc01, part_int, vs_nil, vs_cons, vl_nil, vl_cons, callR_ok, sizV_0, sizV_1, sizV_2, sizV_5, rdU, List.getElem?_cons_zero, List.getElem?_cons_succ, List.set_cons_zero, List.set_cons_succ, bndV_ok, lftV_ok, unpV_ok, retV_ok, sqV_nx, sqV_rt, unpF_nx, unpF_rt, pin_var, unpin_var, pin_glb, unpin_glb, pin_cst, unpin_cst, pin_bin, unpin_bin, pin_neg, unpin_neg, pin_cmp, unpin_cmp, pin_cmp2, unpin_cmp2, pin_and, unpin_and, pin_or, unpin_or, pin_not, unpin_not, pin_ife, unpin_ife, pin_tup, unpin_tup, pin_lst, unpin_lst, pin_idx, unpin_idx, pin_slc, unpin_slc, pin_rev, unpin_rev, pin_call, unpin_call, pin_bi, unpin_bi, pin_lrg, unpin_lrg, pin_mth, unpin_mth, pin_isi, unpin_isi, pin_comp, unpin_comp, pinS, unpinS, Md.may, ↓reduceIte, Bool.false_eq_true, reduceCtorEq, ne_eq, not_false_eq_true, implies_true, D.pur, D.up, hq, z0, z1, add_lst (g _)]
      exact wp_ok (by exact fin _ rfl)
theorem law_same : ∀ (n : Nat) (u : U), u.pl = true → u.dep < n → (∀ xs, u = .tup xs → True) → (U.wdt u ≤ 1000000) → callV cfg n 20 [u, u] = some (.ok (.bl true, false), [])
  | 0, _, _, h, _, _ => absurd h (by omega)
  | n + 1, u, hp, h, _, hw => by
    rw [c20]
    apply wp_end
    cases u with
    | int i =>
      have e1 : (i == i) = true := beq_self_eq_true i
      simp only [b20, s20_0, s20_1, s20_2, px20_0, qx20_0, nx20_0, mod_int, fdiv_int, mul_l, mul_r, small64, Int.reduceLT, Int.reduceNeg, decide_true, Bool.and_self, src_t, src_l, src_s, src_z, ev_append, ev_extend, ev_pop, ev_index, ev_join, rcvG_true, rcv_idxT, rcv_idxL, rcv_join, lstV, lstG_some, tmpG_ok, isi_tt, isi_ti, isi_ts, isi_tb, isi_ss, isi_si, isi_st, isi_ii, isi_ib, isi_bi, eq_int, eq_str, ne_str, ne_int, eq_ts, lt_int, le_int, gt_int, ge_int, add_int, sub_int, bi_max2, bi_min2, bi_listL, bi_listT, bi_tuple, bi_tupT, bi_lenT, bi_lenL, slc_lst, slc_tup, rev_lst, ev_lrg, ev_slc11, prtG_some, slcG_ok, isL_int, isL_str, isL_tup, Bool.not_true, Bool.not_false, ss_nil, ss_cons, ex_set, ex_ife, ex_expr, ex_for, ex_whl, ex_ret, ex_retv, retF_own, retF_frz, ex_retN, ev_var, ev_cst, ev_glb, ev_bin, ev_neg, negV_int, ev_cmp, blV_ok, ev_not, notV_bl, iteV_bl, ev_and, ev_or, ev_and1, ev_and2, ev_or1, ev_or2, ev_ife, ev_tup, ev_lst, ev_idx, ev_rev, ev_bi, ev_isi, ev_slc10, ev_slc01, part_int, vs_nil, vs_cons, vl_nil, vl_cons, callR_ok, sizV_0, sizV_1, sizV_2, sizV_5, rdU, List.getElem?_cons_zero, List.getElem?_cons_succ, List.set_cons_zero, List.set_cons_succ, bndV_ok, lftV_ok, unpV_ok, retV_ok, sqV_nx, sqV_rt, unpF_nx, unpF_rt, pin_var, unpin_var, pin_glb, unpin_glb, pin_cst, unpin_cst, pin_bin, unpin_bin, pin_neg, unpin_neg, pin_cmp, unpin_cmp, pin_cmp2, unpin_cmp2, pin_and, unpin_and, pin_or, unpin_or, pin_not, unpin_not, pin_ife, unpin_ife, pin_tup, unpin_tup, pin_lst, unpin_lst, pin_idx, unpin_idx, pin_slc, unpin_slc, pin_rev, unpin_rev, pin_call, unpin_call, pin_bi, unpin_bi, pin_lrg, unpin_lrg, pin_mth, unpin_mth, pin_isi, unpin_isi, pin_comp, unpin_comp, pinS, unpinS, Md.may, ↓reduceIte, Bool.false_eq_true, reduceCtorEq, ne_eq, not_false_eq_true, implies_true, D.pur, D.up, e1]
      exact wp_ok rfl
    | str s =>
      have e1 : (s == s) = true := beq_self_eq_true s
      simp only [b20, s20_0, s20_1, s20_2, px20_0, qx20_0, nx20_0, mod_int, fdiv_int, mul_l, mul_r, small64, Int.reduceLT, Int.reduceNeg, decide_true, Bool.and_self, src_t, src_l, src_s, src_z, ev_append, ev_extend, ev_pop, ev_index, ev_join, rcvG_true, rcv_idxT, rcv_idxL, rcv_join, lstV, lstG_some, tmpG_ok, isi_tt, isi_ti, isi_ts, isi_tb, isi_ss, isi_si, isi_st, isi_ii, isi_ib, isi_bi, eq_int, eq_str, ne_str, ne_int, eq_ts, lt_int, le_int, gt_int, ge_int, add_int, sub_int, bi_max2, bi_min2, bi_listL, bi_listT, bi_tuple, bi_tupT, bi_lenT, bi_lenL, slc_lst, slc_tup, rev_lst, ev_lrg, ev_slc11, prtG_some, slcG_ok, isL_int, isL_str, isL_tup, Bool.not_true, Bool.not_false, ss_nil, ss_cons, ex_set, ex_ife, ex_expr, ex_for, ex_whl, ex_ret, ex_retv, retF_own, retF_frz, ex_retN, ev_var, ev_cst, ev_glb, ev_bin, ev_neg, negV_int, ev_cmp, blV_ok, ev_not, notV_bl, iteV_bl, ev_and, ev_or, ev_and1, ev_and2, ev_or1, ev_or2, ev_ife, ev_tup, ev_lst, ev_idx, ev_rev, ev_bi, ev_isi, ev_slc10, ev_slc01, part_int, vs_nil, vs_cons, vl_nil, vl_cons, callR_ok, sizV_0, sizV_1, sizV_2, sizV_5, rdU, List.getElem?_cons_zero, List.getElem?_cons_succ, List.set_cons_zero, List.set_cons_succ, bndV_ok, lftV_ok, unpV_ok, retV_ok, sqV_nx, sqV_rt, unpF_nx, unpF_rt, pin_var, unpin_var, pin_glb, unpin_glb, pin_cst, unpin_cst, pin_bin, unpin_bin, pin_neg, unpin_neg, pin_cmp, unpin_cmp, pin_cmp2, unpin_cmp2, pin_and, unpin_and, pin_or, unpin_or, pin_not, unpin_not, pin_ife, unpin_ife, pin_tup, unpin_tup, pin_lst, unpin_lst, pin_idx, unpin_idx, pin_slc, unpin_slc, pin_rev, unpin_rev, pin_call, unpin_call, pin_bi, unpin_bi, pin_lrg, unpin_lrg, pin_mth, unpin_mth, pin_isi, unpin_isi, pin_comp, unpin_comp, pinS, unpinS, Md.may, ↓reduceIte, Bool.false_eq_true, reduceCtorEq, ne_eq, not_false_eq_true, implies_true, D.pur, D.up, e1]
      exact wp_ok rfl
    | tup xs =>
      have hp' : U.pls xs = true := hp
      have hd : U.deps xs + 1 < n + 1 := h
      have hw' : max xs.length (U.wdts xs) ≤ 1000000 := hw
      have e1 : ((xs.length : Int) == (xs.length : Int)) = true := beq_self_eq_true _
      have hc : evV cfg (callV cfg n) x20_0 false [some (.tup xs, .bor), some (.tup xs, .bor), none, none] = some (.ok (.lst ((xs.map fun _ => true).map .bl), true), [some (.tup xs, .bor), some (.tup xs, .bor), none, none]) := by
        unfold x20_0
        obtain ⟨acc, e1, h1, h2, a, b, h3⟩ := ev_compI (c := cfg) (cV := callV cfg n) (esc := false) (env := [some (.tup xs, .bor), some (.tup xs, .bor), none, none]) (env0 := [some (.tup xs, .bor), some (.tup xs, .bor), none, none]) (xs := [.tup xs, .tup xs]) (fun x => U.tup [x, x]) xs (fun done acc e => acc = (done.map fun _ => true).map U.bl ∧ ∃ a b, e = [some (.tup xs, .bor), some (.tup xs, .bor), a, b]) (g := .tup [2, 3]) (k := .zip) (es := .cons (.var 0) (.cons (.var 1) .nil)) (e := .call 20 (.cons (.var 2) (.cons (.var 3) .nil))) (own := [2, 3]) (by simp only [mod_int, fdiv_int, mul_l, mul_r, small64, Int.reduceLT, Int.reduceNeg, decide_true, Bool.and_self, src_t, src_l, src_s, src_z, ev_append, ev_extend, ev_pop, ev_index, ev_join, rcvG_true, rcv_idxT, rcv_idxL, rcv_join, lstV, lstG_some, tmpG_ok, isi_tt, isi_ti, isi_ts, isi_tb, isi_ss, isi_si, isi_st, isi_ii, isi_ib, isi_bi, eq_int, eq_str, ne_str, ne_int, eq_ts, lt_int, le_int, gt_int, ge_int, add_int, sub_int, bi_max2, bi_min2, bi_listL, bi_listT, bi_tuple, bi_tupT, bi_lenT, bi_lenL, slc_lst, slc_tup, rev_lst, ev_lrg, ev_slc11, prtG_some, slcG_ok, isL_int, isL_str, isL_tup, Bool.not_true, Bool.not_false, ss_nil, ss_cons, ex_set, ex_ife, ex_expr, ex_for, ex_whl, ex_ret, ex_retv, retF_own, retF_frz, ex_retN, ev_var, ev_cst, ev_glb, ev_bin, ev_neg, negV_int, ev_cmp, blV_ok, ev_not, notV_bl, iteV_bl, ev_and, ev_or, ev_and1, ev_and2, ev_or1, ev_or2, ev_ife, ev_tup, ev_lst, ev_idx, ev_rev, ev_bi, ev_isi, ev_slc10, ev_slc01, part_int, vs_nil, vs_cons, vl_nil, vl_cons, callR_ok, sizV_0, sizV_1, sizV_2, sizV_5, rdU, List.getElem?_cons_zero, List.getElem?_cons_succ, List.set_cons_zero, List.set_cons_succ, bndV_ok, lftV_ok, unpV_ok, retV_ok, sqV_nx, sqV_rt, unpF_nx, unpF_rt, pin_var, unpin_var, pin_glb, unpin_glb, pin_cst, unpin_cst, pin_bin, unpin_bin, pin_neg, unpin_neg, pin_cmp, unpin_cmp, pin_cmp2, unpin_cmp2, pin_and, unpin_and, pin_or, unpin_or, pin_not, unpin_not, pin_ife, unpin_ife, pin_tup, unpin_tup, pin_lst, unpin_lst, pin_idx, unpin_idx, pin_slc, unpin_slc, pin_rev, unpin_rev, pin_call, unpin_call, pin_bi, unpin_bi, pin_lrg, unpin_lrg, pin_mth, unpin_mth, pin_isi, unpin_isi, pin_comp, unpin_comp, pinS, unpinS, Md.may, ↓reduceIte, Bool.false_eq_true, reduceCtorEq, ne_eq, not_false_eq_true, implies_true, D.pur, D.up]) (by rw [src_z, zip_self]) (by omega) rfl ⟨rfl, none, none, rfl⟩ (fun done x more hl acc e ⟨ha, a, b, he⟩ => by
          subst ha
          subst he
          have hx : x ∈ xs := by rw [hl]; simp
          have hin := law_same n x (pls_mem hp' hx) (by have := dep_memU hx; omega) (fun _ _ => trivial) (by have := wdt_memU hx; omega)
          refine ⟨[some (.tup xs, .bor), some (.tup xs, .bor), some (x, .frz), some (x, .frz)], .bl true, false, [some (.tup xs, .bor), some (.tup xs, .bor), some (x, .frz), some (x, .frz)], rfl, ?_, ?_, _, _, rfl⟩
          · simp only [mod_int, fdiv_int, mul_l, mul_r, small64, Int.reduceLT, Int.reduceNeg, decide_true, Bool.and_self, src_t, src_l, src_s, src_z, ev_append, ev_extend, ev_pop, ev_index, ev_join, rcvG_true, rcv_idxT, rcv_idxL, rcv_join, lstV, lstG_some, tmpG_ok, isi_tt, isi_ti, isi_ts, isi_tb, isi_ss, isi_si, isi_st, isi_ii, isi_ib, isi_bi, eq_int, eq_str, ne_str, ne_int, eq_ts, lt_int, le_int, gt_int, ge_int, add_int, sub_int, bi_max2, bi_min2, bi_listL, bi_listT, bi_tuple, bi_tupT, bi_lenT, bi_lenL, slc_lst, slc_tup, rev_lst, ev_lrg, ev_slc11, prtG_some, slcG_ok, isL_int, isL_str, isL_tup, Bool.not_true, Bool.not_false, ss_nil, ss_cons, ex_set, ex_ife, ex_expr, ex_for, ex_whl, ex_ret, ex_retv, retF_own, retF_frz, ex_retN, ev_var, ev_cst, ev_glb, ev_bin, ev_neg, negV_int, ev_cmp, blV_ok, ev_not, notV_bl, iteV_bl, ev_and, ev_or, ev_and1, ev_and2, ev_or1, ev_or2, ev_ife, ev_tup, ev_lst, ev_idx, ev_rev, ev_bi, ev_isi, ev_slc10, ev_slc01, part_int, vs_nil, vs_cons, vl_nil, vl_cons, callR_ok, sizV_0, sizV_1, sizV_2, sizV_5, rdU, List.getElem?_cons_zero, List.getElem?_cons_succ, List.set_cons_zero, List.set_cons_succ, bndV_ok, lftV_ok, unpV_ok, retV_ok, sqV_nx, sqV_rt, unpF_nx, unpF_rt, pin_var, unpin_var, pin_glb, unpin_glb, pin_cst, unpin_cst, pin_bin, unpin_bin, pin_neg, unpin_neg, pin_cmp, unpin_cmp, pin_cmp2, unpin_cmp2, pin_and, unpin_and, pin_or, unpin_or, pin_not, unpin_not, pin_ife, unpin_ife, pin_tup, unpin_tup, pin_lst, unpin_lst, pin_idx, unpin_idx, pin_slc, unpin_slc, pin_rev, unpin_rev, pin_call, unpin_call, pin_bi, unpin_bi, pin_lrg, unpin_lrg, pin_mth, unpin_mth, pin_isi, unpin_isi, pin_comp, unpin_comp, pinS, unpinS, Md.may, ↓reduceIte, Bool.false_eq_true, reduceCtorEq, ne_eq, not_false_eq_true, implies_true, D.pur, D.up, ev_call0 ps20, hin]
          · rw [List.map_append, List.map_append]
            rfl)
        rw [h1, h2, h3]
        rfl
      simp only [b20, s20_0, s20_1, s20_2, px20_0, qx20_0, nx20_0, mod_int, fdiv_int, mul_l, mul_r, small64, Int.reduceLT, Int.reduceNeg, decide_true, Bool.and_self, src_t, src_l, src_s, src_z, ev_append, ev_extend, ev_pop, ev_index, ev_join, rcvG_true, rcv_idxT, rcv_idxL, rcv_join, lstV, lstG_some, tmpG_ok, isi_tt, isi_ti, isi_ts, isi_tb, isi_ss, isi_si, isi_st, isi_ii, isi_ib, isi_bi, eq_int, eq_str, ne_str, ne_int, eq_ts, lt_int, le_int, gt_int, ge_int, add_int, sub_int, bi_max2, bi_min2, bi_listL, bi_listT, bi_tuple, bi_tupT, bi_lenT, bi_lenL, slc_lst, slc_tup, rev_lst, ev_lrg, ev_slc11, prtG_some, slcG_ok, isL_int, isL_str, isL_tup, Bool.not_true, Bool.not_false, ss_nil, ss_cons, ex_set, ex_ife, ex_expr, ex_for, ex_whl, ex_ret, ex_retv, retF_own, retF_frz, ex_retN, ev_var, ev_cst, ev_glb, ev_bin, ev_neg, negV_int, ev_cmp, blV_ok, ev_not, notV_bl, iteV_bl, ev_and, ev_or, ev_and1, ev_and2, ev_or1, ev_or2, ev_ife, ev_tup, ev_lst, ev_idx, ev_rev, ev_bi, ev_isi, ev_slc10, ev_slc01, part_int, vs_nil, vs_cons, vl_nil, vl_cons, callR_ok, sizV_0, sizV_1, sizV_2, sizV_5, rdU, List.getElem?_cons_zero, List.getElem?_cons_succ, List.set_cons_zero, List.set_cons_succ, bndV_ok, lftV_ok, unpV_ok, retV_ok, sqV_nx, sqV_rt, unpF_nx, unpF_rt, pin_var, unpin_var, pin_glb, unpin_glb, pin_cst, unpin_cst, pin_bin, unpin_bin, pin_neg, unpin_neg, pin_cmp, unpin_cmp, pin_cmp2, unpin_cmp2, pin_and, unpin_and, pin_or, unpin_or, pin_not, unpin_not, pin_ife, unpin_ife, pin_tup, unpin_tup, pin_lst, unpin_lst, pin_idx, unpin_idx, pin_slc, unpin_slc, pin_rev, unpin_rev, pin_call, unpin_call, pin_bi, unpin_bi, pin_lrg, unpin_lrg, pin_mth, unpin_mth, pin_isi, unpin_isi, pin_comp, unpin_comp, pinS, unpinS, Md.may, ↓reduceIte, Bool.false_eq_true, reduceCtorEq, ne_eq, not_false_eq_true, implies_true, D.pur, D.up, e1, hc, bi_all]
      refine wp_ok ?_
      have : ((xs.map fun _ => true).all id) = true := by
        rw [List.all_map]
        exact List.all_eq_true.mpr fun _ _ => rfl
      rw [this]
      rfl
    | _ => cases hp
theorem law_same_way {M : Ma} {k : Nat} (o : M.Ok k) (r : List Doc) (n : Nat) : callV cfg (n + 2) 20 [M.way k r, M.way k r] = some (.ok (.bl true, false), []) :=
  law_same (n + 2) _ (pl_eW _ _) (by unfold Ma.way; rw [dep_eW]; omega) (fun _ _ => trivial) (by
    unfold Ma.way
    rw [wdt_eW, wf_len]
    have := o.le
    omega)
/-- a row of numbers drawn -/
theorem ev_draws {A : Type} {env : VE} {ti i m n : Nat} {t : List Int} {e : E} {k : Ik} {es : Es} {xs : List U} {l : List A} {esc : Bool} (enc : A → U) (hm : 0 < m) (ht : env[ti]? = some (some (iL t, .own))) (hi : i ≠ ti) (hs : env.set i (safeV env[i]?) = env)
    (hsrc : evVl cfg (callV cfg (n + 1)) es env = some (.ok xs, env)) (hpin : pinS es env = env) (hup : ∀ e', unpinS es env e' = e') (hus : srcU k xs = some (l.map enc)) (hl : l.length ≤ 1000000)
    (hmod : ∀ o t', evVl cfg (callV cfg (n + 1)) (.cons e .nil) ((env.set ti (some (iL t', .own))).set i o) = some (.ok [.int m], (env.set ti (some (iL t', .own))).set i o)) (hap : apartV [0] [ti] 1 (.cons e .nil) = true) :
    ∃ (ns : List Nat) (t' : List Int), ns.length = l.length ∧ (∀ x, x ∈ ns → x < m) ∧ evV cfg (callV cfg (n + 1)) (.comp (.name i) k es .nil (.call 11 (.cons (.var ti) (.cons e .nil))) [i]) esc env = some (.ok (.lst (ns.map eN), true), env.set ti (some (iL t', .own))) := by
  have hti : ti < env.length := (List.getElem?_eq_some_iff.mp ht).1
  have h0 : env.set ti (some (iL t, .own)) = env := set_get ht
  obtain ⟨acc, e1, h1, ns, t', o, ha, hn, hlt, he⟩ := ev_compI (esc := esc) (c := cfg) (cV := callV cfg (n + 1)) (env0 := env) enc l (fun done acc e0 => ∃ (ns : List Nat) (t' : List Int) (o : Option (U × Md)), acc = ns.map eN ∧ ns.length = done.length ∧ (∀ x, x ∈ ns → x < m) ∧ e0 = (env.set ti (some (iL t', .own))).set i o) (g := .name i) (e := .call 11 (.cons (.var ti) (.cons e .nil))) (own := [i]) hsrc hus hl (by
      show [i].contains i = true
      simp) ⟨[], t, none, rfl, rfl, fun x hx => absurd hx (by simp), by rw [h0, hpin]; rfl⟩ (fun done x more hd acc e0 ⟨ns, t', o, ha, hn, hlt, he⟩ => by
      subst ha
      subst he
      have hmo := hmod (some (enc x, .frz)) t'
      have hL : ∀ o t2, lstV ((env.set ti (some (iL t2, .own))).set i o) ti = some (t2.map .int, .own) := fun o t2 => by
        unfold lstV
        rw [List.getElem?_set_ne hi, List.getElem?_set_self hti]
        rfl
      refine ⟨_, eN (nextN t' m), false, (env.set ti (some (iL t'.dropLast, .own))).set i (some (enc x, .frz)), rfl, ?_, ns ++ [nextN t' m], t'.dropLast, _, by rw [List.map_append]; rfl, by rw [List.length_append, List.length_append, hn]; rfl, fun y hy => ?_, rfl⟩
      · rw [List.set_set, ev_callG ps11 _ hap, hL, lstG_some, hmo, bndV_ok]
        unfold callG
        rw [hL]
        dsimp only
        have hnx := nxt t' m hm n
        unfold iL at hnx
        rw [hnx]
        dsimp only
        rw [List.set_comm _ _ (Ne.symm hi), List.set_set, List.set_comm _ _ hi]
        rfl
      · rcases List.mem_append.mp hy with hy | hy
        · exact hlt y hy
        · rw [List.mem_singleton.mp hy]
          exact nextN_lt t' hm)
  refine ⟨ns, t', hn, hlt, ?_⟩
  rw [h1, ha, he, hup]
  have hb : backV env [i] ((env.set ti (some (iL t', .own))).set i o) = env.set ti (some (iL t', .own)) := by
    show ((env.set ti (some (iL t', .own))).set i o).set i (safeV env[i]?) = _
    rw [List.set_set, List.set_comm _ _ (Ne.symm hi), hs]
  rw [hb]
theorem law_machine (l : List Int) (st : Nat) (pool : List Str) (hp : pool.length = 9) (most : Nat) (hm : 0 < most) (hm8 : most ≤ 8) (n : Nat) : ∃ (M : Ma) (k : Nat), M.Ok k ∧ callV cfg (n + 3) 13 [.rol (l.map .int), .int st, sL pool, .int most] = some (.ok (eM M, false), []) := by
  rw [c13]
  apply wp_endE (P := fun r => ∃ (M : Ma) (k : Nat), M.Ok k ∧ r = some (.ok (eM M, false), []))
  have hc0 := cell_at l st (n + 1)
  have hc1 : callV cfg (n + 2) 8 [.rol (l.map .int), .int ((st : Int) + 1)] = some (.ok (.int (cellAt l (st + 1)), false), []) := cell_at l (st + 1) (n + 1)
  have hc2 : callV cfg (n + 2) 8 [.rol (l.map .int), .int ((st : Int) + 2)] = some (.ok (.int (cellAt l (st + 2)), false), []) := cell_at l (st + 2) (n + 1)
  have hc3 : callV cfg (n + 2) 8 [.rol (l.map .int), .int ((st : Int) + 3)] = some (.ok (.int (cellAt l (st + 3)), false), []) := cell_at l (st + 3) (n + 1)
  obtain ⟨t1, ht1⟩ := tape (cellAt l (st + 1)) 5 (by decide) n
  obtain ⟨t2, ht2⟩ := tape (cellAt l (st + 2)) 66 (by decide) n
  obtain ⟨t3, ht3⟩ := tape (cellAt l (st + 3)) 8 (by decide) n
  have ht1' : callV cfg (n + 2) 10 [.int (cellAt l (st + 1)), .int 5] = some (.ok (.lst (t1.map .int), true), []) := ht1
  have ht2' : callV cfg (n + 2) 10 [.int (cellAt l (st + 2)), .int 66] = some (.ok (.lst (t2.map .int), true), []) := ht2
  have ht3' : callV cfg (n + 2) 10 [.int (cellAt l (st + 3)), .int 8] = some (.ok (.lst (t3.map .int), true), []) := ht3
  obtain ⟨K, hK, hK0, hKm⟩ : ∃ K : Nat, 1 + cellAt l st % (most : Int) = (K : Int) ∧ 0 < K ∧ K ≤ most := by
    have h1 := Int.emod_nonneg (cellAt l st) (show (most : Int) ≠ 0 by omega)
    have h2 := Int.emod_lt_of_pos (cellAt l st) (show (0 : Int) < most by omega)
    exact ⟨(1 + cellAt l st % (most : Int)).toNat, by omega, by omega, by omega⟩
  have hmod : ∀ q, binU .mod (.int q) (.int most) = some (.int (q % most), false) := fun q => mod_int (by omega)
  have hmodK : ∀ q, binU .mod (.int q) (.int K) = some (.int (q % K), false) := fun q => mod_int (by omega)
  have hrK : srcU .range [.int K] = some ((List.range K).map fun (k : Nat) => U.int k) := srcU_rng (by omega)
  unfold sL
  obtain ⟨forms, hf, hfl⟩ : ∃ forms : List Str, cut (pool.map U.str) none (some (cellAt l st / 8 % 10)) = forms.map U.str ∧ forms.length ≤ 9 := ⟨_, cut_map _ _ _ _, Nat.le_trans (cut_le _ _ _) (by omega)⟩
  obtain ⟨nms0, hn0, hnl0⟩ : ∃ nms : List Str, cut (cut (pool.map U.str) (some (cellAt l st / 80 % 9)) none) none (some (cellAt l st / 720 % 5)) = nms.map U.str ∧ nms.length ≤ 9 := ⟨_, by rw [cut_map, cut_map], Nat.le_trans (cut_le _ _ _) (Nat.le_trans (cut_le _ _ _) (by omega))⟩
  obtain ⟨nms, hn, hnl⟩ : ∃ nms : List Str, sortS nms0 = nms ∧ nms.length ≤ 9 := ⟨_, rfl, by unfold sortS; rw [List.length_mergeSort]; exact hnl0⟩
  have hadd : (nms.map U.str).length + [U.str ""].length ≤ 1000000 := by rw [List.length_map, List.length_singleton]; omega
  have hadd2 : nms.map U.str ++ [U.str ""] = (nms ++ [("" : Str)]).map U.str := by rw [List.map_append]; rfl
  -- the starts
  obtain ⟨sts, t1', hsl, hslt, hse⟩ := ev_draws (n := n + 1) (m := K) (t := t1) (e := .var 5) (k := .seq) (es := .cons (.bin .add (.var 7) (.lst (.cons (.cst (.str "")) .nil))) .nil) (xs := [.lst ((nms ++ [("" : Str)]).map U.str)]) (l := nms ++ [("" : Str)]) (esc := true)
    (env := [some (.rol (l.map .int), .bor), some (.int st, .bor), some (.lst (pool.map .str), .bor), some (.int most, .bor), some (.int (cellAt l st), .frz), some (.int K, .frz), some (.lst (forms.map .str), .own), some (.lst (nms.map .str), .own), some (.lst (List.map .int t1), .own), none, none, none, none, none, none, none, none]) (ti := 8) (i := 15) U.str hK0 rfl (by decide) rfl (by simp only [mod_int, fdiv_int, mul_l, mul_r, small64, Int.reduceLT, Int.reduceNeg, decide_true, Bool.and_self, src_t, src_l, src_s, src_z, ev_append, ev_extend, ev_pop, ev_index, ev_join, rcvG_true, rcv_idxT, rcv_idxL, rcv_join, lstV, lstG_some, tmpG_ok, isi_tt, isi_ti, isi_ts, isi_tb, isi_ss, isi_si, isi_st, isi_ii, isi_ib, isi_bi, eq_int, eq_str, ne_str, ne_int, eq_ts, lt_int, le_int, gt_int, ge_int, add_int, sub_int, bi_max2, bi_min2, bi_listL, bi_listT, bi_tuple, bi_tupT, bi_lenT, bi_lenL, slc_lst, slc_tup, rev_lst, ev_lrg, ev_slc11, prtG_some, slcG_ok, isL_int, isL_str, isL_tup, Bool.not_true, Bool.not_false, ss_nil, ss_cons, ex_set, ex_ife, ex_expr, ex_for, ex_whl, ex_ret, ex_retv, retF_own, retF_frz, ex_retN, ev_var, ev_cst, ev_glb, ev_bin, ev_neg, negV_int, ev_cmp, blV_ok, ev_not, notV_bl, iteV_bl, ev_and, ev_or, ev_and1, ev_and2, ev_or1, ev_or2, ev_ife, ev_tup, ev_lst, ev_idx, ev_rev, ev_bi, ev_isi, ev_slc10, ev_slc01, part_int, vs_nil, vs_cons, vl_nil, vl_cons, callR_ok, sizV_0, sizV_1, sizV_2, sizV_5, rdU, List.getElem?_cons_zero, List.getElem?_cons_succ, List.set_cons_zero, List.set_cons_succ, bndV_ok, lftV_ok, unpV_ok, retV_ok, sqV_nx, sqV_rt, unpF_nx, unpF_rt, pin_var, unpin_var, pin_glb, unpin_glb, pin_cst, unpin_cst, pin_bin, unpin_bin, pin_neg, unpin_neg, pin_cmp, unpin_cmp, pin_cmp2, unpin_cmp2, pin_and, unpin_and, pin_or, unpin_or, pin_not, unpin_not, pin_ife, unpin_ife, pin_tup, unpin_tup, pin_lst, unpin_lst, pin_idx, unpin_idx, pin_slc, unpin_slc, pin_rev, unpin_rev, pin_call, unpin_call, pin_bi, unpin_bi, pin_lrg, unpin_lrg, pin_mth, unpin_mth, pin_isi, unpin_isi, pin_comp, unpin_comp, pinS, unpinS, Md.may, ↓reduceIte, Bool.false_eq_true, reduceCtorEq, ne_eq, not_false_eq_true, implies_true, D.pur, D.up, add_lst hadd, hadd2]) rfl (fun e' => rfl) rfl (by rw [List.length_append, List.length_singleton]; omega) (fun o t' => by unfold iL; simp only [mod_int, fdiv_int, mul_l, mul_r, small64, Int.reduceLT, Int.reduceNeg, decide_true, Bool.and_self, src_t, src_l, src_s, src_z, ev_append, ev_extend, ev_pop, ev_index, ev_join, rcvG_true, rcv_idxT, rcv_idxL, rcv_join, lstV, lstG_some, tmpG_ok, isi_tt, isi_ti, isi_ts, isi_tb, isi_ss, isi_si, isi_st, isi_ii, isi_ib, isi_bi, eq_int, eq_str, ne_str, ne_int, eq_ts, lt_int, le_int, gt_int, ge_int, add_int, sub_int, bi_max2, bi_min2, bi_listL, bi_listT, bi_tuple, bi_tupT, bi_lenT, bi_lenL, slc_lst, slc_tup, rev_lst, ev_lrg, ev_slc11, prtG_some, slcG_ok, isL_int, isL_str, isL_tup, Bool.not_true, Bool.not_false, ss_nil, ss_cons, ex_set, ex_ife, ex_expr, ex_for, ex_whl, ex_ret, ex_retv, retF_own, retF_frz, ex_retN, ev_var, ev_cst, ev_glb, ev_bin, ev_neg, negV_int, ev_cmp, blV_ok, ev_not, notV_bl, iteV_bl, ev_and, ev_or, ev_and1, ev_and2, ev_or1, ev_or2, ev_ife, ev_tup, ev_lst, ev_idx, ev_rev, ev_bi, ev_isi, ev_slc10, ev_slc01, part_int, vs_nil, vs_cons, vl_nil, vl_cons, callR_ok, sizV_0, sizV_1, sizV_2, sizV_5, rdU, List.getElem?_cons_zero, List.getElem?_cons_succ, List.set_cons_zero, List.set_cons_succ, bndV_ok, lftV_ok, unpV_ok, retV_ok, sqV_nx, sqV_rt, unpF_nx, unpF_rt, pin_var, unpin_var, pin_glb, unpin_glb, pin_cst, unpin_cst, pin_bin, unpin_bin, pin_neg, unpin_neg, pin_cmp, unpin_cmp, pin_cmp2, unpin_cmp2, pin_and, unpin_and, pin_or, unpin_or, pin_not, unpin_not, pin_ife, unpin_ife, pin_tup, unpin_tup, pin_lst, unpin_lst, pin_idx, unpin_idx, pin_slc, unpin_slc, pin_rev, unpin_rev, pin_call, unpin_call, pin_bi, unpin_bi, pin_lrg, unpin_lrg, pin_mth, unpin_mth, pin_isi, unpin_isi, pin_comp, unpin_comp, pinS, unpinS, Md.may, ↓reduceIte, Bool.false_eq_true, reduceCtorEq, ne_eq, not_false_eq_true, implies_true, D.pur, D.up]) rfl
  have hse' : evV cfg (callV cfg (n + 2)) x13_0 true ([some (.rol (l.map .int), .bor), some (.int st, .bor), some (.lst (pool.map .str), .bor), some (.int most, .bor), some (.int (cellAt l st), .frz), some (.int K, .frz), some (.lst (forms.map .str), .own), some (.lst (nms.map .str), .own), some (.lst (List.map .int t1), .own), none, none, none, none, none, none, none, none]) = some (.ok (.lst (sts.map eN), true), [some (.rol (l.map .int), .bor), some (.int st, .bor), some (.lst (pool.map .str), .bor), some (.int most, .bor), some (.int (cellAt l st), .frz), some (.int K, .frz), some (.lst (forms.map .str), .own), some (.lst (nms.map .str), .own), some (.lst (List.map .int t1'), .own), none, none, none, none, none, none, none, none]) := hse
  have gN : ∀ (m : Int) esc env, evV cfg (callV cfg (n + 2)) (.call 11 (.cons (.var 8) (.cons (.cst (.int m)) .nil))) esc env = lstG (lstV env 8) (bndV (evVl cfg (callV cfg (n + 2)) (.cons (.cst (.int m)) .nil) env) fun us e1 => callG (callV cfg (n + 2)) 11 8 us e1) := fun m esc env => ev_callG ps11 _ rfl esc env
  have nx5 : ∀ t, callV cfg (n + 2) 11 [.lst (List.map .int t), .int 5] = some (.ok (.int (nextN t 5), false), [t.dropLast.map .int]) := fun t => nxt t 5 (by decide) (n + 1)
  simp only [b13, l13_5, s13_0, s13_1, s13_2, s13_3, s13_4, s13_5, s13_6, s13_7, s13_8, s13_9, s13_10, s13_11, s13_12, px13_0, qx13_0, nx13_0, px13_1, qx13_1, nx13_1, px13_2, qx13_2, nx13_2, px13_3, qx13_3, nx13_3, px13_4, qx13_4, nx13_4, px13_6, qx13_6, nx13_6, mod_int, fdiv_int, mul_l, mul_r, small64, Int.reduceLT, Int.reduceNeg, decide_true, Bool.and_self, src_t, src_l, src_s, src_z, ev_append, ev_extend, ev_pop, ev_index, ev_join, rcvG_true, rcv_idxT, rcv_idxL, rcv_join, lstV, lstG_some, tmpG_ok, isi_tt, isi_ti, isi_ts, isi_tb, isi_ss, isi_si, isi_st, isi_ii, isi_ib, isi_bi, eq_int, eq_str, ne_str, ne_int, eq_ts, lt_int, le_int, gt_int, ge_int, add_int, sub_int, bi_max2, bi_min2, bi_listL, bi_listT, bi_tuple, bi_tupT, bi_lenT, bi_lenL, slc_lst, slc_tup, rev_lst, ev_lrg, ev_slc11, prtG_some, slcG_ok, isL_int, isL_str, isL_tup, Bool.not_true, Bool.not_false, ss_nil, ss_cons, ex_set, ex_ife, ex_expr, ex_for, ex_whl, ex_ret, ex_retv, retF_own, retF_frz, ex_retN, ev_var, ev_cst, ev_glb, ev_bin, ev_neg, negV_int, ev_cmp, blV_ok, ev_not, notV_bl, iteV_bl, ev_and, ev_or, ev_and1, ev_and2, ev_or1, ev_or2, ev_ife, ev_tup, ev_lst, ev_idx, ev_rev, ev_bi, ev_isi, ev_slc10, ev_slc01, part_int, vs_nil, vs_cons, vl_nil, vl_cons, callR_ok, sizV_0, sizV_1, sizV_2, sizV_5, rdU, List.getElem?_cons_zero, List.getElem?_cons_succ, List.set_cons_zero, List.set_cons_succ, bndV_ok, lftV_ok, unpV_ok, retV_ok, sqV_nx, sqV_rt, unpF_nx, unpF_rt, pin_var, unpin_var, pin_glb, unpin_glb, pin_cst, unpin_cst, pin_bin, unpin_bin, pin_neg, unpin_neg, pin_cmp, unpin_cmp, pin_cmp2, unpin_cmp2, pin_and, unpin_and, pin_or, unpin_or, pin_not, unpin_not, pin_ife, unpin_ife, pin_tup, unpin_tup, pin_lst, unpin_lst, pin_idx, unpin_idx, pin_slc, unpin_slc, pin_rev, unpin_rev, pin_call, unpin_call, pin_bi, unpin_bi, pin_lrg, unpin_lrg, pin_mth, unpin_mth, pin_isi, unpin_isi, pin_comp, unpin_comp, pinS, unpinS, Md.may, ↓reduceIte, Bool.false_eq_true, reduceCtorEq, ne_eq, not_false_eq_true, implies_true, D.pur, D.up, ev_call0 ps8, ev_call0 ps10, hc0, hc1, hc2, ht1', ht2', hmod, hK, hf, hn0, bi_sortS (show nms0.length < 64 by omega), hn, hse', gN, callG, nx5, hrK]
  refine wp_for (fun (p : Nat) => U.int p) (List.range K) (fun done e => ∃ (t : List Int) (rows : List (List Nat)) (q12 q14 : Option (U × Md)), safeV (some q12) = q12 ∧ rows.length = done.length ∧ (∀ r, r ∈ rows → r.length = K) ∧ (∀ r, r ∈ rows → ∀ x, x ∈ r → x < K) ∧ e = [some (.rol (l.map .int), .bor), some (.int st, .bor), some (.lst (pool.map .str), .bor), some (.int most, .bor), some (.int (cellAt l st), .frz), some (.int K, .frz), some (.lst (forms.map .str), .own), some (.lst (nms.map .str), .own), some (.lst (List.map .int t), .own), some (.lst (sts.map eN), .own), some (.int (nextN t2 5), .frz), some (.lst (rows.map eR), .own), q12, none, q14, none, none]) rfl ⟨t2.dropLast, [], none, none, rfl, rfl, fun r h => absurd h (by simp), fun r h => absurd h (by simp), rfl⟩ ?_ ?_
  · rintro done p more hl e ⟨t, rows, q12, q14, hq12, hrl, hr1, hr2, rfl⟩
    have hpK : p < K := List.mem_range.mp (by rw [hl]; simp)
    have hdl : done.length < K := by
      have := congrArg List.length hl
      rw [List.length_range, List.length_append, List.length_cons] at this
      omega
    refine ⟨_, rfl, ?_⟩
    obtain ⟨ns, t', hnl', hnlt, hne⟩ := ev_draws (n := n + 1) (m := K) (t := t) (e := .var 5) (k := .range) (es := .cons (.var 5) .nil) (xs := [.int K]) (l := List.range K) (esc := true)
      (env := [some (.rol (l.map .int), .bor), some (.int st, .bor), some (.lst (pool.map .str), .bor), some (.int most, .bor), some (.int (cellAt l st), .frz), some (.int K, .frz), some (.lst (forms.map .str), .own), some (.lst (nms.map .str), .own), some (.lst (List.map .int t), .own), some (.lst (sts.map eN), .own), some (.int (nextN t2 5), .frz), some (.lst (rows.map eR), .own), some (.int p, .frz), none, q14, none, none]) (ti := 8) (i := 16) (fun (k : Nat) => U.int k) hK0 rfl (by decide) rfl (by simp only [mod_int, fdiv_int, mul_l, mul_r, small64, Int.reduceLT, Int.reduceNeg, decide_true, Bool.and_self, src_t, src_l, src_s, src_z, ev_append, ev_extend, ev_pop, ev_index, ev_join, rcvG_true, rcv_idxT, rcv_idxL, rcv_join, lstV, lstG_some, tmpG_ok, isi_tt, isi_ti, isi_ts, isi_tb, isi_ss, isi_si, isi_st, isi_ii, isi_ib, isi_bi, eq_int, eq_str, ne_str, ne_int, eq_ts, lt_int, le_int, gt_int, ge_int, add_int, sub_int, bi_max2, bi_min2, bi_listL, bi_listT, bi_tuple, bi_tupT, bi_lenT, bi_lenL, slc_lst, slc_tup, rev_lst, ev_lrg, ev_slc11, prtG_some, slcG_ok, isL_int, isL_str, isL_tup, Bool.not_true, Bool.not_false, ss_nil, ss_cons, ex_set, ex_ife, ex_expr, ex_for, ex_whl, ex_ret, ex_retv, retF_own, retF_frz, ex_retN, ev_var, ev_cst, ev_glb, ev_bin, ev_neg, negV_int, ev_cmp, blV_ok, ev_not, notV_bl, iteV_bl, ev_and, ev_or, ev_and1, ev_and2, ev_or1, ev_or2, ev_ife, ev_tup, ev_lst, ev_idx, ev_rev, ev_bi, ev_isi, ev_slc10, ev_slc01, part_int, vs_nil, vs_cons, vl_nil, vl_cons, callR_ok, sizV_0, sizV_1, sizV_2, sizV_5, rdU, List.getElem?_cons_zero, List.getElem?_cons_succ, List.set_cons_zero, List.set_cons_succ, bndV_ok, lftV_ok, unpV_ok, retV_ok, sqV_nx, sqV_rt, unpF_nx, unpF_rt, pin_var, unpin_var, pin_glb, unpin_glb, pin_cst, unpin_cst, pin_bin, unpin_bin, pin_neg, unpin_neg, pin_cmp, unpin_cmp, pin_cmp2, unpin_cmp2, pin_and, unpin_and, pin_or, unpin_or, pin_not, unpin_not, pin_ife, unpin_ife, pin_tup, unpin_tup, pin_lst, unpin_lst, pin_idx, unpin_idx, pin_slc, unpin_slc, pin_rev, unpin_rev, pin_call, unpin_call, pin_bi, unpin_bi, pin_lrg, unpin_lrg, pin_mth, unpin_mth, pin_isi, unpin_isi, pin_comp, unpin_comp, pinS, unpinS, Md.may, ↓reduceIte, Bool.false_eq_true, reduceCtorEq, ne_eq, not_false_eq_true, implies_true, D.pur, D.up]) rfl (fun e' => rfl) hrK (by rw [List.length_range]; omega) (fun o t' => by unfold iL; simp only [mod_int, fdiv_int, mul_l, mul_r, small64, Int.reduceLT, Int.reduceNeg, decide_true, Bool.and_self, src_t, src_l, src_s, src_z, ev_append, ev_extend, ev_pop, ev_index, ev_join, rcvG_true, rcv_idxT, rcv_idxL, rcv_join, lstV, lstG_some, tmpG_ok, isi_tt, isi_ti, isi_ts, isi_tb, isi_ss, isi_si, isi_st, isi_ii, isi_ib, isi_bi, eq_int, eq_str, ne_str, ne_int, eq_ts, lt_int, le_int, gt_int, ge_int, add_int, sub_int, bi_max2, bi_min2, bi_listL, bi_listT, bi_tuple, bi_tupT, bi_lenT, bi_lenL, slc_lst, slc_tup, rev_lst, ev_lrg, ev_slc11, prtG_some, slcG_ok, isL_int, isL_str, isL_tup, Bool.not_true, Bool.not_false, ss_nil, ss_cons, ex_set, ex_ife, ex_expr, ex_for, ex_whl, ex_ret, ex_retv, retF_own, retF_frz, ex_retN, ev_var, ev_cst, ev_glb, ev_bin, ev_neg, negV_int, ev_cmp, blV_ok, ev_not, notV_bl, iteV_bl, ev_and, ev_or, ev_and1, ev_and2, ev_or1, ev_or2, ev_ife, ev_tup, ev_lst, ev_idx, ev_rev, ev_bi, ev_isi, ev_slc10, ev_slc01, part_int, vs_nil, vs_cons, vl_nil, vl_cons, callR_ok, sizV_0, sizV_1, sizV_2, sizV_5, rdU, List.getElem?_cons_zero, List.getElem?_cons_succ, List.set_cons_zero, List.set_cons_succ, bndV_ok, lftV_ok, unpV_ok, retV_ok, sqV_nx, sqV_rt, unpF_nx, unpF_rt, pin_var, unpin_var, pin_glb, unpin_glb, pin_cst, unpin_cst, pin_bin, unpin_bin, pin_neg, unpin_neg, pin_cmp, unpin_cmp, pin_cmp2, unpin_cmp2, pin_and, unpin_and, pin_or, unpin_or, pin_not, unpin_not, pin_ife, unpin_ife, pin_tup, unpin_tup, pin_lst, unpin_lst, pin_idx, unpin_idx, pin_slc, unpin_slc, pin_rev, unpin_rev, pin_call, unpin_call, pin_bi, unpin_bi, pin_lrg, unpin_lrg, pin_mth, unpin_mth, pin_isi, unpin_isi, pin_comp, unpin_comp, pinS, unpinS, Md.may, ↓reduceIte, Bool.false_eq_true, reduceCtorEq, ne_eq, not_false_eq_true, implies_true, D.pur, D.up]) rfl
    rw [List.length_range] at hnl'
    have hne' : evV cfg (callV cfg (n + 2)) x13_1 true ([some (.rol (l.map .int), .bor), some (.int st, .bor), some (.lst (pool.map .str), .bor), some (.int most, .bor), some (.int (cellAt l st), .frz), some (.int K, .frz), some (.lst (forms.map .str), .own), some (.lst (nms.map .str), .own), some (.lst (List.map .int t), .own), some (.lst (sts.map eN), .own), some (.int (nextN t2 5), .frz), some (.lst (rows.map eR), .own), some (.int p, .frz), none, q14, none, none]) = some (.ok (.lst (ns.map eN), true), [some (.rol (l.map .int), .bor), some (.int st, .bor), some (.lst (pool.map .str), .bor), some (.int most, .bor), some (.int (cellAt l st), .frz), some (.int K, .frz), some (.lst (forms.map .str), .own), some (.lst (nms.map .str), .own), some (.lst (List.map .int t'), .own), some (.lst (sts.map eN), .own), some (.int (nextN t2 5), .frz), some (.lst (rows.map eR), .own), some (.int p, .frz), none, q14, none, none]) := hne
    have g : (rows.map eR).length < 1000000 := by rw [List.length_map]; omega
    have fin : ∀ (ms : List Nat), ms.length = K → (∀ x, x ∈ ms → x < K) → Nxt (fun e => ∃ (t : List Int) (rows : List (List Nat)) (q12 q14 : Option (U × Md)), safeV (some q12) = q12 ∧ rows.length = (done ++ [p]).length ∧ (∀ r, r ∈ rows → r.length = K) ∧ (∀ r, r ∈ rows → ∀ x, x ∈ r → x < K) ∧ e = [some (.rol (l.map .int), .bor), some (.int st, .bor), some (.lst (pool.map .str), .bor), some (.int most, .bor), some (.int (cellAt l st), .frz), some (.int K, .frz), some (.lst (forms.map .str), .own), some (.lst (nms.map .str), .own), some (.lst (List.map .int t), .own), some (.lst (sts.map eN), .own), some (.int (nextN t2 5), .frz), some (.lst (rows.map eR), .own), q12, none, q14, none, none]) (fun _ => False) (fun _ => False) id (.nx ([some (.rol (l.map .int), .bor), some (.int st, .bor), some (.lst (pool.map .str), .bor), some (.int most, .bor), some (.int (cellAt l st), .frz), some (.int K, .frz), some (.lst (forms.map .str), .own), some (.lst (nms.map .str), .own), some (.lst (List.map .int t'), .own), some (.lst (sts.map eN), .own), some (.int (nextN t2 5), .frz), some (.lst (rows.map eR ++ [.tup (ms.map eN)]), .own), some (.int p, .frz), none, some (.lst (ms.map eN), .own), none, none])) := fun ms h1 h2 =>
      ⟨t', rows ++ [ms], _, _, rfl, by rw [List.length_append, List.length_append, hrl]; rfl, fun r hr => by
        rcases List.mem_append.mp hr with hr | hr
        · exact hr1 r hr
        · rw [List.mem_singleton.mp hr]; exact h1, fun r hr => by
        rcases List.mem_append.mp hr with hr | hr
        · exact hr2 r hr
        · rw [List.mem_singleton.mp hr]; exact h2, by rw [List.map_append]; rfl⟩
    have hwlt := nextN_lt t2 (m := 5) (by decide)
    by_cases w0 : nextN t2 5 = 0
    · have z0 : ((nextN t2 5 : Int) == 0) = true := by rw [w0]; rfl
      have z1 : ((nextN t2 5 : Int) == 1) = false := by rw [w0]; rfl
      have z2 : ((nextN t2 5 : Int) == 2) = false := by rw [w0]; rfl
      have h2 : evV cfg (callV cfg (n + 2)) x13_2 true ([some (.rol (l.map .int), .bor), some (.int st, .bor), some (.lst (pool.map .str), .bor), some (.int most, .bor), some (.int (cellAt l st), .frz), some (.int K, .frz), some (.lst (forms.map .str), .own), some (.lst (nms.map .str), .own), some (.lst (List.map .int t'), .own), some (.lst (sts.map eN), .own), some (.int (nextN t2 5), .frz), some (.lst (rows.map eR), .own), some (.int p, .frz), none, some (.lst (ns.map eN), .own), none, none]) = some (.ok (.lst (((List.range K).map fun q => (p + q + 1) % K).map eN), true), [some (.rol (l.map .int), .bor), some (.int st, .bor), some (.lst (pool.map .str), .bor), some (.int most, .bor), some (.int (cellAt l st), .frz), some (.int K, .frz), some (.lst (forms.map .str), .own), some (.lst (nms.map .str), .own), some (.lst (List.map .int t'), .own), some (.lst (sts.map eN), .own), some (.int (nextN t2 5), .frz), some (.lst (rows.map eR), .own), some (.int p, .frz), none, some (.lst (ns.map eN), .own), none, none]) := by
        unfold x13_2
        rw [List.map_map]
        refine ev_compM (env0 := [some (.rol (l.map .int), .bor), some (.int st, .bor), some (.lst (pool.map .str), .bor), some (.int most, .bor), some (.int (cellAt l st), .frz), some (.int K, .frz), some (.lst (forms.map .str), .own), some (.lst (nms.map .str), .own), some (.lst (List.map .int t'), .own), some (.lst (sts.map eN), .own), some (.int (nextN t2 5), .frz), some (.lst (rows.map eR), .own), some (.int p, .frz), none, some (.lst (ns.map eN), .own), none, none]) (xs := [.int K]) _ _ _ (by simp only [mod_int, fdiv_int, mul_l, mul_r, small64, Int.reduceLT, Int.reduceNeg, decide_true, Bool.and_self, src_t, src_l, src_s, src_z, ev_append, ev_extend, ev_pop, ev_index, ev_join, rcvG_true, rcv_idxT, rcv_idxL, rcv_join, lstV, lstG_some, tmpG_ok, isi_tt, isi_ti, isi_ts, isi_tb, isi_ss, isi_si, isi_st, isi_ii, isi_ib, isi_bi, eq_int, eq_str, ne_str, ne_int, eq_ts, lt_int, le_int, gt_int, ge_int, add_int, sub_int, bi_max2, bi_min2, bi_listL, bi_listT, bi_tuple, bi_tupT, bi_lenT, bi_lenL, slc_lst, slc_tup, rev_lst, ev_lrg, ev_slc11, prtG_some, slcG_ok, isL_int, isL_str, isL_tup, Bool.not_true, Bool.not_false, ss_nil, ss_cons, ex_set, ex_ife, ex_expr, ex_for, ex_whl, ex_ret, ex_retv, retF_own, retF_frz, ex_retN, ev_var, ev_cst, ev_glb, ev_bin, ev_neg, negV_int, ev_cmp, blV_ok, ev_not, notV_bl, iteV_bl, ev_and, ev_or, ev_and1, ev_and2, ev_or1, ev_or2, ev_ife, ev_tup, ev_lst, ev_idx, ev_rev, ev_bi, ev_isi, ev_slc10, ev_slc01, part_int, vs_nil, vs_cons, vl_nil, vl_cons, callR_ok, sizV_0, sizV_1, sizV_2, sizV_5, rdU, List.getElem?_cons_zero, List.getElem?_cons_succ, List.set_cons_zero, List.set_cons_succ, bndV_ok, lftV_ok, unpV_ok, retV_ok, sqV_nx, sqV_rt, unpF_nx, unpF_rt, pin_var, unpin_var, pin_glb, unpin_glb, pin_cst, unpin_cst, pin_bin, unpin_bin, pin_neg, unpin_neg, pin_cmp, unpin_cmp, pin_cmp2, unpin_cmp2, pin_and, unpin_and, pin_or, unpin_or, pin_not, unpin_not, pin_ife, unpin_ife, pin_tup, unpin_tup, pin_lst, unpin_lst, pin_idx, unpin_idx, pin_slc, unpin_slc, pin_rev, unpin_rev, pin_call, unpin_call, pin_bi, unpin_bi, pin_lrg, unpin_lrg, pin_mth, unpin_mth, pin_isi, unpin_isi, pin_comp, unpin_comp, pinS, unpinS, Md.may, ↓reduceIte, Bool.false_eq_true, reduceCtorEq, ne_eq, not_false_eq_true, implies_true, D.pur, D.up]) hrK (by rw [List.length_range]; omega) (fun q hq => ⟨false, ?_⟩) (fun o => rfl)
        simp only [mod_int, fdiv_int, mul_l, mul_r, small64, Int.reduceLT, Int.reduceNeg, decide_true, Bool.and_self, src_t, src_l, src_s, src_z, ev_append, ev_extend, ev_pop, ev_index, ev_join, rcvG_true, rcv_idxT, rcv_idxL, rcv_join, lstV, lstG_some, tmpG_ok, isi_tt, isi_ti, isi_ts, isi_tb, isi_ss, isi_si, isi_st, isi_ii, isi_ib, isi_bi, eq_int, eq_str, ne_str, ne_int, eq_ts, lt_int, le_int, gt_int, ge_int, add_int, sub_int, bi_max2, bi_min2, bi_listL, bi_listT, bi_tuple, bi_tupT, bi_lenT, bi_lenL, slc_lst, slc_tup, rev_lst, ev_lrg, ev_slc11, prtG_some, slcG_ok, isL_int, isL_str, isL_tup, Bool.not_true, Bool.not_false, ss_nil, ss_cons, ex_set, ex_ife, ex_expr, ex_for, ex_whl, ex_ret, ex_retv, retF_own, retF_frz, ex_retN, ev_var, ev_cst, ev_glb, ev_bin, ev_neg, negV_int, ev_cmp, blV_ok, ev_not, notV_bl, iteV_bl, ev_and, ev_or, ev_and1, ev_and2, ev_or1, ev_or2, ev_ife, ev_tup, ev_lst, ev_idx, ev_rev, ev_bi, ev_isi, ev_slc10, ev_slc01, part_int, vs_nil, vs_cons, vl_nil, vl_cons, callR_ok, sizV_0, sizV_1, sizV_2, sizV_5, rdU, List.getElem?_cons_zero, List.getElem?_cons_succ, List.set_cons_zero, List.set_cons_succ, bndV_ok, lftV_ok, unpV_ok, retV_ok, sqV_nx, sqV_rt, unpF_nx, unpF_rt, pin_var, unpin_var, pin_glb, unpin_glb, pin_cst, unpin_cst, pin_bin, unpin_bin, pin_neg, unpin_neg, pin_cmp, unpin_cmp, pin_cmp2, unpin_cmp2, pin_and, unpin_and, pin_or, unpin_or, pin_not, unpin_not, pin_ife, unpin_ife, pin_tup, unpin_tup, pin_lst, unpin_lst, pin_idx, unpin_idx, pin_slc, unpin_slc, pin_rev, unpin_rev, pin_call, unpin_call, pin_bi, unpin_bi, pin_lrg, unpin_lrg, pin_mth, unpin_mth, pin_isi, unpin_isi, pin_comp, unpin_comp, pinS, unpinS, Md.may, ↓reduceIte, Bool.false_eq_true, reduceCtorEq, ne_eq, not_false_eq_true, implies_true, D.pur, D.up, hmodK]
        rfl
      simp only [mod_int, fdiv_int, mul_l, mul_r, small64, Int.reduceLT, Int.reduceNeg, decide_true, Bool.and_self, src_t, src_l, src_s, src_z, ev_append, ev_extend, ev_pop, ev_index, ev_join, rcvG_true, rcv_idxT, rcv_idxL, rcv_join, lstV, lstG_some, tmpG_ok, isi_tt, isi_ti, isi_ts, isi_tb, isi_ss, isi_si, isi_st, isi_ii, isi_ib, isi_bi, eq_int, eq_str, ne_str, ne_int, eq_ts, lt_int, le_int, gt_int, ge_int, add_int, sub_int, bi_max2, bi_min2, bi_listL, bi_listT, bi_tuple, bi_tupT, bi_lenT, bi_lenL, slc_lst, slc_tup, rev_lst, ev_lrg, ev_slc11, prtG_some, slcG_ok, isL_int, isL_str, isL_tup, Bool.not_true, Bool.not_false, ss_nil, ss_cons, ex_set, ex_ife, ex_expr, ex_for, ex_whl, ex_ret, ex_retv, retF_own, retF_frz, ex_retN, ev_var, ev_cst, ev_glb, ev_bin, ev_neg, negV_int, ev_cmp, blV_ok, ev_not, notV_bl, iteV_bl, ev_and, ev_or, ev_and1, ev_and2, ev_or1, ev_or2, ev_ife, ev_tup, ev_lst, ev_idx, ev_rev, ev_bi, ev_isi, ev_slc10, ev_slc01, part_int, vs_nil, vs_cons, vl_nil, vl_cons, callR_ok, sizV_0, sizV_1, sizV_2, sizV_5, rdU, List.getElem?_cons_zero, List.getElem?_cons_succ, List.set_cons_zero, List.set_cons_succ, bndV_ok, lftV_ok, unpV_ok, retV_ok, sqV_nx, sqV_rt, unpF_nx, unpF_rt, pin_var, unpin_var, pin_glb, unpin_glb, pin_cst, unpin_cst, pin_bin, unpin_bin, pin_neg, unpin_neg, pin_cmp, unpin_cmp, pin_cmp2, unpin_cmp2, pin_and, unpin_and, pin_or, unpin_or, pin_not, unpin_not, pin_ife, unpin_ife, pin_tup, unpin_tup, pin_lst, unpin_lst, pin_idx, unpin_idx, pin_slc, unpin_slc, pin_rev, unpin_rev, pin_call, unpin_call, pin_bi, unpin_bi, pin_lrg, unpin_lrg, pin_mth, unpin_mth, pin_isi, unpin_isi, pin_comp, unpin_comp, pinS, unpinS, Md.may, ↓reduceIte, Bool.false_eq_true, reduceCtorEq, ne_eq, not_false_eq_true, implies_true, D.pur, D.up, px13_0, qx13_0, nx13_0, px13_1, qx13_1, nx13_1, px13_2, qx13_2, nx13_2, px13_3, qx13_3, nx13_3, px13_4, qx13_4, nx13_4, px13_6, qx13_6, nx13_6, hne', z0, z1, z2, h2, appG_ok g]
      exact wp_ok (by exact fin _ (by rw [List.length_map, List.length_range]) (fun x hx => by
        obtain ⟨q, _, rfl⟩ := List.mem_map.mp hx
        exact Nat.mod_lt _ hK0))
    · by_cases w1 : nextN t2 5 = 1
      · have z0 : ((nextN t2 5 : Int) == 0) = false := by rw [w1]; rfl
        have z1 : ((nextN t2 5 : Int) == 1) = true := by rw [w1]; rfl
        have z2 : ((nextN t2 5 : Int) == 2) = false := by rw [w1]; rfl
        have h2 : evV cfg (callV cfg (n + 2)) x13_3 true ([some (.rol (l.map .int), .bor), some (.int st, .bor), some (.lst (pool.map .str), .bor), some (.int most, .bor), some (.int (cellAt l st), .frz), some (.int K, .frz), some (.lst (forms.map .str), .own), some (.lst (nms.map .str), .own), some (.lst (List.map .int t'), .own), some (.lst (sts.map eN), .own), some (.int (nextN t2 5), .frz), some (.lst (rows.map eR), .own), some (.int p, .frz), none, some (.lst (ns.map eN), .own), none, none]) = some (.ok (.lst (((List.range K).map fun q => max p q).map eN), true), [some (.rol (l.map .int), .bor), some (.int st, .bor), some (.lst (pool.map .str), .bor), some (.int most, .bor), some (.int (cellAt l st), .frz), some (.int K, .frz), some (.lst (forms.map .str), .own), some (.lst (nms.map .str), .own), some (.lst (List.map .int t'), .own), some (.lst (sts.map eN), .own), some (.int (nextN t2 5), .frz), some (.lst (rows.map eR), .own), some (.int p, .frz), none, some (.lst (ns.map eN), .own), none, none]) := by
          unfold x13_3
          rw [List.map_map]
          refine ev_compM (env0 := [some (.rol (l.map .int), .bor), some (.int st, .bor), some (.lst (pool.map .str), .bor), some (.int most, .bor), some (.int (cellAt l st), .frz), some (.int K, .frz), some (.lst (forms.map .str), .own), some (.lst (nms.map .str), .own), some (.lst (List.map .int t'), .own), some (.lst (sts.map eN), .own), some (.int (nextN t2 5), .frz), some (.lst (rows.map eR), .own), some (.int p, .frz), none, some (.lst (ns.map eN), .own), none, none]) (xs := [.int K]) _ _ _ (by simp only [mod_int, fdiv_int, mul_l, mul_r, small64, Int.reduceLT, Int.reduceNeg, decide_true, Bool.and_self, src_t, src_l, src_s, src_z, ev_append, ev_extend, ev_pop, ev_index, ev_join, rcvG_true, rcv_idxT, rcv_idxL, rcv_join, lstV, lstG_some, tmpG_ok, isi_tt, isi_ti, isi_ts, isi_tb, isi_ss, isi_si, isi_st, isi_ii, isi_ib, isi_bi, eq_int, eq_str, ne_str, ne_int, eq_ts, lt_int, le_int, gt_int, ge_int, add_int, sub_int, bi_max2, bi_min2, bi_listL, bi_listT, bi_tuple, bi_tupT, bi_lenT, bi_lenL, slc_lst, slc_tup, rev_lst, ev_lrg, ev_slc11, prtG_some, slcG_ok, isL_int, isL_str, isL_tup, Bool.not_true, Bool.not_false, ss_nil, ss_cons, ex_set, ex_ife, ex_expr, ex_for, ex_whl, ex_ret, ex_retv, retF_own, retF_frz, ex_retN, ev_var, ev_cst, ev_glb, ev_bin, ev_neg, negV_int, ev_cmp, blV_ok, ev_not, notV_bl, iteV_bl, ev_and, ev_or, ev_and1, ev_and2, ev_or1, ev_or2, ev_ife, ev_tup, ev_lst, ev_idx, ev_rev, ev_bi, ev_isi, ev_slc10, ev_slc01, part_int, vs_nil, vs_cons, vl_nil, vl_cons, callR_ok, sizV_0, sizV_1, sizV_2, sizV_5, rdU, List.getElem?_cons_zero, List.getElem?_cons_succ, List.set_cons_zero, List.set_cons_succ, bndV_ok, lftV_ok, unpV_ok, retV_ok, sqV_nx, sqV_rt, unpF_nx, unpF_rt, pin_var, unpin_var, pin_glb, unpin_glb, pin_cst, unpin_cst, pin_bin, unpin_bin, pin_neg, unpin_neg, pin_cmp, unpin_cmp, pin_cmp2, unpin_cmp2, pin_and, unpin_and, pin_or, unpin_or, pin_not, unpin_not, pin_ife, unpin_ife, pin_tup, unpin_tup, pin_lst, unpin_lst, pin_idx, unpin_idx, pin_slc, unpin_slc, pin_rev, unpin_rev, pin_call, unpin_call, pin_bi, unpin_bi, pin_lrg, unpin_lrg, pin_mth, unpin_mth, pin_isi, unpin_isi, pin_comp, unpin_comp, pinS, unpinS, Md.may, ↓reduceIte, Bool.false_eq_true, reduceCtorEq, ne_eq, not_false_eq_true, implies_true, D.pur, D.up]) hrK (by rw [List.length_range]; omega) (fun q hq => ⟨false, ?_⟩) (fun o => rfl)
          simp only [mod_int, fdiv_int, mul_l, mul_r, small64, Int.reduceLT, Int.reduceNeg, decide_true, Bool.and_self, src_t, src_l, src_s, src_z, ev_append, ev_extend, ev_pop, ev_index, ev_join, rcvG_true, rcv_idxT, rcv_idxL, rcv_join, lstV, lstG_some, tmpG_ok, isi_tt, isi_ti, isi_ts, isi_tb, isi_ss, isi_si, isi_st, isi_ii, isi_ib, isi_bi, eq_int, eq_str, ne_str, ne_int, eq_ts, lt_int, le_int, gt_int, ge_int, add_int, sub_int, bi_max2, bi_min2, bi_listL, bi_listT, bi_tuple, bi_tupT, bi_lenT, bi_lenL, slc_lst, slc_tup, rev_lst, ev_lrg, ev_slc11, prtG_some, slcG_ok, isL_int, isL_str, isL_tup, Bool.not_true, Bool.not_false, ss_nil, ss_cons, ex_set, ex_ife, ex_expr, ex_for, ex_whl, ex_ret, ex_retv, retF_own, retF_frz, ex_retN, ev_var, ev_cst, ev_glb, ev_bin, ev_neg, negV_int, ev_cmp, blV_ok, ev_not, notV_bl, iteV_bl, ev_and, ev_or, ev_and1, ev_and2, ev_or1, ev_or2, ev_ife, ev_tup, ev_lst, ev_idx, ev_rev, ev_bi, ev_isi, ev_slc10, ev_slc01, part_int, vs_nil, vs_cons, vl_nil, vl_cons, callR_ok, sizV_0, sizV_1, sizV_2, sizV_5, rdU, List.getElem?_cons_zero, List.getElem?_cons_succ, List.set_cons_zero, List.set_cons_succ, bndV_ok, lftV_ok, unpV_ok, retV_ok, sqV_nx, sqV_rt, unpF_nx, unpF_rt, pin_var, unpin_var, pin_glb, unpin_glb, pin_cst, unpin_cst, pin_bin, unpin_bin, pin_neg, unpin_neg, pin_cmp, unpin_cmp, pin_cmp2, unpin_cmp2, pin_and, unpin_and, pin_or, unpin_or, pin_not, unpin_not, pin_ife, unpin_ife, pin_tup, unpin_tup, pin_lst, unpin_lst, pin_idx, unpin_idx, pin_slc, unpin_slc, pin_rev, unpin_rev, pin_call, unpin_call, pin_bi, unpin_bi, pin_lrg, unpin_lrg, pin_mth, unpin_mth, pin_isi, unpin_isi, pin_comp, unpin_comp, pinS, unpinS, Md.may, ↓reduceIte, Bool.false_eq_true, reduceCtorEq, ne_eq, not_false_eq_true, implies_true, D.pur, D.up]
          have : ∀ e : VE, (some (RV.ok (U.int (max (p : Int) q), false), e) : Vs (U × Bool)) = some (.ok (eN (max p q), false), e) := fun e => by
            have : max (p : Int) q = ((max p q : Nat) : Int) := by omega
            rw [this]
            rfl
          exact this _
        simp only [mod_int, fdiv_int, mul_l, mul_r, small64, Int.reduceLT, Int.reduceNeg, decide_true, Bool.and_self, src_t, src_l, src_s, src_z, ev_append, ev_extend, ev_pop, ev_index, ev_join, rcvG_true, rcv_idxT, rcv_idxL, rcv_join, lstV, lstG_some, tmpG_ok, isi_tt, isi_ti, isi_ts, isi_tb, isi_ss, isi_si, isi_st, isi_ii, isi_ib, isi_bi, eq_int, eq_str, ne_str, ne_int, eq_ts, lt_int, le_int, gt_int, ge_int, add_int, sub_int, bi_max2, bi_min2, bi_listL, bi_listT, bi_tuple, bi_tupT, bi_lenT, bi_lenL, slc_lst, slc_tup, rev_lst, ev_lrg, ev_slc11, prtG_some, slcG_ok, isL_int, isL_str, isL_tup, Bool.not_true, Bool.not_false, ss_nil, ss_cons, ex_set, ex_ife, ex_expr, ex_for, ex_whl, ex_ret, ex_retv, retF_own, retF_frz, ex_retN, ev_var, ev_cst, ev_glb, ev_bin, ev_neg, negV_int, ev_cmp, blV_ok, ev_not, notV_bl, iteV_bl, ev_and, ev_or, ev_and1, ev_and2, ev_or1, ev_or2, ev_ife, ev_tup, ev_lst, ev_idx, ev_rev, ev_bi, ev_isi, ev_slc10, ev_slc01, part_int, vs_nil, vs_cons, vl_nil, vl_cons, callR_ok, sizV_0, sizV_1, sizV_2, sizV_5, rdU, List.getElem?_cons_zero, List.getElem?_cons_succ, List.set_cons_zero, List.set_cons_succ, bndV_ok, lftV_ok, unpV_ok, retV_ok, sqV_nx, sqV_rt, unpF_nx, unpF_rt, pin_var, unpin_var, pin_glb, unpin_glb, pin_cst, unpin_cst, pin_bin, unpin_bin, pin_neg, unpin_neg, pin_cmp, unpin_cmp, pin_cmp2, unpin_cmp2, pin_and, unpin_and, pin_or, unpin_or, pin_not, unpin_not, pin_ife, unpin_ife, pin_tup, unpin_tup, pin_lst, unpin_lst, pin_idx, unpin_idx, pin_slc, unpin_slc, pin_rev, unpin_rev, pin_call, unpin_call, pin_bi, unpin_bi, pin_lrg, unpin_lrg, pin_mth, unpin_mth, pin_isi, unpin_isi, pin_comp, unpin_comp, pinS, unpinS, Md.may, ↓reduceIte, Bool.false_eq_true, reduceCtorEq, ne_eq, not_false_eq_true, implies_true, D.pur, D.up, px13_0, qx13_0, nx13_0, px13_1, qx13_1, nx13_1, px13_2, qx13_2, nx13_2, px13_3, qx13_3, nx13_3, px13_4, qx13_4, nx13_4, px13_6, qx13_6, nx13_6, hne', z0, z1, z2, h2, appG_ok g]
        exact wp_ok (by exact fin _ (by rw [List.length_map, List.length_range]) (fun x hx => by
          obtain ⟨q, hq, rfl⟩ := List.mem_map.mp hx
          have := List.mem_range.mp hq
          show max p q < K
          omega))
      · by_cases w2 : nextN t2 5 = 2
        · have z0 : ((nextN t2 5 : Int) == 0) = false := by rw [w2]; rfl
          have z1 : ((nextN t2 5 : Int) == 1) = false := by rw [w2]; rfl
          have z2 : ((nextN t2 5 : Int) == 2) = true := by rw [w2]; rfl
          obtain ⟨a, ns', rfl⟩ : ∃ a ns', ns = a :: ns' := by
            cases ns with
            | nil => rw [List.length_nil] at hnl'; omega
            | cons a ns' => exact ⟨a, ns', rfl⟩
          have ha : idxU (.lst ((a :: ns').map eN)) (.int 0) = some (.int a, false) := idx_lst (k := 0) (a := .int a) rfl
          have h2 : evV cfg (callV cfg (n + 2)) x13_4 true ([some (.rol (l.map .int), .bor), some (.int st, .bor), some (.lst (pool.map .str), .bor), some (.int most, .bor), some (.int (cellAt l st), .frz), some (.int K, .frz), some (.lst (forms.map .str), .own), some (.lst (nms.map .str), .own), some (.lst (List.map .int t'), .own), some (.lst (sts.map eN), .own), some (.int (nextN t2 5), .frz), some (.lst (rows.map eR), .own), some (.int p, .frz), none, some (.lst ((a :: ns').map eN), .own), none, none]) = some (.ok (.lst (((List.range K).map fun q => min (p + 1 + a % 2 * q) (K - 1)).map eN), true), [some (.rol (l.map .int), .bor), some (.int st, .bor), some (.lst (pool.map .str), .bor), some (.int most, .bor), some (.int (cellAt l st), .frz), some (.int K, .frz), some (.lst (forms.map .str), .own), some (.lst (nms.map .str), .own), some (.lst (List.map .int t'), .own), some (.lst (sts.map eN), .own), some (.int (nextN t2 5), .frz), some (.lst (rows.map eR), .own), some (.int p, .frz), none, some (.lst ((a :: ns').map eN), .own), none, none]) := by
            unfold x13_4
            rw [List.map_map]
            refine ev_compM (env0 := [some (.rol (l.map .int), .bor), some (.int st, .bor), some (.lst (pool.map .str), .bor), some (.int most, .bor), some (.int (cellAt l st), .frz), some (.int K, .frz), some (.lst (forms.map .str), .own), some (.lst (nms.map .str), .own), some (.lst (List.map .int t'), .own), some (.lst (sts.map eN), .own), some (.int (nextN t2 5), .frz), some (.lst (rows.map eR), .own), some (.int p, .frz), none, some (.lst ((a :: ns').map eN), .own), none, none]) (xs := [.int K]) _ _ _ (by simp only [mod_int, fdiv_int, mul_l, mul_r, small64, Int.reduceLT, Int.reduceNeg, decide_true, Bool.and_self, src_t, src_l, src_s, src_z, ev_append, ev_extend, ev_pop, ev_index, ev_join, rcvG_true, rcv_idxT, rcv_idxL, rcv_join, lstV, lstG_some, tmpG_ok, isi_tt, isi_ti, isi_ts, isi_tb, isi_ss, isi_si, isi_st, isi_ii, isi_ib, isi_bi, eq_int, eq_str, ne_str, ne_int, eq_ts, lt_int, le_int, gt_int, ge_int, add_int, sub_int, bi_max2, bi_min2, bi_listL, bi_listT, bi_tuple, bi_tupT, bi_lenT, bi_lenL, slc_lst, slc_tup, rev_lst, ev_lrg, ev_slc11, prtG_some, slcG_ok, isL_int, isL_str, isL_tup, Bool.not_true, Bool.not_false, ss_nil, ss_cons, ex_set, ex_ife, ex_expr, ex_for, ex_whl, ex_ret, ex_retv, retF_own, retF_frz, ex_retN, ev_var, ev_cst, ev_glb, ev_bin, ev_neg, negV_int, ev_cmp, blV_ok, ev_not, notV_bl, iteV_bl, ev_and, ev_or, ev_and1, ev_and2, ev_or1, ev_or2, ev_ife, ev_tup, ev_lst, ev_idx, ev_rev, ev_bi, ev_isi, ev_slc10, ev_slc01, part_int, vs_nil, vs_cons, vl_nil, vl_cons, callR_ok, sizV_0, sizV_1, sizV_2, sizV_5, rdU, List.getElem?_cons_zero, List.getElem?_cons_succ, List.set_cons_zero, List.set_cons_succ, bndV_ok, lftV_ok, unpV_ok, retV_ok, sqV_nx, sqV_rt, unpF_nx, unpF_rt, pin_var, unpin_var, pin_glb, unpin_glb, pin_cst, unpin_cst, pin_bin, unpin_bin, pin_neg, unpin_neg, pin_cmp, unpin_cmp, pin_cmp2, unpin_cmp2, pin_and, unpin_and, pin_or, unpin_or, pin_not, unpin_not, pin_ife, unpin_ife, pin_tup, unpin_tup, pin_lst, unpin_lst, pin_idx, unpin_idx, pin_slc, unpin_slc, pin_rev, unpin_rev, pin_call, unpin_call, pin_bi, unpin_bi, pin_lrg, unpin_lrg, pin_mth, unpin_mth, pin_isi, unpin_isi, pin_comp, unpin_comp, pinS, unpinS, Md.may, ↓reduceIte, Bool.false_eq_true, reduceCtorEq, ne_eq, not_false_eq_true, implies_true, D.pur, D.up]) hrK (by rw [List.length_range]; omega) (fun q hq => ⟨false, ?_⟩) (fun o => rfl)
            have hm2 : binU .mul (.int ((a : Int) % 2)) (.int q) = some (.int ((a : Int) % 2 * q), false) := mul_l (small_of (by omega) (by omega))
            simp only [mod_int, fdiv_int, mul_l, mul_r, small64, Int.reduceLT, Int.reduceNeg, decide_true, Bool.and_self, src_t, src_l, src_s, src_z, ev_append, ev_extend, ev_pop, ev_index, ev_join, rcvG_true, rcv_idxT, rcv_idxL, rcv_join, lstV, lstG_some, tmpG_ok, isi_tt, isi_ti, isi_ts, isi_tb, isi_ss, isi_si, isi_st, isi_ii, isi_ib, isi_bi, eq_int, eq_str, ne_str, ne_int, eq_ts, lt_int, le_int, gt_int, ge_int, add_int, sub_int, bi_max2, bi_min2, bi_listL, bi_listT, bi_tuple, bi_tupT, bi_lenT, bi_lenL, slc_lst, slc_tup, rev_lst, ev_lrg, ev_slc11, prtG_some, slcG_ok, isL_int, isL_str, isL_tup, Bool.not_true, Bool.not_false, ss_nil, ss_cons, ex_set, ex_ife, ex_expr, ex_for, ex_whl, ex_ret, ex_retv, retF_own, retF_frz, ex_retN, ev_var, ev_cst, ev_glb, ev_bin, ev_neg, negV_int, ev_cmp, blV_ok, ev_not, notV_bl, iteV_bl, ev_and, ev_or, ev_and1, ev_and2, ev_or1, ev_or2, ev_ife, ev_tup, ev_lst, ev_idx, ev_rev, ev_bi, ev_isi, ev_slc10, ev_slc01, part_int, vs_nil, vs_cons, vl_nil, vl_cons, callR_ok, sizV_0, sizV_1, sizV_2, sizV_5, rdU, List.getElem?_cons_zero, List.getElem?_cons_succ, List.set_cons_zero, List.set_cons_succ, bndV_ok, lftV_ok, unpV_ok, retV_ok, sqV_nx, sqV_rt, unpF_nx, unpF_rt, pin_var, unpin_var, pin_glb, unpin_glb, pin_cst, unpin_cst, pin_bin, unpin_bin, pin_neg, unpin_neg, pin_cmp, unpin_cmp, pin_cmp2, unpin_cmp2, pin_and, unpin_and, pin_or, unpin_or, pin_not, unpin_not, pin_ife, unpin_ife, pin_tup, unpin_tup, pin_lst, unpin_lst, pin_idx, unpin_idx, pin_slc, unpin_slc, pin_rev, unpin_rev, pin_call, unpin_call, pin_bi, unpin_bi, pin_lrg, unpin_lrg, pin_mth, unpin_mth, pin_isi, unpin_isi, pin_comp, unpin_comp, pinS, unpinS, Md.may, ↓reduceIte, Bool.false_eq_true, reduceCtorEq, ne_eq, not_false_eq_true, implies_true, D.pur, D.up, ha, hm2]
            have : ∀ e : VE, (some (RV.ok (U.int (min ((p : Int) + 1 + (a : Int) % 2 * q) ((K : Int) - 1)), false), e) : Vs (U × Bool)) = some (.ok (eN (min (p + 1 + a % 2 * q) (K - 1)), false), e) := fun e => by
              have h1 : ((a : Int) % 2 * q) = ((a % 2 * q : Nat) : Int) := by rw [Int.natCast_mul]; rfl
              have : min ((p : Int) + 1 + (a : Int) % 2 * q) ((K : Int) - 1) = ((min (p + 1 + a % 2 * q) (K - 1) : Nat) : Int) := by rw [h1]; omega
              rw [this]
              rfl
            exact this _
          simp only [mod_int, fdiv_int, mul_l, mul_r, small64, Int.reduceLT, Int.reduceNeg, decide_true, Bool.and_self, src_t, src_l, src_s, src_z, ev_append, ev_extend, ev_pop, ev_index, ev_join, rcvG_true, rcv_idxT, rcv_idxL, rcv_join, lstV, lstG_some, tmpG_ok, isi_tt, isi_ti, isi_ts, isi_tb, isi_ss, isi_si, isi_st, isi_ii, isi_ib, isi_bi, eq_int, eq_str, ne_str, ne_int, eq_ts, lt_int, le_int, gt_int, ge_int, add_int, sub_int, bi_max2, bi_min2, bi_listL, bi_listT, bi_tuple, bi_tupT, bi_lenT, bi_lenL, slc_lst, slc_tup, rev_lst, ev_lrg, ev_slc11, prtG_some, slcG_ok, isL_int, isL_str, isL_tup, Bool.not_true, Bool.not_false, ss_nil, ss_cons, ex_set, ex_ife, ex_expr, ex_for, ex_whl, ex_ret, ex_retv, retF_own, retF_frz, ex_retN, ev_var, ev_cst, ev_glb, ev_bin, ev_neg, negV_int, ev_cmp, blV_ok, ev_not, notV_bl, iteV_bl, ev_and, ev_or, ev_and1, ev_and2, ev_or1, ev_or2, ev_ife, ev_tup, ev_lst, ev_idx, ev_rev, ev_bi, ev_isi, ev_slc10, ev_slc01, part_int, vs_nil, vs_cons, vl_nil, vl_cons, callR_ok, sizV_0, sizV_1, sizV_2, sizV_5, rdU, List.getElem?_cons_zero, List.getElem?_cons_succ, List.set_cons_zero, List.set_cons_succ, bndV_ok, lftV_ok, unpV_ok, retV_ok, sqV_nx, sqV_rt, unpF_nx, unpF_rt, pin_var, unpin_var, pin_glb, unpin_glb, pin_cst, unpin_cst, pin_bin, unpin_bin, pin_neg, unpin_neg, pin_cmp, unpin_cmp, pin_cmp2, unpin_cmp2, pin_and, unpin_and, pin_or, unpin_or, pin_not, unpin_not, pin_ife, unpin_ife, pin_tup, unpin_tup, pin_lst, unpin_lst, pin_idx, unpin_idx, pin_slc, unpin_slc, pin_rev, unpin_rev, pin_call, unpin_call, pin_bi, unpin_bi, pin_lrg, unpin_lrg, pin_mth, unpin_mth, pin_isi, unpin_isi, pin_comp, unpin_comp, pinS, unpinS, Md.may, ↓reduceIte, Bool.false_eq_true, reduceCtorEq, ne_eq, not_false_eq_true, implies_true, D.pur, D.up, px13_0, qx13_0, nx13_0, px13_1, qx13_1, nx13_1, px13_2, qx13_2, nx13_2, px13_3, qx13_3, nx13_3, px13_4, qx13_4, nx13_4, px13_6, qx13_6, nx13_6, hne', z0, z1, z2, h2, appG_ok g]
          exact wp_ok (by exact fin _ (by rw [List.length_map, List.length_range]) (fun x hx => by
            obtain ⟨q, hq, rfl⟩ := List.mem_map.mp hx
            show min _ (K - 1) < K
            omega))
        · have z0 : ((nextN t2 5 : Int) == 0) = false := beq_eq_false_iff_ne.mpr (by omega)
          have z1 : ((nextN t2 5 : Int) == 1) = false := beq_eq_false_iff_ne.mpr (by omega)
          have z2 : ((nextN t2 5 : Int) == 2) = false := beq_eq_false_iff_ne.mpr (by omega)
          simp only [mod_int, fdiv_int, mul_l, mul_r, small64, Int.reduceLT, Int.reduceNeg, decide_true, Bool.and_self, src_t, src_l, src_s, src_z, ev_append, ev_extend, ev_pop, ev_index, ev_join, rcvG_true, rcv_idxT, rcv_idxL, rcv_join, lstV, lstG_some, tmpG_ok, isi_tt, isi_ti, isi_ts, isi_tb, isi_ss, isi_si, isi_st, isi_ii, isi_ib, isi_bi, eq_int, eq_str, ne_str, ne_int, eq_ts, lt_int, le_int, gt_int, ge_int, add_int, sub_int, bi_max2, bi_min2, bi_listL, bi_listT, bi_tuple, bi_tupT, bi_lenT, bi_lenL, slc_lst, slc_tup, rev_lst, ev_lrg, ev_slc11, prtG_some, slcG_ok, isL_int, isL_str, isL_tup, Bool.not_true, Bool.not_false, ss_nil, ss_cons, ex_set, ex_ife, ex_expr, ex_for, ex_whl, ex_ret, ex_retv, retF_own, retF_frz, ex_retN, ev_var, ev_cst, ev_glb, ev_bin, ev_neg, negV_int, ev_cmp, blV_ok, ev_not, notV_bl, iteV_bl, ev_and, ev_or, ev_and1, ev_and2, ev_or1, ev_or2, ev_ife, ev_tup, ev_lst, ev_idx, ev_rev, ev_bi, ev_isi, ev_slc10, ev_slc01, part_int, vs_nil, vs_cons, vl_nil, vl_cons, callR_ok, sizV_0, sizV_1, sizV_2, sizV_5, rdU, List.getElem?_cons_zero, List.getElem?_cons_succ, List.set_cons_zero, List.set_cons_succ, bndV_ok, lftV_ok, unpV_ok, retV_ok, sqV_nx, sqV_rt, unpF_nx, unpF_rt, pin_var, unpin_var, pin_glb, unpin_glb, pin_cst, unpin_cst, pin_bin, unpin_bin, pin_neg, unpin_neg, pin_cmp, unpin_cmp, pin_cmp2, unpin_cmp2, pin_and, unpin_and, pin_or, unpin_or, pin_not, unpin_not, pin_ife, unpin_ife, pin_tup, unpin_tup, pin_lst, unpin_lst, pin_idx, unpin_idx, pin_slc, unpin_slc, pin_rev, unpin_rev, pin_call, unpin_call, pin_bi, unpin_bi, pin_lrg, unpin_lrg, pin_mth, unpin_mth, pin_isi, unpin_isi, pin_comp, unpin_comp, pinS, unpinS, Md.may, ↓reduceIte, Bool.false_eq_true, reduceCtorEq, ne_eq, not_false_eq_true, implies_true, D.pur, D.up, px13_0, qx13_0, nx13_0, px13_1, qx13_1, nx13_1, px13_2, qx13_2, nx13_2, px13_3, qx13_3, nx13_3, px13_4, qx13_4, nx13_4, px13_6, qx13_6, nx13_6, hne', z0, z1, z2, appG_ok g]
          exact wp_ok (by exact fin _ hnl' hnlt)
  · rintro e ⟨t, rows, q12, q14, hq12, hrl, hr1, hr2, rfl⟩
    rw [List.length_range] at hrl
    obtain ⟨mks, t3', hml, hmlt, hme⟩ := ev_draws (n := n + 1) (m := 2 ^ forms.length) (t := t3) (e := .bin .shl (.cst (.int 1)) (.bi .len (.cons (.var 6) .nil))) (k := .range) (es := .cons (.var 5) .nil) (xs := [.int K]) (l := List.range K) (esc := true)
      (env := [some (.rol (l.map .int), .bor), some (.int st, .bor), some (.lst (pool.map .str), .bor), some (.int most, .bor), some (.int (cellAt l st), .frz), some (.int K, .frz), some (.lst (forms.map .str), .own), some (.lst (nms.map .str), .own), some (.lst (List.map .int t3), .own), some (.lst (sts.map eN), .own), some (.int (nextN t2 5), .frz), some (.lst (rows.map eR), .own), q12, none, q14, none, none]) (ti := 8) (i := 12) (fun (k : Nat) => U.int k) (Nat.two_pow_pos _) rfl (by decide) (set_safe rfl hq12) (by simp only [mod_int, fdiv_int, mul_l, mul_r, small64, Int.reduceLT, Int.reduceNeg, decide_true, Bool.and_self, src_t, src_l, src_s, src_z, ev_append, ev_extend, ev_pop, ev_index, ev_join, rcvG_true, rcv_idxT, rcv_idxL, rcv_join, lstV, lstG_some, tmpG_ok, isi_tt, isi_ti, isi_ts, isi_tb, isi_ss, isi_si, isi_st, isi_ii, isi_ib, isi_bi, eq_int, eq_str, ne_str, ne_int, eq_ts, lt_int, le_int, gt_int, ge_int, add_int, sub_int, bi_max2, bi_min2, bi_listL, bi_listT, bi_tuple, bi_tupT, bi_lenT, bi_lenL, slc_lst, slc_tup, rev_lst, ev_lrg, ev_slc11, prtG_some, slcG_ok, isL_int, isL_str, isL_tup, Bool.not_true, Bool.not_false, ss_nil, ss_cons, ex_set, ex_ife, ex_expr, ex_for, ex_whl, ex_ret, ex_retv, retF_own, retF_frz, ex_retN, ev_var, ev_cst, ev_glb, ev_bin, ev_neg, negV_int, ev_cmp, blV_ok, ev_not, notV_bl, iteV_bl, ev_and, ev_or, ev_and1, ev_and2, ev_or1, ev_or2, ev_ife, ev_tup, ev_lst, ev_idx, ev_rev, ev_bi, ev_isi, ev_slc10, ev_slc01, part_int, vs_nil, vs_cons, vl_nil, vl_cons, callR_ok, sizV_0, sizV_1, sizV_2, sizV_5, rdU, List.getElem?_cons_zero, List.getElem?_cons_succ, List.set_cons_zero, List.set_cons_succ, bndV_ok, lftV_ok, unpV_ok, retV_ok, sqV_nx, sqV_rt, unpF_nx, unpF_rt, pin_var, unpin_var, pin_glb, unpin_glb, pin_cst, unpin_cst, pin_bin, unpin_bin, pin_neg, unpin_neg, pin_cmp, unpin_cmp, pin_cmp2, unpin_cmp2, pin_and, unpin_and, pin_or, unpin_or, pin_not, unpin_not, pin_ife, unpin_ife, pin_tup, unpin_tup, pin_lst, unpin_lst, pin_idx, unpin_idx, pin_slc, unpin_slc, pin_rev, unpin_rev, pin_call, unpin_call, pin_bi, unpin_bi, pin_lrg, unpin_lrg, pin_mth, unpin_mth, pin_isi, unpin_isi, pin_comp, unpin_comp, pinS, unpinS, Md.may, ↓reduceIte, Bool.false_eq_true, reduceCtorEq, ne_eq, not_false_eq_true, implies_true, D.pur, D.up]) rfl (fun e' => rfl) hrK (by rw [List.length_range]; omega) (fun o t' => by unfold iL; simp only [mod_int, fdiv_int, mul_l, mul_r, small64, Int.reduceLT, Int.reduceNeg, decide_true, Bool.and_self, src_t, src_l, src_s, src_z, ev_append, ev_extend, ev_pop, ev_index, ev_join, rcvG_true, rcv_idxT, rcv_idxL, rcv_join, lstV, lstG_some, tmpG_ok, isi_tt, isi_ti, isi_ts, isi_tb, isi_ss, isi_si, isi_st, isi_ii, isi_ib, isi_bi, eq_int, eq_str, ne_str, ne_int, eq_ts, lt_int, le_int, gt_int, ge_int, add_int, sub_int, bi_max2, bi_min2, bi_listL, bi_listT, bi_tuple, bi_tupT, bi_lenT, bi_lenL, slc_lst, slc_tup, rev_lst, ev_lrg, ev_slc11, prtG_some, slcG_ok, isL_int, isL_str, isL_tup, Bool.not_true, Bool.not_false, ss_nil, ss_cons, ex_set, ex_ife, ex_expr, ex_for, ex_whl, ex_ret, ex_retv, retF_own, retF_frz, ex_retN, ev_var, ev_cst, ev_glb, ev_bin, ev_neg, negV_int, ev_cmp, blV_ok, ev_not, notV_bl, iteV_bl, ev_and, ev_or, ev_and1, ev_and2, ev_or1, ev_or2, ev_ife, ev_tup, ev_lst, ev_idx, ev_rev, ev_bi, ev_isi, ev_slc10, ev_slc01, part_int, vs_nil, vs_cons, vl_nil, vl_cons, callR_ok, sizV_0, sizV_1, sizV_2, sizV_5, rdU, List.getElem?_cons_zero, List.getElem?_cons_succ, List.set_cons_zero, List.set_cons_succ, bndV_ok, lftV_ok, unpV_ok, retV_ok, sqV_nx, sqV_rt, unpF_nx, unpF_rt, pin_var, unpin_var, pin_glb, unpin_glb, pin_cst, unpin_cst, pin_bin, unpin_bin, pin_neg, unpin_neg, pin_cmp, unpin_cmp, pin_cmp2, unpin_cmp2, pin_and, unpin_and, pin_or, unpin_or, pin_not, unpin_not, pin_ife, unpin_ife, pin_tup, unpin_tup, pin_lst, unpin_lst, pin_idx, unpin_idx, pin_slc, unpin_slc, pin_rev, unpin_rev, pin_call, unpin_call, pin_bi, unpin_bi, pin_lrg, unpin_lrg, pin_mth, unpin_mth, pin_isi, unpin_isi, pin_comp, unpin_comp, pinS, unpinS, Md.may, ↓reduceIte, Bool.false_eq_true, reduceCtorEq, ne_eq, not_false_eq_true, implies_true, D.pur, D.up, List.length_map, shl_1 (show forms.length ≤ 1000000 by omega)]) rfl
    rw [List.length_range] at hml
    have hme' : evV cfg (callV cfg (n + 2)) x13_6 true ([some (.rol (l.map .int), .bor), some (.int st, .bor), some (.lst (pool.map .str), .bor), some (.int most, .bor), some (.int (cellAt l st), .frz), some (.int K, .frz), some (.lst (forms.map .str), .own), some (.lst (nms.map .str), .own), some (.lst (List.map .int t3), .own), some (.lst (sts.map eN), .own), some (.int (nextN t2 5), .frz), some (.lst (rows.map eR), .own), q12, none, q14, none, none]) = some (.ok (.lst (mks.map eN), true), [some (.rol (l.map .int), .bor), some (.int st, .bor), some (.lst (pool.map .str), .bor), some (.int most, .bor), some (.int (cellAt l st), .frz), some (.int K, .frz), some (.lst (forms.map .str), .own), some (.lst (nms.map .str), .own), some (.lst (List.map .int t3'), .own), some (.lst (sts.map eN), .own), some (.int (nextN t2 5), .frz), some (.lst (rows.map eR), .own), q12, none, q14, none, none]) := hme
    simp only [mod_int, fdiv_int, mul_l, mul_r, small64, Int.reduceLT, Int.reduceNeg, decide_true, Bool.and_self, src_t, src_l, src_s, src_z, ev_append, ev_extend, ev_pop, ev_index, ev_join, rcvG_true, rcv_idxT, rcv_idxL, rcv_join, lstV, lstG_some, tmpG_ok, isi_tt, isi_ti, isi_ts, isi_tb, isi_ss, isi_si, isi_st, isi_ii, isi_ib, isi_bi, eq_int, eq_str, ne_str, ne_int, eq_ts, lt_int, le_int, gt_int, ge_int, add_int, sub_int, bi_max2, bi_min2, bi_listL, bi_listT, bi_tuple, bi_tupT, bi_lenT, bi_lenL, slc_lst, slc_tup, rev_lst, ev_lrg, ev_slc11, prtG_some, slcG_ok, isL_int, isL_str, isL_tup, Bool.not_true, Bool.not_false, ss_nil, ss_cons, ex_set, ex_ife, ex_expr, ex_for, ex_whl, ex_ret, ex_retv, retF_own, retF_frz, ex_retN, ev_var, ev_cst, ev_glb, ev_bin, ev_neg, negV_int, ev_cmp, blV_ok, ev_not, notV_bl, iteV_bl, ev_and, ev_or, ev_and1, ev_and2, ev_or1, ev_or2, ev_ife, ev_tup, ev_lst, ev_idx, ev_rev, ev_bi, ev_isi, ev_slc10, ev_slc01, part_int, vs_nil, vs_cons, vl_nil, vl_cons, callR_ok, sizV_0, sizV_1, sizV_2, sizV_5, rdU, List.getElem?_cons_zero, List.getElem?_cons_succ, List.set_cons_zero, List.set_cons_succ, bndV_ok, lftV_ok, unpV_ok, retV_ok, sqV_nx, sqV_rt, unpF_nx, unpF_rt, pin_var, unpin_var, pin_glb, unpin_glb, pin_cst, unpin_cst, pin_bin, unpin_bin, pin_neg, unpin_neg, pin_cmp, unpin_cmp, pin_cmp2, unpin_cmp2, pin_and, unpin_and, pin_or, unpin_or, pin_not, unpin_not, pin_ife, unpin_ife, pin_tup, unpin_tup, pin_lst, unpin_lst, pin_idx, unpin_idx, pin_slc, unpin_slc, pin_rev, unpin_rev, pin_call, unpin_call, pin_bi, unpin_bi, pin_lrg, unpin_lrg, pin_mth, unpin_mth, pin_isi, unpin_isi, pin_comp, unpin_comp, pinS, unpinS, Md.may, ↓reduceIte, Bool.false_eq_true, reduceCtorEq, ne_eq, not_false_eq_true, implies_true, D.pur, D.up, px13_0, qx13_0, nx13_0, px13_1, qx13_1, nx13_1, px13_2, qx13_2, nx13_2, px13_3, qx13_3, nx13_3, px13_4, qx13_4, nx13_4, px13_6, qx13_6, nx13_6, ev_call0 ps8, ev_call0 ps10, hc3, ht3', hme']
    refine wp_ok ⟨⟨forms.map .str, nms, sts, rows, mks.map eN⟩, K, ⟨hK0, by omega, by rw [hsl, List.length_append]; rfl, hslt, hrl, hr1, hr2⟩, ?_⟩
    refine end_pur (u := eM ⟨forms.map .str, nms, sts, rows, mks.map eN⟩) ?_
    exact pur_eM (purs_str _) (pur_eN _)
theorem law_row (pool : List Str) (hp : pool.length = 9) (t : List Int) (n : Nat) : ∃ (r : List Doc) (t' : List Int), r.length ≤ 5 ∧ Doc.deps r ≤ 3 ∧ Doc.wids r ≤ 2 ∧ callV cfg (n + 2) 15 [.lst (t.map .int), .lst (pool.map .str)] = some (.ok (.lst (r.map eD), true), [t'.map .int]) := by
  rw [c15]
  apply wp_endE (P := fun z => ∃ (r : List Doc) (t' : List Int), r.length ≤ 5 ∧ Doc.deps r ≤ 3 ∧ Doc.wids r ≤ 2 ∧ z = some (.ok (.lst (r.map eD), true), [t'.map .int]))
  have gN : ∀ (m : Int) esc env, evV cfg (callV cfg (n + 1)) (.call 11 (.cons (.var 0) (.cons (.cst (.int m)) .nil))) esc env = lstG (lstV env 0) (bndV (evVl cfg (callV cfg (n + 1)) (.cons (.cst (.int m)) .nil) env) fun us e1 => callG (callV cfg (n + 1)) 11 0 us e1) := fun m esc env => ev_callG ps11 _ rfl esc env
  have nx6 : ∀ t, callV cfg (n + 1) 11 [.lst (List.map .int t), .int 6] = some (.ok (.int (nextN t 6), false), [t.dropLast.map .int]) := fun t => nxt t 6 (by decide) n
  have nx4 : ∀ t, callV cfg (n + 1) 11 [.lst (List.map .int t), .int 4] = some (.ok (.int (nextN t 4), false), [t.dropLast.map .int]) := fun t => nxt t 4 (by decide) n
  have nx9 : ∀ t, callV cfg (n + 1) 11 [.lst (List.map .int t), .int 9] = some (.ok (.int (nextN t 9), false), [t.dropLast.map .int]) := fun t => nxt t 9 (by decide) n
  have ip : ∀ t, idxU (.lst (pool.map .str)) (.int (nextN t 9)) = some (.str (pick pool (nextN t 9)), false) := fun t => idx_pool hp (nextN_lt t (by decide))
  have h6 : nextN t 6 < 6 := nextN_lt t (by decide)
  simp only [b15, l15_0, s15_0, s15_1, s15_2, mod_int, fdiv_int, mul_l, mul_r, small64, Int.reduceLT, Int.reduceNeg, decide_true, Bool.and_self, src_t, src_l, src_s, src_z, ev_append, ev_extend, ev_pop, ev_index, ev_join, rcvG_true, rcv_idxT, rcv_idxL, rcv_join, lstV, lstG_some, tmpG_ok, isi_tt, isi_ti, isi_ts, isi_tb, isi_ss, isi_si, isi_st, isi_ii, isi_ib, isi_bi, eq_int, eq_str, ne_str, ne_int, eq_ts, lt_int, le_int, gt_int, ge_int, add_int, sub_int, bi_max2, bi_min2, bi_listL, bi_listT, bi_tuple, bi_tupT, bi_lenT, bi_lenL, slc_lst, slc_tup, rev_lst, ev_lrg, ev_slc11, prtG_some, slcG_ok, isL_int, isL_str, isL_tup, Bool.not_true, Bool.not_false, ss_nil, ss_cons, ex_set, ex_ife, ex_expr, ex_for, ex_whl, ex_ret, ex_retv, retF_own, retF_frz, ex_retN, ev_var, ev_cst, ev_glb, ev_bin, ev_neg, negV_int, ev_cmp, blV_ok, ev_not, notV_bl, iteV_bl, ev_and, ev_or, ev_and1, ev_and2, ev_or1, ev_or2, ev_ife, ev_tup, ev_lst, ev_idx, ev_rev, ev_bi, ev_isi, ev_slc10, ev_slc01, part_int, vs_nil, vs_cons, vl_nil, vl_cons, callR_ok, sizV_0, sizV_1, sizV_2, sizV_5, rdU, List.getElem?_cons_zero, List.getElem?_cons_succ, List.set_cons_zero, List.set_cons_succ, bndV_ok, lftV_ok, unpV_ok, retV_ok, sqV_nx, sqV_rt, unpF_nx, unpF_rt, pin_var, unpin_var, pin_glb, unpin_glb, pin_cst, unpin_cst, pin_bin, unpin_bin, pin_neg, unpin_neg, pin_cmp, unpin_cmp, pin_cmp2, unpin_cmp2, pin_and, unpin_and, pin_or, unpin_or, pin_not, unpin_not, pin_ife, unpin_ife, pin_tup, unpin_tup, pin_lst, unpin_lst, pin_idx, unpin_idx, pin_slc, unpin_slc, pin_rev, unpin_rev, pin_call, unpin_call, pin_bi, unpin_bi, pin_lrg, unpin_lrg, pin_mth, unpin_mth, pin_isi, unpin_isi, pin_comp, unpin_comp, pinS, unpinS, Md.may, ↓reduceIte, Bool.false_eq_true, reduceCtorEq, ne_eq, not_false_eq_true, implies_true, D.pur, D.up, gN, callG, nx6, srcU_rng (show nextN t 6 ≤ 1000000 by omega)]
  refine wp_for (fun (p : Nat) => U.int p) (List.range (nextN t 6)) (fun done e => ∃ (t : List Int) (r : List Doc) (q3 q4 q5 : Option (U × Md)), r.length = done.length ∧ Doc.deps r ≤ 3 ∧ Doc.wids r ≤ 2 ∧ e = [some (.lst (List.map .int t), .mu), some (.lst (pool.map .str), .bor), some (.lst (List.map eD r), .own), q3, q4, q5]) rfl ⟨t.dropLast, [], none, none, none, rfl, Nat.zero_le _, Nat.zero_le _, rfl⟩ ?_ ?_
  · rintro done p more hl e ⟨t1, r, q3, q4, q5, hr, hd, hw, rfl⟩
    have hdl : done.length < nextN t 6 := by
      have := congrArg List.length hl
      rw [List.length_range, List.length_append, List.length_cons] at this
      omega
    refine ⟨_, rfl, ?_⟩
    have g : (r.map eD).length < 1000000 := by rw [List.length_map]; omega
    have fin : ∀ (d : Doc) (t2 : List Int) (q3 q4 q5 : Option (U × Md)), d.dep ≤ 3 → d.wid ≤ 2 → ∃ (t : List Int) (r' : List Doc) (a3 a4 a5 : Option (U × Md)), r'.length = (done ++ [p]).length ∧ Doc.deps r' ≤ 3 ∧ Doc.wids r' ≤ 2 ∧ [some (U.lst (List.map .int t2), Md.mu), some (.lst (pool.map .str), .bor), some (.lst (r.map eD ++ [eD d]), .own), q3, q4, q5] = [some (.lst (List.map .int t), .mu), some (.lst (pool.map .str), .bor), some (.lst (List.map eD r'), .own), a3, a4, a5] := fun d t2 q3 q4 q5 h1 h2 => ⟨t2, r ++ [d], q3, q4, q5, by rw [List.length_append, List.length_append, hr]; rfl, by
      rw [ddeps_app]
      show max _ (max d.dep 0) ≤ 3
      omega, by
      rw [dwids_app]
      show max _ (max d.wid 0) ≤ 2
      omega, by rw [List.map_append]; rfl⟩
    have h4 : nextN t1 4 < 4 := nextN_lt t1 (by decide)
    by_cases w0 : nextN t1 4 = 0
    · have z0 : decide ((0 : Int) < (nextN t1 4 : Int)) = false := decide_eq_false (by omega)
      have z1 : decide ((1 : Int) < (nextN t1 4 : Int)) = false := decide_eq_false (by omega)
      simp only [b15, l15_0, s15_0, s15_1, s15_2, mod_int, fdiv_int, mul_l, mul_r, small64, Int.reduceLT, Int.reduceNeg, decide_true, Bool.and_self, src_t, src_l, src_s, src_z, ev_append, ev_extend, ev_pop, ev_index, ev_join, rcvG_true, rcv_idxT, rcv_idxL, rcv_join, lstV, lstG_some, tmpG_ok, isi_tt, isi_ti, isi_ts, isi_tb, isi_ss, isi_si, isi_st, isi_ii, isi_ib, isi_bi, eq_int, eq_str, ne_str, ne_int, eq_ts, lt_int, le_int, gt_int, ge_int, add_int, sub_int, bi_max2, bi_min2, bi_listL, bi_listT, bi_tuple, bi_tupT, bi_lenT, bi_lenL, slc_lst, slc_tup, rev_lst, ev_lrg, ev_slc11, prtG_some, slcG_ok, isL_int, isL_str, isL_tup, Bool.not_true, Bool.not_false, ss_nil, ss_cons, ex_set, ex_ife, ex_expr, ex_for, ex_whl, ex_ret, ex_retv, retF_own, retF_frz, ex_retN, ev_var, ev_cst, ev_glb, ev_bin, ev_neg, negV_int, ev_cmp, blV_ok, ev_not, notV_bl, iteV_bl, ev_and, ev_or, ev_and1, ev_and2, ev_or1, ev_or2, ev_ife, ev_tup, ev_lst, ev_idx, ev_rev, ev_bi, ev_isi, ev_slc10, ev_slc01, part_int, vs_nil, vs_cons, vl_nil, vl_cons, callR_ok, sizV_0, sizV_1, sizV_2, sizV_5, rdU, List.getElem?_cons_zero, List.getElem?_cons_succ, List.set_cons_zero, List.set_cons_succ, bndV_ok, lftV_ok, unpV_ok, retV_ok, sqV_nx, sqV_rt, unpF_nx, unpF_rt, pin_var, unpin_var, pin_glb, unpin_glb, pin_cst, unpin_cst, pin_bin, unpin_bin, pin_neg, unpin_neg, pin_cmp, unpin_cmp, pin_cmp2, unpin_cmp2, pin_and, unpin_and, pin_or, unpin_or, pin_not, unpin_not, pin_ife, unpin_ife, pin_tup, unpin_tup, pin_lst, unpin_lst, pin_idx, unpin_idx, pin_slc, unpin_slc, pin_rev, unpin_rev, pin_call, unpin_call, pin_bi, unpin_bi, pin_lrg, unpin_lrg, pin_mth, unpin_mth, pin_isi, unpin_isi, pin_comp, unpin_comp, pinS, unpinS, Md.may, ↓reduceIte, Bool.false_eq_true, reduceCtorEq, ne_eq, not_false_eq_true, implies_true, D.pur, D.up, gN, callG, nx4, nx9, ip, z0, z1, appG_ok g]
      exact wp_ok (by exact fin (.node _ []) _ _ _ _ (Nat.le_of_ble_eq_true rfl) (Nat.le_of_ble_eq_true rfl))
    · have z0 : decide ((0 : Int) < (nextN t1 4 : Int)) = true := decide_eq_true (by omega)
      by_cases w1 : nextN t1 4 = 1
      · have z1 : decide ((1 : Int) < (nextN t1 4 : Int)) = false := decide_eq_false (by omega)
        simp only [b15, l15_0, s15_0, s15_1, s15_2, mod_int, fdiv_int, mul_l, mul_r, small64, Int.reduceLT, Int.reduceNeg, decide_true, Bool.and_self, src_t, src_l, src_s, src_z, ev_append, ev_extend, ev_pop, ev_index, ev_join, rcvG_true, rcv_idxT, rcv_idxL, rcv_join, lstV, lstG_some, tmpG_ok, isi_tt, isi_ti, isi_ts, isi_tb, isi_ss, isi_si, isi_st, isi_ii, isi_ib, isi_bi, eq_int, eq_str, ne_str, ne_int, eq_ts, lt_int, le_int, gt_int, ge_int, add_int, sub_int, bi_max2, bi_min2, bi_listL, bi_listT, bi_tuple, bi_tupT, bi_lenT, bi_lenL, slc_lst, slc_tup, rev_lst, ev_lrg, ev_slc11, prtG_some, slcG_ok, isL_int, isL_str, isL_tup, Bool.not_true, Bool.not_false, ss_nil, ss_cons, ex_set, ex_ife, ex_expr, ex_for, ex_whl, ex_ret, ex_retv, retF_own, retF_frz, ex_retN, ev_var, ev_cst, ev_glb, ev_bin, ev_neg, negV_int, ev_cmp, blV_ok, ev_not, notV_bl, iteV_bl, ev_and, ev_or, ev_and1, ev_and2, ev_or1, ev_or2, ev_ife, ev_tup, ev_lst, ev_idx, ev_rev, ev_bi, ev_isi, ev_slc10, ev_slc01, part_int, vs_nil, vs_cons, vl_nil, vl_cons, callR_ok, sizV_0, sizV_1, sizV_2, sizV_5, rdU, List.getElem?_cons_zero, List.getElem?_cons_succ, List.set_cons_zero, List.set_cons_succ, bndV_ok, lftV_ok, unpV_ok, retV_ok, sqV_nx, sqV_rt, unpF_nx, unpF_rt, pin_var, unpin_var, pin_glb, unpin_glb, pin_cst, unpin_cst, pin_bin, unpin_bin, pin_neg, unpin_neg, pin_cmp, unpin_cmp, pin_cmp2, unpin_cmp2, pin_and, unpin_and, pin_or, unpin_or, pin_not, unpin_not, pin_ife, unpin_ife, pin_tup, unpin_tup, pin_lst, unpin_lst, pin_idx, unpin_idx, pin_slc, unpin_slc, pin_rev, unpin_rev, pin_call, unpin_call, pin_bi, unpin_bi, pin_lrg, unpin_lrg, pin_mth, unpin_mth, pin_isi, unpin_isi, pin_comp, unpin_comp, pinS, unpinS, Md.may, ↓reduceIte, Bool.false_eq_true, reduceCtorEq, ne_eq, not_false_eq_true, implies_true, D.pur, D.up, gN, callG, nx4, nx9, ip, z0, z1, appG_ok g]
        exact wp_ok (by exact fin (.node _ [.node _ []]) _ _ _ _ (Nat.le_of_ble_eq_true rfl) (Nat.le_of_ble_eq_true rfl))
      · have z1 : decide ((1 : Int) < (nextN t1 4 : Int)) = true := decide_eq_true (by omega)
        simp only [b15, l15_0, s15_0, s15_1, s15_2, mod_int, fdiv_int, mul_l, mul_r, small64, Int.reduceLT, Int.reduceNeg, decide_true, Bool.and_self, src_t, src_l, src_s, src_z, ev_append, ev_extend, ev_pop, ev_index, ev_join, rcvG_true, rcv_idxT, rcv_idxL, rcv_join, lstV, lstG_some, tmpG_ok, isi_tt, isi_ti, isi_ts, isi_tb, isi_ss, isi_si, isi_st, isi_ii, isi_ib, isi_bi, eq_int, eq_str, ne_str, ne_int, eq_ts, lt_int, le_int, gt_int, ge_int, add_int, sub_int, bi_max2, bi_min2, bi_listL, bi_listT, bi_tuple, bi_tupT, bi_lenT, bi_lenL, slc_lst, slc_tup, rev_lst, ev_lrg, ev_slc11, prtG_some, slcG_ok, isL_int, isL_str, isL_tup, Bool.not_true, Bool.not_false, ss_nil, ss_cons, ex_set, ex_ife, ex_expr, ex_for, ex_whl, ex_ret, ex_retv, retF_own, retF_frz, ex_retN, ev_var, ev_cst, ev_glb, ev_bin, ev_neg, negV_int, ev_cmp, blV_ok, ev_not, notV_bl, iteV_bl, ev_and, ev_or, ev_and1, ev_and2, ev_or1, ev_or2, ev_ife, ev_tup, ev_lst, ev_idx, ev_rev, ev_bi, ev_isi, ev_slc10, ev_slc01, part_int, vs_nil, vs_cons, vl_nil, vl_cons, callR_ok, sizV_0, sizV_1, sizV_2, sizV_5, rdU, List.getElem?_cons_zero, List.getElem?_cons_succ, List.set_cons_zero, List.set_cons_succ, bndV_ok, lftV_ok, unpV_ok, retV_ok, sqV_nx, sqV_rt, unpF_nx, unpF_rt, pin_var, unpin_var, pin_glb, unpin_glb, pin_cst, unpin_cst, pin_bin, unpin_bin, pin_neg, unpin_neg, pin_cmp, unpin_cmp, pin_cmp2, unpin_cmp2, pin_and, unpin_and, pin_or, unpin_or, pin_not, unpin_not, pin_ife, unpin_ife, pin_tup, unpin_tup, pin_lst, unpin_lst, pin_idx, unpin_idx, pin_slc, unpin_slc, pin_rev, unpin_rev, pin_call, unpin_call, pin_bi, unpin_bi, pin_lrg, unpin_lrg, pin_mth, unpin_mth, pin_isi, unpin_isi, pin_comp, unpin_comp, pinS, unpinS, Md.may, ↓reduceIte, Bool.false_eq_true, reduceCtorEq, ne_eq, not_false_eq_true, implies_true, D.pur, D.up, gN, callG, nx4, nx9, ip, z0, z1, appG_ok g]
        exact wp_ok (by exact fin (.node _ [.node _ [.node _ []], .node _ []]) _ _ _ _ (Nat.le_of_ble_eq_true rfl) (Nat.le_of_ble_eq_true rfl))
  · rintro e ⟨t1, r, q3, q4, q5, hr, hd, hw, rfl⟩
    simp only [b15, l15_0, s15_0, s15_1, s15_2, mod_int, fdiv_int, mul_l, mul_r, small64, Int.reduceLT, Int.reduceNeg, decide_true, Bool.and_self, src_t, src_l, src_s, src_z, ev_append, ev_extend, ev_pop, ev_index, ev_join, rcvG_true, rcv_idxT, rcv_idxL, rcv_join, lstV, lstG_some, tmpG_ok, isi_tt, isi_ti, isi_ts, isi_tb, isi_ss, isi_si, isi_st, isi_ii, isi_ib, isi_bi, eq_int, eq_str, ne_str, ne_int, eq_ts, lt_int, le_int, gt_int, ge_int, add_int, sub_int, bi_max2, bi_min2, bi_listL, bi_listT, bi_tuple, bi_tupT, bi_lenT, bi_lenL, slc_lst, slc_tup, rev_lst, ev_lrg, ev_slc11, prtG_some, slcG_ok, isL_int, isL_str, isL_tup, Bool.not_true, Bool.not_false, ss_nil, ss_cons, ex_set, ex_ife, ex_expr, ex_for, ex_whl, ex_ret, ex_retv, retF_own, retF_frz, ex_retN, ev_var, ev_cst, ev_glb, ev_bin, ev_neg, negV_int, ev_cmp, blV_ok, ev_not, notV_bl, iteV_bl, ev_and, ev_or, ev_and1, ev_and2, ev_or1, ev_or2, ev_ife, ev_tup, ev_lst, ev_idx, ev_rev, ev_bi, ev_isi, ev_slc10, ev_slc01, part_int, vs_nil, vs_cons, vl_nil, vl_cons, callR_ok, sizV_0, sizV_1, sizV_2, sizV_5, rdU, List.getElem?_cons_zero, List.getElem?_cons_succ, List.set_cons_zero, List.set_cons_succ, bndV_ok, lftV_ok, unpV_ok, retV_ok, sqV_nx, sqV_rt, unpF_nx, unpF_rt, pin_var, unpin_var, pin_glb, unpin_glb, pin_cst, unpin_cst, pin_bin, unpin_bin, pin_neg, unpin_neg, pin_cmp, unpin_cmp, pin_cmp2, unpin_cmp2, pin_and, unpin_and, pin_or, unpin_or, pin_not, unpin_not, pin_ife, unpin_ife, pin_tup, unpin_tup, pin_lst, unpin_lst, pin_idx, unpin_idx, pin_slc, unpin_slc, pin_rev, unpin_rev, pin_call, unpin_call, pin_bi, unpin_bi, pin_lrg, unpin_lrg, pin_mth, unpin_mth, pin_isi, unpin_isi, pin_comp, unpin_comp, pinS, unpinS, Md.may, ↓reduceIte, Bool.false_eq_true, reduceCtorEq, ne_eq, not_false_eq_true, implies_true, D.pur, D.up]
    refine wp_ok ⟨r, t1, ?_, hd, hw, end_lst1 (purs_eD _) rfl (purs_int _)⟩
    rw [List.length_range] at hr
    omega
theorem law_items (pool : List Str) (hp : pool.length = 9) : ∀ (d : Nat) (t : List Int) (n : Nat), d + 2 ≤ n → ∃ (its : List It) (t' : List Int), its.length ≤ 3 ∧ It.deps its ≤ d + 1 ∧ It.wids its ≤ 3 ∧ callV cfg n 18 [.lst (t.map .int), .int d, .lst (pool.map .str)] = some (.ok (.tup (its.map eI), false), [t'.map .int])
  | _, _, 0, h => absurd h (by omega)
  | _, _, 1, h => absurd h (by omega)
  | d, t, n + 2, hn => by
    rw [c18]
    apply wp_endE (P := fun z => ∃ (its : List It) (t' : List Int), its.length ≤ 3 ∧ It.deps its ≤ d + 1 ∧ It.wids its ≤ 3 ∧ z = some (.ok (.tup (its.map eI), false), [t'.map .int]))
    have gN : ∀ (m : Int) esc env, evV cfg (callV cfg (n + 1)) (.call 11 (.cons (.var 0) (.cons (.cst (.int m)) .nil))) esc env = lstG (lstV env 0) (bndV (evVl cfg (callV cfg (n + 1)) (.cons (.cst (.int m)) .nil) env) fun us e1 => callG (callV cfg (n + 1)) 11 0 us e1) := fun m esc env => ev_callG ps11 _ rfl esc env
    have gI : ∀ esc env, evV cfg (callV cfg (n + 1)) (.call 18 (.cons (.var 0) (.cons (.bin .sub (.var 1) (.cst (.int 1))) (.cons (.var 2) .nil)))) esc env = lstG (lstV env 0) (bndV (evVl cfg (callV cfg (n + 1)) (.cons (.bin .sub (.var 1) (.cst (.int 1))) (.cons (.var 2) .nil)) env) fun us e1 => callG (callV cfg (n + 1)) 18 0 us e1) := fun esc env => ev_callG ps18 _ rfl esc env
    have nx4 : ∀ t, callV cfg (n + 1) 11 [.lst (List.map .int t), .int 4] = some (.ok (.int (nextN t 4), false), [t.dropLast.map .int]) := fun t => nxt t 4 (by decide) n
    have nx3 : ∀ t, callV cfg (n + 1) 11 [.lst (List.map .int t), .int 3] = some (.ok (.int (nextN t 3), false), [t.dropLast.map .int]) := fun t => nxt t 3 (by decide) n
    have nx9 : ∀ t, callV cfg (n + 1) 11 [.lst (List.map .int t), .int 9] = some (.ok (.int (nextN t 9), false), [t.dropLast.map .int]) := fun t => nxt t 9 (by decide) n
    have ip : ∀ t, idxU (.lst (pool.map .str)) (.int (nextN t 9)) = some (.str (pick pool (nextN t 9)), false) := fun t => idx_pool hp (nextN_lt t (by decide))
    have h4 : nextN t 4 < 4 := nextN_lt t (by decide)
    simp only [b18, l18_0, s18_0, s18_1, s18_2, mod_int, fdiv_int, mul_l, mul_r, small64, Int.reduceLT, Int.reduceNeg, decide_true, Bool.and_self, src_t, src_l, src_s, src_z, ev_append, ev_extend, ev_pop, ev_index, ev_join, rcvG_true, rcv_idxT, rcv_idxL, rcv_join, lstV, lstG_some, tmpG_ok, isi_tt, isi_ti, isi_ts, isi_tb, isi_ss, isi_si, isi_st, isi_ii, isi_ib, isi_bi, eq_int, eq_str, ne_str, ne_int, eq_ts, lt_int, le_int, gt_int, ge_int, add_int, sub_int, bi_max2, bi_min2, bi_listL, bi_listT, bi_tuple, bi_tupT, bi_lenT, bi_lenL, slc_lst, slc_tup, rev_lst, ev_lrg, ev_slc11, prtG_some, slcG_ok, isL_int, isL_str, isL_tup, Bool.not_true, Bool.not_false, ss_nil, ss_cons, ex_set, ex_ife, ex_expr, ex_for, ex_whl, ex_ret, ex_retv, retF_own, retF_frz, ex_retN, ev_var, ev_cst, ev_glb, ev_bin, ev_neg, negV_int, ev_cmp, blV_ok, ev_not, notV_bl, iteV_bl, ev_and, ev_or, ev_and1, ev_and2, ev_or1, ev_or2, ev_ife, ev_tup, ev_lst, ev_idx, ev_rev, ev_bi, ev_isi, ev_slc10, ev_slc01, part_int, vs_nil, vs_cons, vl_nil, vl_cons, callR_ok, sizV_0, sizV_1, sizV_2, sizV_5, rdU, List.getElem?_cons_zero, List.getElem?_cons_succ, List.set_cons_zero, List.set_cons_succ, bndV_ok, lftV_ok, unpV_ok, retV_ok, sqV_nx, sqV_rt, unpF_nx, unpF_rt, pin_var, unpin_var, pin_glb, unpin_glb, pin_cst, unpin_cst, pin_bin, unpin_bin, pin_neg, unpin_neg, pin_cmp, unpin_cmp, pin_cmp2, unpin_cmp2, pin_and, unpin_and, pin_or, unpin_or, pin_not, unpin_not, pin_ife, unpin_ife, pin_tup, unpin_tup, pin_lst, unpin_lst, pin_idx, unpin_idx, pin_slc, unpin_slc, pin_rev, unpin_rev, pin_call, unpin_call, pin_bi, unpin_bi, pin_lrg, unpin_lrg, pin_mth, unpin_mth, pin_isi, unpin_isi, pin_comp, unpin_comp, pinS, unpinS, Md.may, ↓reduceIte, Bool.false_eq_true, reduceCtorEq, ne_eq, not_false_eq_true, implies_true, D.pur, D.up, gN, callG, nx4, srcU_rng (show nextN t 4 ≤ 1000000 by omega)]
    refine wp_for (fun (p : Nat) => U.int p) (List.range (nextN t 4)) (fun done e => ∃ (t : List Int) (its : List It) (q4 q5 : Option (U × Md)), its.length = done.length ∧ It.deps its ≤ d + 1 ∧ It.wids its ≤ 3 ∧ e = [some (.lst (List.map .int t), .mu), some (.int d, .bor), some (.lst (pool.map .str), .bor), some (.lst (List.map eI its), .own), q4, q5]) rfl ⟨t.dropLast, [], none, none, rfl, Nat.zero_le _, Nat.zero_le _, rfl⟩ ?_ ?_
    · rintro done p more hl e ⟨t1, its, q4, q5, hr, hd, hw, rfl⟩
      have hdl : done.length < nextN t 4 := by
        have := congrArg List.length hl
        rw [List.length_range, List.length_append, List.length_cons] at this
        omega
      refine ⟨_, rfl, ?_⟩
      have g : (its.map eI).length < 1000000 := by rw [List.length_map]; omega
      have fin : ∀ (i : It) (t2 : List Int) (q4 q5 : Option (U × Md)), i.dep ≤ d + 1 → i.wid ≤ 3 → ∃ (t : List Int) (its' : List It) (a4 a5 : Option (U × Md)), its'.length = (done ++ [p]).length ∧ It.deps its' ≤ d + 1 ∧ It.wids its' ≤ 3 ∧ [some (U.lst (List.map .int t2), Md.mu), some (.int d, .bor), some (.lst (pool.map .str), .bor), some (.lst (its.map eI ++ [eI i]), .own), q4, q5] = [some (.lst (List.map .int t), .mu), some (.int d, .bor), some (.lst (pool.map .str), .bor), some (.lst (List.map eI its'), .own), a4, a5] := fun i t2 q4 q5 h1 h2 => ⟨t2, its ++ [i], q4, q5, by rw [List.length_append, List.length_append, hr]; rfl, by
        rw [ideps_app]
        show max _ (max i.dep 0) ≤ d + 1
        omega, by
        rw [iwids_app]
        show max _ (max i.wid 0) ≤ 3
        omega, by rw [List.map_append]; rfl⟩
      by_cases w0 : nextN t1 3 = 0
      · have z0 : ((nextN t1 3 : Int) == 0) = true := by rw [w0]; rfl
        simp only [b18, l18_0, s18_0, s18_1, s18_2, mod_int, fdiv_int, mul_l, mul_r, small64, Int.reduceLT, Int.reduceNeg, decide_true, Bool.and_self, src_t, src_l, src_s, src_z, ev_append, ev_extend, ev_pop, ev_index, ev_join, rcvG_true, rcv_idxT, rcv_idxL, rcv_join, lstV, lstG_some, tmpG_ok, isi_tt, isi_ti, isi_ts, isi_tb, isi_ss, isi_si, isi_st, isi_ii, isi_ib, isi_bi, eq_int, eq_str, ne_str, ne_int, eq_ts, lt_int, le_int, gt_int, ge_int, add_int, sub_int, bi_max2, bi_min2, bi_listL, bi_listT, bi_tuple, bi_tupT, bi_lenT, bi_lenL, slc_lst, slc_tup, rev_lst, ev_lrg, ev_slc11, prtG_some, slcG_ok, isL_int, isL_str, isL_tup, Bool.not_true, Bool.not_false, ss_nil, ss_cons, ex_set, ex_ife, ex_expr, ex_for, ex_whl, ex_ret, ex_retv, retF_own, retF_frz, ex_retN, ev_var, ev_cst, ev_glb, ev_bin, ev_neg, negV_int, ev_cmp, blV_ok, ev_not, notV_bl, iteV_bl, ev_and, ev_or, ev_and1, ev_and2, ev_or1, ev_or2, ev_ife, ev_tup, ev_lst, ev_idx, ev_rev, ev_bi, ev_isi, ev_slc10, ev_slc01, part_int, vs_nil, vs_cons, vl_nil, vl_cons, callR_ok, sizV_0, sizV_1, sizV_2, sizV_5, rdU, List.getElem?_cons_zero, List.getElem?_cons_succ, List.set_cons_zero, List.set_cons_succ, bndV_ok, lftV_ok, unpV_ok, retV_ok, sqV_nx, sqV_rt, unpF_nx, unpF_rt, pin_var, unpin_var, pin_glb, unpin_glb, pin_cst, unpin_cst, pin_bin, unpin_bin, pin_neg, unpin_neg, pin_cmp, unpin_cmp, pin_cmp2, unpin_cmp2, pin_and, unpin_and, pin_or, unpin_or, pin_not, unpin_not, pin_ife, unpin_ife, pin_tup, unpin_tup, pin_lst, unpin_lst, pin_idx, unpin_idx, pin_slc, unpin_slc, pin_rev, unpin_rev, pin_call, unpin_call, pin_bi, unpin_bi, pin_lrg, unpin_lrg, pin_mth, unpin_mth, pin_isi, unpin_isi, pin_comp, unpin_comp, pinS, unpinS, Md.may, ↓reduceIte, Bool.false_eq_true, reduceCtorEq, ne_eq, not_false_eq_true, implies_true, D.pur, D.up, gN, callG, nx3, z0, appG_ok g]
        exact wp_ok (by exact fin .hole _ _ _ (Nat.zero_le _) (Nat.zero_le _))
      · have z0 : ((nextN t1 3 : Int) == 0) = false := beq_eq_false_iff_ne.mpr (by omega)
        cases d with
        | zero =>
          have z1 : (((0 : Nat) : Int) == 0) = true := rfl
          simp only [b18, l18_0, s18_0, s18_1, s18_2, mod_int, fdiv_int, mul_l, mul_r, small64, Int.reduceLT, Int.reduceNeg, decide_true, Bool.and_self, src_t, src_l, src_s, src_z, ev_append, ev_extend, ev_pop, ev_index, ev_join, rcvG_true, rcv_idxT, rcv_idxL, rcv_join, lstV, lstG_some, tmpG_ok, isi_tt, isi_ti, isi_ts, isi_tb, isi_ss, isi_si, isi_st, isi_ii, isi_ib, isi_bi, eq_int, eq_str, ne_str, ne_int, eq_ts, lt_int, le_int, gt_int, ge_int, add_int, sub_int, bi_max2, bi_min2, bi_listL, bi_listT, bi_tuple, bi_tupT, bi_lenT, bi_lenL, slc_lst, slc_tup, rev_lst, ev_lrg, ev_slc11, prtG_some, slcG_ok, isL_int, isL_str, isL_tup, Bool.not_true, Bool.not_false, ss_nil, ss_cons, ex_set, ex_ife, ex_expr, ex_for, ex_whl, ex_ret, ex_retv, retF_own, retF_frz, ex_retN, ev_var, ev_cst, ev_glb, ev_bin, ev_neg, negV_int, ev_cmp, blV_ok, ev_not, notV_bl, iteV_bl, ev_and, ev_or, ev_and1, ev_and2, ev_or1, ev_or2, ev_ife, ev_tup, ev_lst, ev_idx, ev_rev, ev_bi, ev_isi, ev_slc10, ev_slc01, part_int, vs_nil, vs_cons, vl_nil, vl_cons, callR_ok, sizV_0, sizV_1, sizV_2, sizV_5, rdU, List.getElem?_cons_zero, List.getElem?_cons_succ, List.set_cons_zero, List.set_cons_succ, bndV_ok, lftV_ok, unpV_ok, retV_ok, sqV_nx, sqV_rt, unpF_nx, unpF_rt, pin_var, unpin_var, pin_glb, unpin_glb, pin_cst, unpin_cst, pin_bin, unpin_bin, pin_neg, unpin_neg, pin_cmp, unpin_cmp, pin_cmp2, unpin_cmp2, pin_and, unpin_and, pin_or, unpin_or, pin_not, unpin_not, pin_ife, unpin_ife, pin_tup, unpin_tup, pin_lst, unpin_lst, pin_idx, unpin_idx, pin_slc, unpin_slc, pin_rev, unpin_rev, pin_call, unpin_call, pin_bi, unpin_bi, pin_lrg, unpin_lrg, pin_mth, unpin_mth, pin_isi, unpin_isi, pin_comp, unpin_comp, pinS, unpinS, Md.may, ↓reduceIte, Bool.false_eq_true, reduceCtorEq, ne_eq, not_false_eq_true, implies_true, D.pur, D.up, gN, callG, nx3, nx9, ip, z0, z1, appG_ok g]
          exact wp_ok (by exact fin (.node _ []) _ _ _ (Nat.le_of_ble_eq_true rfl) (Nat.le_of_ble_eq_true rfl))
        | succ d =>
          have z1 : (((d + 1 : Nat) : Int) == 0) = false := beq_eq_false_iff_ne.mpr (by omega)
          have e1 : ((d + 1 : Nat) : Int) - 1 = (d : Int) := by omega
          obtain ⟨its2, t2, l1, l2, l3, hev⟩ := law_items pool hp d t1.dropLast.dropLast (n + 1) (by omega)
          simp only [b18, l18_0, s18_0, s18_1, s18_2, mod_int, fdiv_int, mul_l, mul_r, small64, Int.reduceLT, Int.reduceNeg, decide_true, Bool.and_self, src_t, src_l, src_s, src_z, ev_append, ev_extend, ev_pop, ev_index, ev_join, rcvG_true, rcv_idxT, rcv_idxL, rcv_join, lstV, lstG_some, tmpG_ok, isi_tt, isi_ti, isi_ts, isi_tb, isi_ss, isi_si, isi_st, isi_ii, isi_ib, isi_bi, eq_int, eq_str, ne_str, ne_int, eq_ts, lt_int, le_int, gt_int, ge_int, add_int, sub_int, bi_max2, bi_min2, bi_listL, bi_listT, bi_tuple, bi_tupT, bi_lenT, bi_lenL, slc_lst, slc_tup, rev_lst, ev_lrg, ev_slc11, prtG_some, slcG_ok, isL_int, isL_str, isL_tup, Bool.not_true, Bool.not_false, ss_nil, ss_cons, ex_set, ex_ife, ex_expr, ex_for, ex_whl, ex_ret, ex_retv, retF_own, retF_frz, ex_retN, ev_var, ev_cst, ev_glb, ev_bin, ev_neg, negV_int, ev_cmp, blV_ok, ev_not, notV_bl, iteV_bl, ev_and, ev_or, ev_and1, ev_and2, ev_or1, ev_or2, ev_ife, ev_tup, ev_lst, ev_idx, ev_rev, ev_bi, ev_isi, ev_slc10, ev_slc01, part_int, vs_nil, vs_cons, vl_nil, vl_cons, callR_ok, sizV_0, sizV_1, sizV_2, sizV_5, rdU, List.getElem?_cons_zero, List.getElem?_cons_succ, List.set_cons_zero, List.set_cons_succ, bndV_ok, lftV_ok, unpV_ok, retV_ok, sqV_nx, sqV_rt, unpF_nx, unpF_rt, pin_var, unpin_var, pin_glb, unpin_glb, pin_cst, unpin_cst, pin_bin, unpin_bin, pin_neg, unpin_neg, pin_cmp, unpin_cmp, pin_cmp2, unpin_cmp2, pin_and, unpin_and, pin_or, unpin_or, pin_not, unpin_not, pin_ife, unpin_ife, pin_tup, unpin_tup, pin_lst, unpin_lst, pin_idx, unpin_idx, pin_slc, unpin_slc, pin_rev, unpin_rev, pin_call, unpin_call, pin_bi, unpin_bi, pin_lrg, unpin_lrg, pin_mth, unpin_mth, pin_isi, unpin_isi, pin_comp, unpin_comp, pinS, unpinS, Md.may, ↓reduceIte, Bool.false_eq_true, reduceCtorEq, ne_eq, not_false_eq_true, implies_true, D.pur, D.up, gN, callG, nx3, nx9, ip, z0, z1, gI, e1, hev, appG_ok g]
          rw [eI_node]
          exact wp_ok (by exact fin (.node _ its2) _ _ _ (by show It.deps its2 + 1 ≤ d + 1 + 1; omega) (by show max its2.length (It.wids its2) ≤ 3; omega))
    · rintro e ⟨t1, its, q4, q5, hr, hd, hw, rfl⟩
      simp only [b18, l18_0, s18_0, s18_1, s18_2, mod_int, fdiv_int, mul_l, mul_r, small64, Int.reduceLT, Int.reduceNeg, decide_true, Bool.and_self, src_t, src_l, src_s, src_z, ev_append, ev_extend, ev_pop, ev_index, ev_join, rcvG_true, rcv_idxT, rcv_idxL, rcv_join, lstV, lstG_some, tmpG_ok, isi_tt, isi_ti, isi_ts, isi_tb, isi_ss, isi_si, isi_st, isi_ii, isi_ib, isi_bi, eq_int, eq_str, ne_str, ne_int, eq_ts, lt_int, le_int, gt_int, ge_int, add_int, sub_int, bi_max2, bi_min2, bi_listL, bi_listT, bi_tuple, bi_tupT, bi_lenT, bi_lenL, slc_lst, slc_tup, rev_lst, ev_lrg, ev_slc11, prtG_some, slcG_ok, isL_int, isL_str, isL_tup, Bool.not_true, Bool.not_false, ss_nil, ss_cons, ex_set, ex_ife, ex_expr, ex_for, ex_whl, ex_ret, ex_retv, retF_own, retF_frz, ex_retN, ev_var, ev_cst, ev_glb, ev_bin, ev_neg, negV_int, ev_cmp, blV_ok, ev_not, notV_bl, iteV_bl, ev_and, ev_or, ev_and1, ev_and2, ev_or1, ev_or2, ev_ife, ev_tup, ev_lst, ev_idx, ev_rev, ev_bi, ev_isi, ev_slc10, ev_slc01, part_int, vs_nil, vs_cons, vl_nil, vl_cons, callR_ok, sizV_0, sizV_1, sizV_2, sizV_5, rdU, List.getElem?_cons_zero, List.getElem?_cons_succ, List.set_cons_zero, List.set_cons_succ, bndV_ok, lftV_ok, unpV_ok, retV_ok, sqV_nx, sqV_rt, unpF_nx, unpF_rt, pin_var, unpin_var, pin_glb, unpin_glb, pin_cst, unpin_cst, pin_bin, unpin_bin, pin_neg, unpin_neg, pin_cmp, unpin_cmp, pin_cmp2, unpin_cmp2, pin_and, unpin_and, pin_or, unpin_or, pin_not, unpin_not, pin_ife, unpin_ife, pin_tup, unpin_tup, pin_lst, unpin_lst, pin_idx, unpin_idx, pin_slc, unpin_slc, pin_rev, unpin_rev, pin_call, unpin_call, pin_bi, unpin_bi, pin_lrg, unpin_lrg, pin_mth, unpin_mth, pin_isi, unpin_isi, pin_comp, unpin_comp, pinS, unpinS, Md.may, ↓reduceIte, Bool.false_eq_true, reduceCtorEq, ne_eq, not_false_eq_true, implies_true, D.pur, D.up]
      refine wp_ok ⟨its, t1, ?_, hd, hw, end_pur1 (purs_eI _) rfl (purs_int _)⟩
      rw [List.length_range] at hr
      omega
structure OkR (r : List Doc) : Prop where
  l : r.length ≤ 5
  d : Doc.deps r ≤ 3
  w : Doc.wids r ≤ 2
structure OkI (i : List It) : Prop where
  l : i.length ≤ 3
  d : It.deps i ≤ 3
  w : It.wids i ≤ 3
theorem law_right {M : Ma} {k : Nat} (o : M.Ok k) {r q : List Doc} {its : List It} (hr : OkR r) (hq : OkR q) (hi : OkI its) : callV cfg 59 21 [eM M, .lst (r.map eD), .lst (q.map eD), .tup (its.map eI)] = some (.ok (.bl true, false), []) := by
  rw [show (59 : Nat) = 58 + 1 from rfl, c21]
  apply wp_end
  obtain ⟨r1, r2, r3⟩ := hr
  obtain ⟨q1, q2, q3⟩ := hq
  obtain ⟨i1, i2, i3⟩ := hi
  have a1 : ∀ x : List Doc, Doc.deps x ≤ 10 → Doc.wids x ≤ 100 → x.length ≤ 100 → callV cfg 58 17 [eM M, .lst (x.map eD)] = some (.ok (M.way k x, false), []) := fun x h1 h2 h3 => law_way (n := 56) o x (by omega) (by omega) (by omega)
  have a2 : callV cfg 58 5 [eM M, .tup (r.map eD)] = some (.ok (M.way k r, false), []) := way_of (n := 57) o r (by omega)
  have a3 : ∀ x : List Doc, callV cfg 58 20 [M.way k x, M.way k x] = some (.ok (.bl true, false), []) := fun x => law_same_way o x 56
  have a4 : ∀ x y : List Doc, callV cfg 58 4 [M.way k x, M.way k y] = some (.ok (M.way k (x ++ y), false), []) := fun x y => way_app (n := 57) o x y
  have a5 : callV cfg 58 7 [eM M, .tup (its.map eI), M.way k r] = some (.ok (M.way k (It.fulls r its), false), []) := way_filled o r 58 its (by omega)
  have hw : 3 * (r.length + 1) ≤ 18 := by omega
  have a6 : callV cfg 58 19 [.tup (its.map eI), .lst (r.map eD)] = some (.ok (.lst ((It.fulls r its).map eD), true), []) := law_full (w := 3) r (by omega) 58 its (by omega) i1 i3
  have b1 := a1 r (by omega) (by omega) (by omega)
  have b2 := a1 q (by omega) (by omega) (by omega)
  have b3 := a1 (r ++ q) (by rw [ddeps_app]; omega) (by rw [dwids_app]; omega) (by rw [List.length_append]; omega)
  have b4 := a1 (r ++ r) (by rw [ddeps_app]; omega) (by rw [dwids_app]; omega) (by rw [List.length_append]; omega)
  have b5 := a1 (It.fulls r its) (by have := fulls_dep r its; omega) (by have := fulls_wid r its i3; omega) (by
    have := fulls_len r its
    have h3 : its.length * (r.length + 1) ≤ 3 * (r.length + 1) := Nat.mul_le_mul_right _ i1
    omega)
  have d1 : binU .add (.lst (r.map eD)) (.lst (q.map eD)) = some (.lst ((r ++ q).map eD), true) := by
    rw [List.map_append]
    exact add_lst (by rw [List.length_map, List.length_map]; omega)
  have d2 : binU .add (.lst (r.map eD)) (.lst (r.map eD)) = some (.lst ((r ++ r).map eD), true) := by
    rw [List.map_append]
    exact add_lst (by rw [List.length_map]; omega)
  simp only [b21, s21_0, s21_1, s21_2, s21_3, s21_4, s21_5, mod_int, fdiv_int, mul_l, mul_r, small64, Int.reduceLT, Int.reduceNeg, decide_true, Bool.and_self, src_t, src_l, src_s, src_z, ev_append, ev_extend, ev_pop, ev_index, ev_join, rcvG_true, rcv_idxT, rcv_idxL, rcv_join, lstV, lstG_some, tmpG_ok, isi_tt, isi_ti, isi_ts, isi_tb, isi_ss, isi_si, isi_st, isi_ii, isi_ib, isi_bi, eq_int, eq_str, ne_str, ne_int, eq_ts, lt_int, le_int, gt_int, ge_int, add_int, sub_int, bi_max2, bi_min2, bi_listL, bi_listT, bi_tuple, bi_tupT, bi_lenT, bi_lenL, slc_lst, slc_tup, rev_lst, ev_lrg, ev_slc11, prtG_some, slcG_ok, isL_int, isL_str, isL_tup, Bool.not_true, Bool.not_false, ss_nil, ss_cons, ex_set, ex_ife, ex_expr, ex_for, ex_whl, ex_ret, ex_retv, retF_own, retF_frz, ex_retN, ev_var, ev_cst, ev_glb, ev_bin, ev_neg, negV_int, ev_cmp, blV_ok, ev_not, notV_bl, iteV_bl, ev_and, ev_or, ev_and1, ev_and2, ev_or1, ev_or2, ev_ife, ev_tup, ev_lst, ev_idx, ev_rev, ev_bi, ev_isi, ev_slc10, ev_slc01, part_int, vs_nil, vs_cons, vl_nil, vl_cons, callR_ok, sizV_0, sizV_1, sizV_2, sizV_5, rdU, List.getElem?_cons_zero, List.getElem?_cons_succ, List.set_cons_zero, List.set_cons_succ, bndV_ok, lftV_ok, unpV_ok, retV_ok, sqV_nx, sqV_rt, unpF_nx, unpF_rt, pin_var, unpin_var, pin_glb, unpin_glb, pin_cst, unpin_cst, pin_bin, unpin_bin, pin_neg, unpin_neg, pin_cmp, unpin_cmp, pin_cmp2, unpin_cmp2, pin_and, unpin_and, pin_or, unpin_or, pin_not, unpin_not, pin_ife, unpin_ife, pin_tup, unpin_tup, pin_lst, unpin_lst, pin_idx, unpin_idx, pin_slc, unpin_slc, pin_rev, unpin_rev, pin_call, unpin_call, pin_bi, unpin_bi, pin_lrg, unpin_lrg, pin_mth, unpin_mth, pin_isi, unpin_isi, pin_comp, unpin_comp, pinS, unpinS, Md.may, ↓reduceIte, Bool.false_eq_true, reduceCtorEq, ne_eq, not_false_eq_true, implies_true, D.pur, D.up, ev_call0 ps17, ev_call0 ps20, ev_call0 ps5, ev_call0 ps4, ev_call0 ps7, ev_call0 ps19, b1, b2, b3, b4, b5, a2, a3, a4, a5, a6, d1, d2]
  exact wp_ok rfl
def eRo (r : List Doc) : U := .lst (r.map eD)
def eIo (r : List It) : U := .tup (r.map eI)
theorem law_holds (l : List Int) (hl : l.length ≤ 63) : ∃ os, callV cfg 60 22 [.rol (l.map .int)] = some (.ok (.bl true, false), os) := by
  refine ⟨[], ?_⟩
  rw [show (60 : Nat) = 59 + 1 from rfl, c22]
  apply wp_end
  have hc : ∀ k : Nat, callV cfg 59 8 [.rol (l.map .int), .int k] = some (.ok (.int (cellAt l k), false), []) := fun k => cell_at l k 58
  obtain ⟨pool, hpool, hnm⟩ := names (cellAt l 0) 58
  have hnm' : callV cfg 59 12 [.int (cellAt l 0)] = some (.ok (.lst (pool.map .str), true), []) := hnm
  obtain ⟨M, K, o, hM⟩ := law_machine l 1 pool hpool 8 (by decide) (by decide) 56
  have hM' : callV cfg 59 13 [.rol (l.map .int), .int 1, .lst (pool.map .str), .int 8] = some (.ok (eM M, false), []) := hM
  have hc0 : callV cfg 59 8 [.rol (l.map .int), .int 0] = some (.ok (.int (cellAt l 0), false), []) := hc 0
  obtain ⟨N, hN, hN1, hN8⟩ : ∃ N : Nat, max (1 : Int) (min 8 ((((l.map U.int).length : Int) - 5) / 2)) = (N : Int) ∧ 0 < N ∧ N ≤ 8 := ⟨(max (1 : Int) (min 8 ((((l.map U.int).length : Int) - 5) / 2))).toNat, by omega, by omega, by omega⟩
  simp only [b22, l22_0, l22_1, s22_0, s22_1, s22_2, s22_3, s22_4, s22_5, s22_6, mod_int, fdiv_int, mul_l, mul_r, small64, Int.reduceLT, Int.reduceNeg, decide_true, Bool.and_self, src_t, src_l, src_s, src_z, ev_append, ev_extend, ev_pop, ev_index, ev_join, rcvG_true, rcv_idxT, rcv_idxL, rcv_join, lstV, lstG_some, tmpG_ok, isi_tt, isi_ti, isi_ts, isi_tb, isi_ss, isi_si, isi_st, isi_ii, isi_ib, isi_bi, eq_int, eq_str, ne_str, ne_int, eq_ts, lt_int, le_int, gt_int, ge_int, add_int, sub_int, bi_max2, bi_min2, bi_listL, bi_listT, bi_tuple, bi_tupT, bi_lenT, bi_lenL, slc_lst, slc_tup, rev_lst, ev_lrg, ev_slc11, prtG_some, slcG_ok, isL_int, isL_str, isL_tup, Bool.not_true, Bool.not_false, ss_nil, ss_cons, ex_set, ex_ife, ex_expr, ex_for, ex_whl, ex_ret, ex_retv, retF_own, retF_frz, ex_retN, ev_var, ev_cst, ev_glb, ev_bin, ev_neg, negV_int, ev_cmp, blV_ok, ev_not, notV_bl, iteV_bl, ev_and, ev_or, ev_and1, ev_and2, ev_or1, ev_or2, ev_ife, ev_tup, ev_lst, ev_idx, ev_rev, ev_bi, ev_isi, ev_slc10, ev_slc01, part_int, vs_nil, vs_cons, vl_nil, vl_cons, callR_ok, sizV_0, sizV_1, sizV_2, sizV_5, rdU, List.getElem?_cons_zero, List.getElem?_cons_succ, List.set_cons_zero, List.set_cons_succ, bndV_ok, lftV_ok, unpV_ok, retV_ok, sqV_nx, sqV_rt, unpF_nx, unpF_rt, pin_var, unpin_var, pin_glb, unpin_glb, pin_cst, unpin_cst, pin_bin, unpin_bin, pin_neg, unpin_neg, pin_cmp, unpin_cmp, pin_cmp2, unpin_cmp2, pin_and, unpin_and, pin_or, unpin_or, pin_not, unpin_not, pin_ife, unpin_ife, pin_tup, unpin_tup, pin_lst, unpin_lst, pin_idx, unpin_idx, pin_slc, unpin_slc, pin_rev, unpin_rev, pin_call, unpin_call, pin_bi, unpin_bi, pin_lrg, unpin_lrg, pin_mth, unpin_mth, pin_isi, unpin_isi, pin_comp, unpin_comp, pinS, unpinS, Md.may, ↓reduceIte, Bool.false_eq_true, reduceCtorEq, ne_eq, not_false_eq_true, implies_true, D.pur, D.up, ev_call0 ps8, ev_call0 ps12, ev_call0 ps13, hc0, hnm', hM', bi_lenR, hN, srcU_rng (show N ≤ 1000000 by omega)]
  have g3 : ∀ (m : Int) esc env, evV cfg (callV cfg 59) (.call 11 (.cons (.var 6) (.cons (.cst (.int m)) .nil))) esc env = lstG (lstV env 6) (bndV (evVl cfg (callV cfg 59) (.cons (.cst (.int m)) .nil) env) fun us e1 => callG (callV cfg 59) 11 6 us e1) := fun m esc env => ev_callG ps11 _ rfl esc env
  have gI : ∀ esc env, evV cfg (callV cfg 59) (.call 18 (.cons (.var 6) (.cons (.call 11 (.cons (.var 6) (.cons (.cst (.int 3)) .nil))) (.cons (.var 1) .nil)))) esc env = lstG (lstV env 6) (bndV (evVl cfg (callV cfg 59) (.cons (.call 11 (.cons (.var 6) (.cons (.cst (.int 3)) .nil))) (.cons (.var 1) .nil)) env) fun us e1 => callG (callV cfg 59) 18 6 us e1) := fun esc env => ev_callG ps18 _ rfl esc env
  have gR : ∀ es2 es esc env, evV cfg (callV cfg 59) (.call 15 (.cons (.call 10 es2) es)) esc env = bndV (evV cfg (callV cfg 59) (.call 10 es2) true env) fun x e1 => tmpG x fun xs => bndV (evVl cfg (callV cfg 59) es e1) fun us e2 => callT (callV cfg 59) 15 xs us e2 := fun es2 es esc env => ev_callT ps15 (by intro i h; cases h) es esc env
  have nx3 : ∀ t, callV cfg 59 11 [.lst (List.map .int t), .int 3] = some (.ok (.int (nextN t 3), false), [t.dropLast.map .int]) := fun t => nxt t 3 (by decide) 58
  refine wp_for (fun (p : Nat) => U.int p) (List.range N) (fun done e => ∃ (rs : List (List Doc)) (iss : List (List It)) (q5 q6 : Option (U × Md)), rs.length = done.length ∧ iss.length = done.length ∧ (∀ r, r ∈ rs → OkR r) ∧ (∀ i, i ∈ iss → OkI i) ∧ e = [some (.rol (l.map .int), .bor), some (.lst (pool.map .str), .own), some (eM M, .frz), some (.lst (List.map eRo rs), .own), some (.lst (List.map eIo iss), .own), q5, q6]) rfl ⟨[], [], none, none, rfl, rfl, fun r h => absurd h (by simp), fun r h => absurd h (by simp), rfl⟩ ?_ ?_
  · rintro done p more hl' e ⟨rs, iss, q5, q6, hrl, hil, hr, hi, rfl⟩
    have hdl : done.length < N := by
      have := congrArg List.length hl'
      rw [List.length_range, List.length_append, List.length_cons] at this
      omega
    refine ⟨_, rfl, ?_⟩
    have c1 : callV cfg 59 8 [.rol (l.map .int), .int (5 + 2 * (p : Int))] = some (.ok (.int (cellAt l (5 + 2 * p)), false), []) := by
      rw [show (5 + 2 * (p : Int)) = ((5 + 2 * p : Nat) : Int) by omega]
      exact hc _
    have c2 : callV cfg 59 8 [.rol (l.map .int), .int (6 + 2 * (p : Int))] = some (.ok (.int (cellAt l (6 + 2 * p)), false), []) := by
      rw [show (6 + 2 * (p : Int)) = ((6 + 2 * p : Nat) : Int) by omega]
      exact hc _
    obtain ⟨t1, ht1⟩ := tape (cellAt l (5 + 2 * p)) 32 (by decide) 57
    have ht1' : callV cfg 59 10 [.int (cellAt l (5 + 2 * p)), .int 32] = some (.ok (.lst (t1.map .int), true), []) := ht1
    obtain ⟨t2, ht2⟩ := tape (cellAt l (6 + 2 * p)) 120 (by decide) 57
    have ht2' : callV cfg 59 10 [.int (cellAt l (6 + 2 * p)), .int 120] = some (.ok (.lst (t2.map .int), true), []) := ht2
    obtain ⟨r, t1', r1, r2, r3, hr1⟩ := law_row pool hpool t1 57
    have hr1' : callV cfg 59 15 [.lst (t1.map .int), .lst (pool.map .str)] = some (.ok (.lst (r.map eD), true), [t1'.map .int]) := hr1
    have h3 : nextN t2 3 < 3 := nextN_lt t2 (by decide)
    obtain ⟨its, t2', i1, i2, i3, hi1⟩ := law_items pool hpool (nextN t2 3) t2.dropLast 59 (by omega)
    have ga : (rs.map eRo).length < 1000000 := by rw [List.length_map]; omega
    have gb : (iss.map eIo).length < 1000000 := by rw [List.length_map]; omega
    simp only [b22, l22_0, l22_1, s22_0, s22_1, s22_2, s22_3, s22_4, s22_5, s22_6, mod_int, fdiv_int, mul_l, mul_r, small64, Int.reduceLT, Int.reduceNeg, decide_true, Bool.and_self, src_t, src_l, src_s, src_z, ev_append, ev_extend, ev_pop, ev_index, ev_join, rcvG_true, rcv_idxT, rcv_idxL, rcv_join, lstV, lstG_some, tmpG_ok, isi_tt, isi_ti, isi_ts, isi_tb, isi_ss, isi_si, isi_st, isi_ii, isi_ib, isi_bi, eq_int, eq_str, ne_str, ne_int, eq_ts, lt_int, le_int, gt_int, ge_int, add_int, sub_int, bi_max2, bi_min2, bi_listL, bi_listT, bi_tuple, bi_tupT, bi_lenT, bi_lenL, slc_lst, slc_tup, rev_lst, ev_lrg, ev_slc11, prtG_some, slcG_ok, isL_int, isL_str, isL_tup, Bool.not_true, Bool.not_false, ss_nil, ss_cons, ex_set, ex_ife, ex_expr, ex_for, ex_whl, ex_ret, ex_retv, retF_own, retF_frz, ex_retN, ev_var, ev_cst, ev_glb, ev_bin, ev_neg, negV_int, ev_cmp, blV_ok, ev_not, notV_bl, iteV_bl, ev_and, ev_or, ev_and1, ev_and2, ev_or1, ev_or2, ev_ife, ev_tup, ev_lst, ev_idx, ev_rev, ev_bi, ev_isi, ev_slc10, ev_slc01, part_int, vs_nil, vs_cons, vl_nil, vl_cons, callR_ok, sizV_0, sizV_1, sizV_2, sizV_5, rdU, List.getElem?_cons_zero, List.getElem?_cons_succ, List.set_cons_zero, List.set_cons_succ, bndV_ok, lftV_ok, unpV_ok, retV_ok, sqV_nx, sqV_rt, unpF_nx, unpF_rt, pin_var, unpin_var, pin_glb, unpin_glb, pin_cst, unpin_cst, pin_bin, unpin_bin, pin_neg, unpin_neg, pin_cmp, unpin_cmp, pin_cmp2, unpin_cmp2, pin_and, unpin_and, pin_or, unpin_or, pin_not, unpin_not, pin_ife, unpin_ife, pin_tup, unpin_tup, pin_lst, unpin_lst, pin_idx, unpin_idx, pin_slc, unpin_slc, pin_rev, unpin_rev, pin_call, unpin_call, pin_bi, unpin_bi, pin_lrg, unpin_lrg, pin_mth, unpin_mth, pin_isi, unpin_isi, pin_comp, unpin_comp, pinS, unpinS, Md.may, ↓reduceIte, Bool.false_eq_true, reduceCtorEq, ne_eq, not_false_eq_true, implies_true, D.pur, D.up, gR, callT, ev_call0 ps8, ev_call0 ps10, c1, c2, ht1', ht2', hr1', g3, gI, callG, nx3, hi1, appG_ok ga, appG_ok gb]
    exact wp_ok ⟨rs ++ [r], iss ++ [its], _, _, by rw [List.length_append, List.length_append, hrl]; rfl, by rw [List.length_append, List.length_append, hil]; rfl, fun x hx => by
      rcases List.mem_append.mp hx with hx | hx
      · exact hr x hx
      · rw [List.mem_singleton.mp hx]; exact ⟨r1, r2, r3⟩, fun x hx => by
      rcases List.mem_append.mp hx with hx | hx
      · exact hi x hx
      · rw [List.mem_singleton.mp hx]; exact ⟨i1, by omega, i3⟩, by rw [List.map_append, List.map_append]; rfl⟩
  · rintro e ⟨rs, iss, q5, q6, hrl, hil, hr, hi, rfl⟩
    rw [List.length_range] at hrl hil
    have hlen : (rs.map eRo).length = N := by rw [List.length_map, hrl]
    have hix : ∀ p : Nat, p < N → ∃ r, OkR r ∧ idxU (.lst (rs.map eRo)) (.int p) = some (eRo r, false) := fun p hp => ⟨rs[p]'(by omega), hr _ (List.getElem_mem _), idx_lst (by rw [List.getElem?_map, List.getElem?_eq_getElem (by omega)]; rfl)⟩
    have hiy : ∀ p : Nat, p < N → ∃ r, OkI r ∧ idxU (.lst (iss.map eIo)) (.int p) = some (eIo r, false) := fun p hp => ⟨iss[p]'(by omega), hi _ (List.getElem_mem _), idx_lst (by rw [List.getElem?_map, List.getElem?_eq_getElem (by omega)]; rfl)⟩
    have hiz : ∀ p : Nat, p < N → ∃ r, OkR r ∧ idxU (.lst (rs.map eRo)) (.int ((p : Int) - 1)) = some (eRo r, false) := fun p hp => by
      cases p with
      | zero =>
        obtain ⟨r, h1, h2⟩ := hix (N - 1) (by omega)
        refine ⟨rs[N - 1]'(by omega), hr _ (List.getElem_mem _), idx_lastL ?_⟩
        rw [List.getLast?_eq_getElem?, hlen, List.getElem?_map, List.getElem?_eq_getElem (by omega)]
        rfl
      | succ p =>
        obtain ⟨r, h1, h2⟩ := hix p (by omega)
        refine ⟨r, h1, ?_⟩
        rw [show (((p + 1 : Nat) : Int) - 1) = (p : Int) by omega]
        exact h2
    simp only [b22, l22_0, l22_1, s22_0, s22_1, s22_2, s22_3, s22_4, s22_5, s22_6, mod_int, fdiv_int, mul_l, mul_r, small64, Int.reduceLT, Int.reduceNeg, decide_true, Bool.and_self, src_t, src_l, src_s, src_z, ev_append, ev_extend, ev_pop, ev_index, ev_join, rcvG_true, rcv_idxT, rcv_idxL, rcv_join, lstV, lstG_some, tmpG_ok, isi_tt, isi_ti, isi_ts, isi_tb, isi_ss, isi_si, isi_st, isi_ii, isi_ib, isi_bi, eq_int, eq_str, ne_str, ne_int, eq_ts, lt_int, le_int, gt_int, ge_int, add_int, sub_int, bi_max2, bi_min2, bi_listL, bi_listT, bi_tuple, bi_tupT, bi_lenT, bi_lenL, slc_lst, slc_tup, rev_lst, ev_lrg, ev_slc11, prtG_some, slcG_ok, isL_int, isL_str, isL_tup, Bool.not_true, Bool.not_false, ss_nil, ss_cons, ex_set, ex_ife, ex_expr, ex_for, ex_whl, ex_ret, ex_retv, retF_own, retF_frz, ex_retN, ev_var, ev_cst, ev_glb, ev_bin, ev_neg, negV_int, ev_cmp, blV_ok, ev_not, notV_bl, iteV_bl, ev_and, ev_or, ev_and1, ev_and2, ev_or1, ev_or2, ev_ife, ev_tup, ev_lst, ev_idx, ev_rev, ev_bi, ev_isi, ev_slc10, ev_slc01, part_int, vs_nil, vs_cons, vl_nil, vl_cons, callR_ok, sizV_0, sizV_1, sizV_2, sizV_5, rdU, List.getElem?_cons_zero, List.getElem?_cons_succ, List.set_cons_zero, List.set_cons_succ, bndV_ok, lftV_ok, unpV_ok, retV_ok, sqV_nx, sqV_rt, unpF_nx, unpF_rt, pin_var, unpin_var, pin_glb, unpin_glb, pin_cst, unpin_cst, pin_bin, unpin_bin, pin_neg, unpin_neg, pin_cmp, unpin_cmp, pin_cmp2, unpin_cmp2, pin_and, unpin_and, pin_or, unpin_or, pin_not, unpin_not, pin_ife, unpin_ife, pin_tup, unpin_tup, pin_lst, unpin_lst, pin_idx, unpin_idx, pin_slc, unpin_slc, pin_rev, unpin_rev, pin_call, unpin_call, pin_bi, unpin_bi, pin_lrg, unpin_lrg, pin_mth, unpin_mth, pin_isi, unpin_isi, pin_comp, unpin_comp, pinS, unpinS, Md.may, ↓reduceIte, Bool.false_eq_true, reduceCtorEq, ne_eq, not_false_eq_true, implies_true, D.pur, D.up, hlen, srcU_rng (show N ≤ 1000000 by omega)]
    refine wp_for (fun (p : Nat) => U.int p) (List.range N) (fun done e => ∃ (q5 : Option (U × Md)), e = [some (.rol (l.map .int), .bor), some (.lst (pool.map .str), .own), some (eM M, .frz), some (.lst (List.map eRo rs), .own), some (.lst (List.map eIo iss), .own), q5, q6]) rfl ⟨q5, rfl⟩ ?_ ?_
    · rintro done p more hl' e ⟨q5, rfl⟩
      have hp : p < N := List.mem_range.mp (by rw [hl']; simp)
      obtain ⟨r, hr1, hr2⟩ := hix p hp
      obtain ⟨q, hq1, hq2⟩ := hiz p hp
      obtain ⟨i, hi1, hi2⟩ := hiy p hp
      have e1 : callV cfg 59 21 [eM M, eRo r, eRo q, eIo i] = some (.ok (.bl true, false), []) := law_right o hr1 hq1 hi1
      have e2 : callV cfg 59 21 [eM M, eRo q, eRo r, eIo i] = some (.ok (.bl true, false), []) := law_right o hq1 hr1 hi1
      refine ⟨_, rfl, ?_⟩
      simp only [b22, l22_0, l22_1, s22_0, s22_1, s22_2, s22_3, s22_4, s22_5, s22_6, mod_int, fdiv_int, mul_l, mul_r, small64, Int.reduceLT, Int.reduceNeg, decide_true, Bool.and_self, src_t, src_l, src_s, src_z, ev_append, ev_extend, ev_pop, ev_index, ev_join, rcvG_true, rcv_idxT, rcv_idxL, rcv_join, lstV, lstG_some, tmpG_ok, isi_tt, isi_ti, isi_ts, isi_tb, isi_ss, isi_si, isi_st, isi_ii, isi_ib, isi_bi, eq_int, eq_str, ne_str, ne_int, eq_ts, lt_int, le_int, gt_int, ge_int, add_int, sub_int, bi_max2, bi_min2, bi_listL, bi_listT, bi_tuple, bi_tupT, bi_lenT, bi_lenL, slc_lst, slc_tup, rev_lst, ev_lrg, ev_slc11, prtG_some, slcG_ok, isL_int, isL_str, isL_tup, Bool.not_true, Bool.not_false, ss_nil, ss_cons, ex_set, ex_ife, ex_expr, ex_for, ex_whl, ex_ret, ex_retv, retF_own, retF_frz, ex_retN, ev_var, ev_cst, ev_glb, ev_bin, ev_neg, negV_int, ev_cmp, blV_ok, ev_not, notV_bl, iteV_bl, ev_and, ev_or, ev_and1, ev_and2, ev_or1, ev_or2, ev_ife, ev_tup, ev_lst, ev_idx, ev_rev, ev_bi, ev_isi, ev_slc10, ev_slc01, part_int, vs_nil, vs_cons, vl_nil, vl_cons, callR_ok, sizV_0, sizV_1, sizV_2, sizV_5, rdU, List.getElem?_cons_zero, List.getElem?_cons_succ, List.set_cons_zero, List.set_cons_succ, bndV_ok, lftV_ok, unpV_ok, retV_ok, sqV_nx, sqV_rt, unpF_nx, unpF_rt, pin_var, unpin_var, pin_glb, unpin_glb, pin_cst, unpin_cst, pin_bin, unpin_bin, pin_neg, unpin_neg, pin_cmp, unpin_cmp, pin_cmp2, unpin_cmp2, pin_and, unpin_and, pin_or, unpin_or, pin_not, unpin_not, pin_ife, unpin_ife, pin_tup, unpin_tup, pin_lst, unpin_lst, pin_idx, unpin_idx, pin_slc, unpin_slc, pin_rev, unpin_rev, pin_call, unpin_call, pin_bi, unpin_bi, pin_lrg, unpin_lrg, pin_mth, unpin_mth, pin_isi, unpin_isi, pin_comp, unpin_comp, pinS, unpinS, Md.may, ↓reduceIte, Bool.false_eq_true, reduceCtorEq, ne_eq, not_false_eq_true, implies_true, D.pur, D.up, hr2, hq2, hi2, ev_call0 ps21, e1, e2]
      exact wp_ok ⟨_, rfl⟩
    · rintro e ⟨q5, rfl⟩
      obtain ⟨r, hr1, hr2⟩ := hix 0 (by omega)
      obtain ⟨i, hi1, hi2⟩ := hiy 0 (by omega)
      have hr2' : idxU (.lst (rs.map eRo)) (.int 0) = some (eRo r, false) := hr2
      have hi2' : idxU (.lst (iss.map eIo)) (.int 0) = some (eIo i, false) := hi2
      have e1 : callV cfg 59 21 [eM M, eRo r, eRo r, eIo i] = some (.ok (.bl true, false), []) := law_right o hr1 hr1 hi1
      simp only [b22, l22_0, l22_1, s22_0, s22_1, s22_2, s22_3, s22_4, s22_5, s22_6, mod_int, fdiv_int, mul_l, mul_r, small64, Int.reduceLT, Int.reduceNeg, decide_true, Bool.and_self, src_t, src_l, src_s, src_z, ev_append, ev_extend, ev_pop, ev_index, ev_join, rcvG_true, rcv_idxT, rcv_idxL, rcv_join, lstV, lstG_some, tmpG_ok, isi_tt, isi_ti, isi_ts, isi_tb, isi_ss, isi_si, isi_st, isi_ii, isi_ib, isi_bi, eq_int, eq_str, ne_str, ne_int, eq_ts, lt_int, le_int, gt_int, ge_int, add_int, sub_int, bi_max2, bi_min2, bi_listL, bi_listT, bi_tuple, bi_tupT, bi_lenT, bi_lenL, slc_lst, slc_tup, rev_lst, ev_lrg, ev_slc11, prtG_some, slcG_ok, isL_int, isL_str, isL_tup, Bool.not_true, Bool.not_false, ss_nil, ss_cons, ex_set, ex_ife, ex_expr, ex_for, ex_whl, ex_ret, ex_retv, retF_own, retF_frz, ex_retN, ev_var, ev_cst, ev_glb, ev_bin, ev_neg, negV_int, ev_cmp, blV_ok, ev_not, notV_bl, iteV_bl, ev_and, ev_or, ev_and1, ev_and2, ev_or1, ev_or2, ev_ife, ev_tup, ev_lst, ev_idx, ev_rev, ev_bi, ev_isi, ev_slc10, ev_slc01, part_int, vs_nil, vs_cons, vl_nil, vl_cons, callR_ok, sizV_0, sizV_1, sizV_2, sizV_5, rdU, List.getElem?_cons_zero, List.getElem?_cons_succ, List.set_cons_zero, List.set_cons_succ, bndV_ok, lftV_ok, unpV_ok, retV_ok, sqV_nx, sqV_rt, unpF_nx, unpF_rt, pin_var, unpin_var, pin_glb, unpin_glb, pin_cst, unpin_cst, pin_bin, unpin_bin, pin_neg, unpin_neg, pin_cmp, unpin_cmp, pin_cmp2, unpin_cmp2, pin_and, unpin_and, pin_or, unpin_or, pin_not, unpin_not, pin_ife, unpin_ife, pin_tup, unpin_tup, pin_lst, unpin_lst, pin_idx, unpin_idx, pin_slc, unpin_slc, pin_rev, unpin_rev, pin_call, unpin_call, pin_bi, unpin_bi, pin_lrg, unpin_lrg, pin_mth, unpin_mth, pin_isi, unpin_isi, pin_comp, unpin_comp, pinS, unpinS, Md.may, ↓reduceIte, Bool.false_eq_true, reduceCtorEq, ne_eq, not_false_eq_true, implies_true, D.pur, D.up, hr2', hi2', ev_call0 ps21, e1]
      exact wp_ok rfl
end Tk75
end Iv
end
section
set_option Elab.async false
set_option linter.all false
set_option maxRecDepth 100000
set_option maxHeartbeats 0
/-! IvH_k75: its defs stand as the machine has them; the head. Printed by tr.py. -/
namespace Iv.Tk75
open PySem PySem.Spec PyProof.Rows L2
def top (i : Nat) : Stmt := PySem.Challenge.pw_graftform_k75_ways.main.body.getD i (.Pass ⟨0, 0, 0, 0⟩)
def fnames : List Str := [("start_of" : Str), ("state_of" : Str), ("way_of_none" : Str), ("way_of_one" : Str), ("way_behind" : Str), ("way_of" : Str), ("item_state" : Str), ("way_filled" : Str), ("_law_cell_at" : Str), ("_law_mix" : Str), ("_law_tape" : Str), ("_law_next" : Str), ("_law_names" : Str), ("_law_machine" : Str), ("_law_state" : Str), ("_law_row" : Str), ("_law_doc_state" : Str), ("_law_way" : Str), ("_law_items" : Str), ("_law_full" : Str), ("_law_same" : Str), ("_law_right" : Str), ("law" : Str)]
def cnames : List Str := [("HOLE" : Str)]
def nm : Nm := ⟨[], fnames, cnames⟩
abbrev st0 : Stmt := top 1
def N0 : List Str := [("machine" : Str), ("name" : Str)]
def P0 : List Str := [("machine" : Str), ("name" : Str)]
theorem sc0 : FnScope N0 P0 (defScope st0) := ⟨rfl, rfl, rfl, by decide +kernel, rfl, by decide +kernel, by decide +kernel⟩
theorem ck0 : allSs (chkS ⟨N0, fnames, cnames⟩ (defScope st0) 40) (defBody st0) b0 = true := by decide +kernel
def d0 : He.DefD := ⟨("start_of", none), "start_of", "start_of", defArgs st0, defBody st0, defScope st0, [], []⟩
abbrev st1 : Stmt := top 3
def N1 : List Str := [("machine" : Str), ("doc" : Str), ("state" : Str), ("child" : Str)]
def P1 : List Str := [("machine" : Str), ("doc" : Str)]
theorem sc1 : FnScope N1 P1 (defScope st1) := ⟨rfl, rfl, rfl, by decide +kernel, rfl, by decide +kernel, by decide +kernel⟩
theorem ck1 : allSs (chkS ⟨N1, fnames, cnames⟩ (defScope st1) 40) (defBody st1) b1 = true := by decide +kernel
def d1 : He.DefD := ⟨("state_of", none), "state_of", "state_of", defArgs st1, defBody st1, defScope st1, [], []⟩
abbrev st2 : Stmt := top 6
def N2 : List Str := [("machine" : Str)]
def P2 : List Str := [("machine" : Str)]
theorem sc2 : FnScope N2 P2 (defScope st2) := ⟨rfl, rfl, rfl, by decide +kernel, rfl, by decide +kernel, by decide +kernel⟩
theorem ck2 : allSs (chkS ⟨N2, fnames, cnames⟩ (defScope st2) 40) (defBody st2) b2 = true := by decide +kernel
def d2 : He.DefD := ⟨("way_of_none", none), "way_of_none", "way_of_none", defArgs st2, defBody st2, defScope st2, [], []⟩
abbrev st3 : Stmt := top 7
def N3 : List Str := [("machine" : Str), ("state" : Str), ("row" : Str)]
def P3 : List Str := [("machine" : Str), ("state" : Str)]
theorem sc3 : FnScope N3 P3 (defScope st3) := ⟨rfl, rfl, rfl, by decide +kernel, rfl, by decide +kernel, by decide +kernel⟩
theorem ck3 : allSs (chkS ⟨N3, fnames, cnames⟩ (defScope st3) 40) (defBody st3) b3 = true := by decide +kernel
def d3 : He.DefD := ⟨("way_of_one", none), "way_of_one", "way_of_one", defArgs st3, defBody st3, defScope st3, [], []⟩
abbrev st4 : Stmt := top 8
def N4 : List Str := [("way" : Str), ("other" : Str), ("last" : Str), ("state" : Str)]
def P4 : List Str := [("way" : Str), ("other" : Str)]
theorem sc4 : FnScope N4 P4 (defScope st4) := ⟨rfl, rfl, rfl, by decide +kernel, rfl, by decide +kernel, by decide +kernel⟩
theorem ck4 : allSs (chkS ⟨N4, fnames, cnames⟩ (defScope st4) 40) (defBody st4) b4 = true := by decide +kernel
def d4 : He.DefD := ⟨("way_behind", none), "way_behind", "way_behind", defArgs st4, defBody st4, defScope st4, [], []⟩
abbrev st5 : Stmt := top 9
def N5 : List Str := [("machine" : Str), ("row" : Str), ("found" : Str), ("doc" : Str)]
def P5 : List Str := [("machine" : Str), ("row" : Str)]
theorem sc5 : FnScope N5 P5 (defScope st5) := ⟨rfl, rfl, rfl, by decide +kernel, rfl, by decide +kernel, by decide +kernel⟩
theorem ck5 : allSs (chkS ⟨N5, fnames, cnames⟩ (defScope st5) 40) (defBody st5) b5 = true := by decide +kernel
def d5 : He.DefD := ⟨("way_of", none), "way_of", "way_of", defArgs st5, defBody st5, defScope st5, [], []⟩
abbrev st6 : Stmt := top 10
def N6 : List Str := [("machine" : Str), ("item" : Str), ("way" : Str)]
def P6 : List Str := [("machine" : Str), ("item" : Str), ("way" : Str)]
theorem sc6 : FnScope N6 P6 (defScope st6) := ⟨rfl, rfl, rfl, by decide +kernel, rfl, by decide +kernel, by decide +kernel⟩
theorem ck6 : allSs (chkS ⟨N6, fnames, cnames⟩ (defScope st6) 40) (defBody st6) b6 = true := by decide +kernel
def d6 : He.DefD := ⟨("item_state", none), "item_state", "item_state", defArgs st6, defBody st6, defScope st6, [], []⟩
abbrev st7 : Stmt := top 11
def N7 : List Str := [("machine" : Str), ("items" : Str), ("way" : Str), ("found" : Str), ("item" : Str)]
def P7 : List Str := [("machine" : Str), ("items" : Str), ("way" : Str)]
theorem sc7 : FnScope N7 P7 (defScope st7) := ⟨rfl, rfl, rfl, by decide +kernel, rfl, by decide +kernel, by decide +kernel⟩
theorem ck7 : allSs (chkS ⟨N7, fnames, cnames⟩ (defScope st7) 40) (defBody st7) b7 = true := by decide +kernel
def d7 : He.DefD := ⟨("way_filled", none), "way_filled", "way_filled", defArgs st7, defBody st7, defScope st7, [], []⟩
abbrev st8 : Stmt := top 13
def N8 : List Str := [("_law_script" : Str), ("_law_k" : Str)]
def P8 : List Str := [("_law_script" : Str), ("_law_k" : Str)]
theorem sc8 : FnScope N8 P8 (defScope st8) := ⟨rfl, rfl, rfl, by decide +kernel, rfl, by decide +kernel, by decide +kernel⟩
theorem ck8 : allSs (chkS ⟨N8, fnames, cnames⟩ (defScope st8) 40) (defBody st8) b8 = true := by decide +kernel
def d8 : He.DefD := ⟨("_law_cell_at", none), "_law_cell_at", "_law_cell_at", defArgs st8, defBody st8, defScope st8, [], []⟩
abbrev st9 : Stmt := top 14
def N9 : List Str := [("_law_number" : Str), ("_law_k" : Str), ("_law_blend" : Str)]
def P9 : List Str := [("_law_number" : Str), ("_law_k" : Str)]
theorem sc9 : FnScope N9 P9 (defScope st9) := ⟨rfl, rfl, rfl, by decide +kernel, rfl, by decide +kernel, by decide +kernel⟩
theorem ck9 : allSs (chkS ⟨N9, fnames, cnames⟩ (defScope st9) 40) (defBody st9) b9 = true := by decide +kernel
def d9 : He.DefD := ⟨("_law_mix", none), "_law_mix", "_law_mix", defArgs st9, defBody st9, defScope st9, [], []⟩
abbrev st10 : Stmt := top 15
def N10 : List Str := [("_law_cell" : Str), ("_law_many" : Str), ("_law_found" : Str), ("_law_rest" : Str), ("_law_k" : Str)]
def P10 : List Str := [("_law_cell" : Str), ("_law_many" : Str)]
theorem sc10 : FnScope N10 P10 (defScope st10) := ⟨rfl, rfl, rfl, by decide +kernel, rfl, by decide +kernel, by decide +kernel⟩
theorem ck10 : allSs (chkS ⟨N10, fnames, cnames⟩ (defScope st10) 40) (defBody st10) b10 = true := by decide +kernel
def d10 : He.DefD := ⟨("_law_tape", none), "_law_tape", "_law_tape", defArgs st10, defBody st10, defScope st10, [], []⟩
abbrev st11 : Stmt := top 16
def N11 : List Str := [("_law_tape_here" : Str), ("_law_many" : Str)]
def P11 : List Str := [("_law_tape_here" : Str), ("_law_many" : Str)]
theorem sc11 : FnScope N11 P11 (defScope st11) := ⟨rfl, rfl, rfl, by decide +kernel, rfl, by decide +kernel, by decide +kernel⟩
theorem ck11 : allSs (chkS ⟨N11, fnames, cnames⟩ (defScope st11) 40) (defBody st11) b11 = true := by decide +kernel
def d11 : He.DefD := ⟨("_law_next", none), "_law_next", "_law_next", defArgs st11, defBody st11, defScope st11, [], []⟩
abbrev st12 : Stmt := top 17
def N12 : List Str := [("_law_cell" : Str), ("_law_letters" : Str), ("_law_start" : Str), ("_law_base" : Str), ("_law_at" : Str), ("_law_first" : Str), ("_law_k" : Str)]
def P12 : List Str := [("_law_cell" : Str)]
theorem sc12 : FnScope N12 P12 (defScope st12) := ⟨rfl, rfl, rfl, by decide +kernel, rfl, by decide +kernel, by decide +kernel⟩
theorem ck12 : allSs (chkS ⟨N12, fnames, cnames⟩ (defScope st12) 40) (defBody st12) b12 = true := by decide +kernel
def d12 : He.DefD := ⟨("_law_names", none), "_law_names", "_law_names", defArgs st12, defBody st12, defScope st12, [], []⟩
abbrev st13 : Stmt := top 18
def N13 : List Str := [("_law_script" : Str), ("_law_start" : Str), ("_law_pool" : Str), ("_law_most" : Str), ("_law_first" : Str), ("_law_many" : Str), ("_law_forms" :
    Str), ("_law_names_here" : Str), ("_law_tape_here" : Str), ("_law_starts" : Str), ("_law_way_here" : Str), ("_law_steps" : Str), ("_law_p" : Str), ("_law_marks" :
    Str), ("_law_row_here" : Str), ("_law_name" : Str), ("_law_q" : Str)]
def P13 : List Str := [("_law_script" : Str), ("_law_start" : Str), ("_law_pool" : Str), ("_law_most" : Str)]
theorem sc13 : FnScope N13 P13 (defScope st13) := ⟨rfl, rfl, rfl, by decide +kernel, rfl, by decide +kernel, by decide +kernel⟩
theorem ck13 : allSs (chkS ⟨N13, fnames, cnames⟩ (defScope st13) 40) (defBody st13) b13 = true := by decide +kernel
def d13 : He.DefD := ⟨("_law_machine", none), "_law_machine", "_law_machine", defArgs st13, defBody st13, defScope st13, [], []⟩
abbrev st14 : Stmt := top 19
def N14 : List Str := [("_law_table" : Str), ("_law_name" : Str), ("_law_states" : Str), ("_law_state_here" : Str), ("_law_other" : Str)]
def P14 : List Str := [("_law_table" : Str), ("_law_name" : Str), ("_law_states" : Str)]
theorem sc14 : FnScope N14 P14 (defScope st14) := ⟨rfl, rfl, rfl, by decide +kernel, rfl, by decide +kernel, by decide +kernel⟩
theorem ck14 : allSs (chkS ⟨N14, fnames, cnames⟩ (defScope st14) 40) (defBody st14) b14 = true := by decide +kernel
def d14 : He.DefD := ⟨("_law_state", none), "_law_state", "_law_state", defArgs st14, defBody st14, defScope st14, [], []⟩
abbrev st15 : Stmt := top 20
def N15 : List Str := [("_law_tape_here" : Str), ("_law_pool" : Str), ("_law_row_here" : Str), ("_law_k" : Str), ("_law_way_here" : Str), ("_law_doc" : Str)]
def P15 : List Str := [("_law_tape_here" : Str), ("_law_pool" : Str)]
theorem sc15 : FnScope N15 P15 (defScope st15) := ⟨rfl, rfl, rfl, by decide +kernel, rfl, by decide +kernel, by decide +kernel⟩
theorem ck15 : allSs (chkS ⟨N15, fnames, cnames⟩ (defScope st15) 40) (defBody st15) b15 = true := by decide +kernel
def d15 : He.DefD := ⟨("_law_row", none), "_law_row", "_law_row", defArgs st15, defBody st15, defScope st15, [], []⟩
abbrev st16 : Stmt := top 21
def N16 : List Str := [("_law_table" : Str), ("_law_doc" : Str), ("_law_child" : Str)]
def P16 : List Str := [("_law_table" : Str), ("_law_doc" : Str)]
theorem sc16 : FnScope N16 P16 (defScope st16) := ⟨rfl, rfl, rfl, by decide +kernel, rfl, by decide +kernel, by decide +kernel⟩
theorem ck16 : allSs (chkS ⟨N16, fnames, cnames⟩ (defScope st16) 40) (defBody st16) b16 = true := by decide +kernel
def d16 : He.DefD := ⟨("_law_doc_state", none), "_law_doc_state", "_law_doc_state", defArgs st16, defBody st16, defScope st16, [], []⟩
abbrev st17 : Stmt := top 22
def N17 : List Str := [("_law_table" : Str), ("_law_row_here" : Str), ("_law_found" : Str), ("_law_states" : Str), ("_law_state_here" : Str), ("_law_last" : Str),
    ("_law_other" : Str), ("_law_doc" : Str)]
def P17 : List Str := [("_law_table" : Str), ("_law_row_here" : Str)]
theorem sc17 : FnScope N17 P17 (defScope st17) := ⟨rfl, rfl, rfl, by decide +kernel, rfl, by decide +kernel, by decide +kernel⟩
theorem ck17 : allSs (chkS ⟨N17, fnames, cnames⟩ (defScope st17) 40) (defBody st17) b17 = true := by decide +kernel
def d17 : He.DefD := ⟨("_law_way", none), "_law_way", "_law_way", defArgs st17, defBody st17, defScope st17, [], []⟩
abbrev st18 : Stmt := top 23
def N18 : List Str := [("_law_tape_here" : Str), ("_law_depth" : Str), ("_law_pool" : Str), ("_law_found" : Str), ("_law_k" : Str), ("_law_name" : Str)]
def P18 : List Str := [("_law_tape_here" : Str), ("_law_depth" : Str), ("_law_pool" : Str)]
theorem sc18 : FnScope N18 P18 (defScope st18) := ⟨rfl, rfl, rfl, by decide +kernel, rfl, by decide +kernel, by decide +kernel⟩
theorem ck18 : allSs (chkS ⟨N18, fnames, cnames⟩ (defScope st18) 40) (defBody st18) b18 = true := by decide +kernel
def d18 : He.DefD := ⟨("_law_items", none), "_law_items", "_law_items", defArgs st18, defBody st18, defScope st18, [], []⟩
abbrev st19 : Stmt := top 24
def N19 : List Str := [("_law_items_here" : Str), ("_law_row_here" : Str), ("_law_found" : Str), ("_law_item" : Str)]
def P19 : List Str := [("_law_items_here" : Str), ("_law_row_here" : Str)]
theorem sc19 : FnScope N19 P19 (defScope st19) := ⟨rfl, rfl, rfl, by decide +kernel, rfl, by decide +kernel, by decide +kernel⟩
theorem ck19 : allSs (chkS ⟨N19, fnames, cnames⟩ (defScope st19) 40) (defBody st19) b19 = true := by decide +kernel
def d19 : He.DefD := ⟨("_law_full", none), "_law_full", "_law_full", defArgs st19, defBody st19, defScope st19, [], []⟩
abbrev st20 : Stmt := top 25
def N20 : List Str := [("_law_found" : Str), ("_law_due" : Str), ("_law_a" : Str), ("_law_b" : Str)]
def P20 : List Str := [("_law_found" : Str), ("_law_due" : Str)]
theorem sc20 : FnScope N20 P20 (defScope st20) := ⟨rfl, rfl, rfl, by decide +kernel, rfl, by decide +kernel, by decide +kernel⟩
theorem ck20 : allSs (chkS ⟨N20, fnames, cnames⟩ (defScope st20) 40) (defBody st20) b20 = true := by decide +kernel
def d20 : He.DefD := ⟨("_law_same", none), "_law_same", "_law_same", defArgs st20, defBody st20, defScope st20, [], []⟩
abbrev st21 : Stmt := top 26
def N21 : List Str := [("_law_table" : Str), ("_law_row_here" : Str), ("_law_others" : Str), ("_law_items_here" : Str), ("_law_one_way" : Str), ("_law_other_way" : Str)]
def P21 : List Str := [("_law_table" : Str), ("_law_row_here" : Str), ("_law_others" : Str), ("_law_items_here" : Str)]
theorem sc21 : FnScope N21 P21 (defScope st21) := ⟨rfl, rfl, rfl, by decide +kernel, rfl, by decide +kernel, by decide +kernel⟩
theorem ck21 : allSs (chkS ⟨N21, fnames, cnames⟩ (defScope st21) 40) (defBody st21) b21 = true := by decide +kernel
def d21 : He.DefD := ⟨("_law_right", none), "_law_right", "_law_right", defArgs st21, defBody st21, defScope st21, [], []⟩
abbrev st22 : Stmt := top 27
def N22 : List Str := [("_law_script" : Str), ("_law_pool" : Str), ("_law_table" : Str), ("_law_rows" : Str), ("_law_items_here" : Str), ("_law_k" : Str),
    ("_law_tape_here" : Str)]
def P22 : List Str := [("_law_script" : Str)]
theorem sc22 : FnScope N22 P22 (defScope st22) := ⟨rfl, rfl, rfl, by decide +kernel, rfl, by decide +kernel, by decide +kernel⟩
theorem ck22 : allSs (chkS ⟨N22, fnames, cnames⟩ (defScope st22) 40) (defBody st22) b22 = true := by decide +kernel
def d22 : He.DefD := ⟨("law", none), "law", "law", defArgs st22, defBody st22, defScope st22, [], []⟩
def fn : List He.DefD := [d0, d1, d2, d3, d4, d5, d6, d7, d8, d9, d10, d11, d12, d13, d14, d15, d16, d17, d18, d19, d20, d21, d22]
def fa : List He.Fa := [.glo "start_of", .glo "state_of", .glo "way_of_none", .glo "way_of_one", .glo "way_behind", .glo "way_of", .glo "item_state", .glo "way_filled",
    .glo "_law_cell_at", .glo "_law_mix", .glo "_law_tape", .glo "_law_next", .glo "_law_names", .glo "_law_machine", .glo "_law_state", .glo "_law_row", .glo
    "_law_doc_state", .glo "_law_way", .glo "_law_items", .glo "_law_full", .glo "_law_same", .glo "_law_right", .glo "law", .free "len", .free "list", .free "tuple",
    .free "sorted", .free "max", .free "min", .free "abs", .free "int", .free "str", .free "sum", .free "all", .free "any", .free "range", .free "reversed", .free "zip",
    .free "isinstance", .free "bool", .free "set", .free "dict", .free "enumerate", .free "ValueError", .free "Exception", .str "HOLE" "*"]
abbrev R : PySem.W.OpenRow := PySem.W.OpenLaw.row PySem.Challenge.rw_graftform_k75_ways
abbrev hk : PySem.W.Hook := He.hookD 4 fa fn
def ob (s : PySem.W.SharedT) : He.AlD := He.obsDG 4 fa fn (HandSHeadRun.getT s)
theorem ob_eq (s : PySem.W.SharedT) : ob s = hk.obs s.abs := He.obsDG_eq (HandSHeadRun.getT_eq s)
def loose : List Str := [("start_of" : Str), ("state_of" : Str), ("HOLE" : Str), ("way_of_none" : Str), ("way_of_one" : Str), ("way_behind" : Str), ("way_of" : Str),
    ("item_state" : Str), ("way_filled" : Str), ("_law_cell_at" : Str), ("_law_mix" : Str), ("_law_tape" : Str), ("_law_next" : Str), ("_law_names" : Str), ("_law_machine"
    : Str), ("_law_state" : Str), ("_law_row" : Str), ("_law_doc_state" : Str), ("_law_way" : Str), ("_law_items" : Str), ("_law_full" : Str), ("_law_same" : Str),
    ("_law_right" : Str)]
theorem run (w : World) : HandSHeadRun.RunEq R (PySem.W.view R.prog [27]) hk ob 900 loose w := by
  intro os
  kernel_rfl
section
variable {K : PySem.W.Frag} {h : Heap} {mg : Str → Option Value}
theorem defAt_of {i : Nat} {x : Str} {fn : Fn} (X : K.In h) (G : h.Ns mainGlobals mg) (c : He.SaysD fa Tk75.fn K) (h1 : fnames[i]? = some x) (h2 : cfg.fns[i]? = some fn) : DefAt cfg nm K mg i x fn := by
  match i, h1, h2 with
  | 0, h1, h2 =>
    cases h1
    cases h2
    obtain ⟨fd, F⟩ := c.def_ 0 (d := d0) rfl
    exact ⟨_, fd, _, _, _, _, N0, P0, 40, He.glo_ok X G (c.fact 0 (f := .glo "start_of") rfl), F, FunD.bindsN F fun _ _ _ _ _ _ us hl => (match us, hl with | [_, _], _ => rfl), sc0, rfl, rfl, ck0⟩
  | 1, h1, h2 =>
    cases h1
    cases h2
    obtain ⟨fd, F⟩ := c.def_ 1 (d := d1) rfl
    exact ⟨_, fd, _, _, _, _, N1, P1, 40, He.glo_ok X G (c.fact 1 (f := .glo "state_of") rfl), F, FunD.bindsN F fun _ _ _ _ _ _ us hl => (match us, hl with | [_, _], _ => rfl), sc1, rfl, rfl, ck1⟩
  | 2, h1, h2 =>
    cases h1
    cases h2
    obtain ⟨fd, F⟩ := c.def_ 2 (d := d2) rfl
    exact ⟨_, fd, _, _, _, _, N2, P2, 40, He.glo_ok X G (c.fact 2 (f := .glo "way_of_none") rfl), F, FunD.bindsN F fun _ _ _ _ _ _ us hl => (match us, hl with | [_], _ => rfl), sc2, rfl, rfl, ck2⟩
  | 3, h1, h2 =>
    cases h1
    cases h2
    obtain ⟨fd, F⟩ := c.def_ 3 (d := d3) rfl
    exact ⟨_, fd, _, _, _, _, N3, P3, 40, He.glo_ok X G (c.fact 3 (f := .glo "way_of_one") rfl), F, FunD.bindsN F fun _ _ _ _ _ _ us hl => (match us, hl with | [_, _], _ => rfl), sc3, rfl, rfl, ck3⟩
  | 4, h1, h2 =>
    cases h1
    cases h2
    obtain ⟨fd, F⟩ := c.def_ 4 (d := d4) rfl
    exact ⟨_, fd, _, _, _, _, N4, P4, 40, He.glo_ok X G (c.fact 4 (f := .glo "way_behind") rfl), F, FunD.bindsN F fun _ _ _ _ _ _ us hl => (match us, hl with | [_, _], _ => rfl), sc4, rfl, rfl, ck4⟩
  | 5, h1, h2 =>
    cases h1
    cases h2
    obtain ⟨fd, F⟩ := c.def_ 5 (d := d5) rfl
    exact ⟨_, fd, _, _, _, _, N5, P5, 40, He.glo_ok X G (c.fact 5 (f := .glo "way_of") rfl), F, FunD.bindsN F fun _ _ _ _ _ _ us hl => (match us, hl with | [_, _], _ => rfl), sc5, rfl, rfl, ck5⟩
  | 6, h1, h2 =>
    cases h1
    cases h2
    obtain ⟨fd, F⟩ := c.def_ 6 (d := d6) rfl
    exact ⟨_, fd, _, _, _, _, N6, P6, 40, He.glo_ok X G (c.fact 6 (f := .glo "item_state") rfl), F, FunD.bindsN F fun _ _ _ _ _ _ us hl => (match us, hl with | [_, _, _], _ => rfl), sc6, rfl, rfl, ck6⟩
  | 7, h1, h2 =>
    cases h1
    cases h2
    obtain ⟨fd, F⟩ := c.def_ 7 (d := d7) rfl
    exact ⟨_, fd, _, _, _, _, N7, P7, 40, He.glo_ok X G (c.fact 7 (f := .glo "way_filled") rfl), F, FunD.bindsN F fun _ _ _ _ _ _ us hl => (match us, hl with | [_, _, _], _ => rfl), sc7, rfl, rfl, ck7⟩
  | 8, h1, h2 =>
    cases h1
    cases h2
    obtain ⟨fd, F⟩ := c.def_ 8 (d := d8) rfl
    exact ⟨_, fd, _, _, _, _, N8, P8, 40, He.glo_ok X G (c.fact 8 (f := .glo "_law_cell_at") rfl), F, FunD.bindsN F fun _ _ _ _ _ _ us hl => (match us, hl with | [_, _], _ => rfl), sc8, rfl, rfl, ck8⟩
  | 9, h1, h2 =>
    cases h1
    cases h2
    obtain ⟨fd, F⟩ := c.def_ 9 (d := d9) rfl
    exact ⟨_, fd, _, _, _, _, N9, P9, 40, He.glo_ok X G (c.fact 9 (f := .glo "_law_mix") rfl), F, FunD.bindsN F fun _ _ _ _ _ _ us hl => (match us, hl with | [_, _], _ => rfl), sc9, rfl, rfl, ck9⟩
  | 10, h1, h2 =>
    cases h1
    cases h2
    obtain ⟨fd, F⟩ := c.def_ 10 (d := d10) rfl
    exact ⟨_, fd, _, _, _, _, N10, P10, 40, He.glo_ok X G (c.fact 10 (f := .glo "_law_tape") rfl), F, FunD.bindsN F fun _ _ _ _ _ _ us hl => (match us, hl with | [_, _], _ => rfl), sc10, rfl, rfl, ck10⟩
  | 11, h1, h2 =>
    cases h1
    cases h2
    obtain ⟨fd, F⟩ := c.def_ 11 (d := d11) rfl
    exact ⟨_, fd, _, _, _, _, N11, P11, 40, He.glo_ok X G (c.fact 11 (f := .glo "_law_next") rfl), F, FunD.bindsN F fun _ _ _ _ _ _ us hl => (match us, hl with | [_, _], _ => rfl), sc11, rfl, rfl, ck11⟩
  | 12, h1, h2 =>
    cases h1
    cases h2
    obtain ⟨fd, F⟩ := c.def_ 12 (d := d12) rfl
    exact ⟨_, fd, _, _, _, _, N12, P12, 40, He.glo_ok X G (c.fact 12 (f := .glo "_law_names") rfl), F, FunD.bindsN F fun _ _ _ _ _ _ us hl => (match us, hl with | [_], _ => rfl), sc12, rfl, rfl, ck12⟩
  | 13, h1, h2 =>
    cases h1
    cases h2
    obtain ⟨fd, F⟩ := c.def_ 13 (d := d13) rfl
    exact ⟨_, fd, _, _, _, _, N13, P13, 40, He.glo_ok X G (c.fact 13 (f := .glo "_law_machine") rfl), F, FunD.bindsN F fun _ _ _ _ _ _ us hl => (match us, hl with | [_, _, _, _], _ => rfl), sc13, rfl, rfl, ck13⟩
  | 14, h1, h2 =>
    cases h1
    cases h2
    obtain ⟨fd, F⟩ := c.def_ 14 (d := d14) rfl
    exact ⟨_, fd, _, _, _, _, N14, P14, 40, He.glo_ok X G (c.fact 14 (f := .glo "_law_state") rfl), F, FunD.bindsN F fun _ _ _ _ _ _ us hl => (match us, hl with | [_, _, _], _ => rfl), sc14, rfl, rfl, ck14⟩
  | 15, h1, h2 =>
    cases h1
    cases h2
    obtain ⟨fd, F⟩ := c.def_ 15 (d := d15) rfl
    exact ⟨_, fd, _, _, _, _, N15, P15, 40, He.glo_ok X G (c.fact 15 (f := .glo "_law_row") rfl), F, FunD.bindsN F fun _ _ _ _ _ _ us hl => (match us, hl with | [_, _], _ => rfl), sc15, rfl, rfl, ck15⟩
  | 16, h1, h2 =>
    cases h1
    cases h2
    obtain ⟨fd, F⟩ := c.def_ 16 (d := d16) rfl
    exact ⟨_, fd, _, _, _, _, N16, P16, 40, He.glo_ok X G (c.fact 16 (f := .glo "_law_doc_state") rfl), F, FunD.bindsN F fun _ _ _ _ _ _ us hl => (match us, hl with | [_, _], _ => rfl), sc16, rfl, rfl, ck16⟩
  | 17, h1, h2 =>
    cases h1
    cases h2
    obtain ⟨fd, F⟩ := c.def_ 17 (d := d17) rfl
    exact ⟨_, fd, _, _, _, _, N17, P17, 40, He.glo_ok X G (c.fact 17 (f := .glo "_law_way") rfl), F, FunD.bindsN F fun _ _ _ _ _ _ us hl => (match us, hl with | [_, _], _ => rfl), sc17, rfl, rfl, ck17⟩
  | 18, h1, h2 =>
    cases h1
    cases h2
    obtain ⟨fd, F⟩ := c.def_ 18 (d := d18) rfl
    exact ⟨_, fd, _, _, _, _, N18, P18, 40, He.glo_ok X G (c.fact 18 (f := .glo "_law_items") rfl), F, FunD.bindsN F fun _ _ _ _ _ _ us hl => (match us, hl with | [_, _, _], _ => rfl), sc18, rfl, rfl, ck18⟩
  | 19, h1, h2 =>
    cases h1
    cases h2
    obtain ⟨fd, F⟩ := c.def_ 19 (d := d19) rfl
    exact ⟨_, fd, _, _, _, _, N19, P19, 40, He.glo_ok X G (c.fact 19 (f := .glo "_law_full") rfl), F, FunD.bindsN F fun _ _ _ _ _ _ us hl => (match us, hl with | [_, _], _ => rfl), sc19, rfl, rfl, ck19⟩
  | 20, h1, h2 =>
    cases h1
    cases h2
    obtain ⟨fd, F⟩ := c.def_ 20 (d := d20) rfl
    exact ⟨_, fd, _, _, _, _, N20, P20, 40, He.glo_ok X G (c.fact 20 (f := .glo "_law_same") rfl), F, FunD.bindsN F fun _ _ _ _ _ _ us hl => (match us, hl with | [_, _], _ => rfl), sc20, rfl, rfl, ck20⟩
  | 21, h1, h2 =>
    cases h1
    cases h2
    obtain ⟨fd, F⟩ := c.def_ 21 (d := d21) rfl
    exact ⟨_, fd, _, _, _, _, N21, P21, 40, He.glo_ok X G (c.fact 21 (f := .glo "_law_right") rfl), F, FunD.bindsN F fun _ _ _ _ _ _ us hl => (match us, hl with | [_, _, _, _], _ => rfl), sc21, rfl, rfl, ck21⟩
  | 22, h1, h2 =>
    cases h1
    cases h2
    obtain ⟨fd, F⟩ := c.def_ 22 (d := d22) rfl
    exact ⟨_, fd, _, _, _, _, N22, P22, 40, He.glo_ok X G (c.fact 22 (f := .glo "law") rfl), F, FunD.bindsN F fun _ _ _ _ _ _ us hl => (match us, hl with | [_], _ => rfl), sc22, rfl, rfl, ck22⟩
  | n + 23, h1, _ => cases h1
theorem blt_of (X : K.In h) (G : h.Ns mainGlobals mg) (c : He.SaysD fa Tk75.fn K) : ∀ x ∈ bltNames, mg x = none := by
  intro x hx
  have : ∃ i, i < 22 ∧ bltNames[i]? = some x := by
    obtain ⟨i, hi, e⟩ := List.mem_iff_getElem.mp hx
    exact ⟨i, hi, by rw [List.getElem?_eq_getElem hi, e]⟩
  obtain ⟨i, hi, e⟩ := this
  match i, hi, e with
  | 0, _, e =>
    cases e
    exact He.free_ok X G (c.fact 23 (f := .free "len") rfl)
  | 1, _, e =>
    cases e
    exact He.free_ok X G (c.fact 24 (f := .free "list") rfl)
  | 2, _, e =>
    cases e
    exact He.free_ok X G (c.fact 25 (f := .free "tuple") rfl)
  | 3, _, e =>
    cases e
    exact He.free_ok X G (c.fact 26 (f := .free "sorted") rfl)
  | 4, _, e =>
    cases e
    exact He.free_ok X G (c.fact 27 (f := .free "max") rfl)
  | 5, _, e =>
    cases e
    exact He.free_ok X G (c.fact 28 (f := .free "min") rfl)
  | 6, _, e =>
    cases e
    exact He.free_ok X G (c.fact 29 (f := .free "abs") rfl)
  | 7, _, e =>
    cases e
    exact He.free_ok X G (c.fact 30 (f := .free "int") rfl)
  | 8, _, e =>
    cases e
    exact He.free_ok X G (c.fact 31 (f := .free "str") rfl)
  | 9, _, e =>
    cases e
    exact He.free_ok X G (c.fact 32 (f := .free "sum") rfl)
  | 10, _, e =>
    cases e
    exact He.free_ok X G (c.fact 33 (f := .free "all") rfl)
  | 11, _, e =>
    cases e
    exact He.free_ok X G (c.fact 34 (f := .free "any") rfl)
  | 12, _, e =>
    cases e
    exact He.free_ok X G (c.fact 35 (f := .free "range") rfl)
  | 13, _, e =>
    cases e
    exact He.free_ok X G (c.fact 36 (f := .free "reversed") rfl)
  | 14, _, e =>
    cases e
    exact He.free_ok X G (c.fact 37 (f := .free "zip") rfl)
  | 15, _, e =>
    cases e
    exact He.free_ok X G (c.fact 38 (f := .free "isinstance") rfl)
  | 16, _, e =>
    cases e
    exact He.free_ok X G (c.fact 39 (f := .free "bool") rfl)
  | 17, _, e =>
    cases e
    exact He.free_ok X G (c.fact 40 (f := .free "set") rfl)
  | 18, _, e =>
    cases e
    exact He.free_ok X G (c.fact 41 (f := .free "dict") rfl)
  | 19, _, e =>
    cases e
    exact He.free_ok X G (c.fact 42 (f := .free "enumerate") rfl)
  | 20, _, e =>
    cases e
    exact He.free_ok X G (c.fact 43 (f := .free "ValueError") rfl)
  | 21, _, e =>
    cases e
    exact He.free_ok X G (c.fact 44 (f := .free "Exception") rfl)
  | n + 22, hi, _ => exact absurd hi (by omega)
theorem cst_of (X : K.In h) (G : h.Ns mainGlobals mg) (c : He.SaysD fa Tk75.fn K) (i : Nat) (x : Str) (d : D) (h1 : nm.cs[i]? = some x) (h2 : cfg.consts[i]? = some d) : ∃ (u : Value) (v : V), mg x = some u ∧ RelV v u ∧ ∀ (m : Mp) (H : Hp), RD K m H v d := by
  match i, h1, h2 with
  | 0, h1, h2 =>
    cases h1
    cases h2
    obtain ⟨t, e⟩ := He.str_ok X G (c.fact 45 (f := .str "HOLE" "*") rfl)
    exact ⟨_, .str _, e, ⟨t, rfl⟩, fun _ _ => .str _⟩
  | n + 1, h1, _ => cases h1
end
/-- the law, told of the machine -/
def Law : Prop := ∀ ns : List Int, ns.length ≤ 63 → ∃ os, callV cfg 60 22 [.rol (ns.map U.int)] = some (.ok (.bl true, false), os)
theorem facts {w : World} {K : PySem.W.Frag} {h : Heap} {mg : Str → Option Value} {f : Addr} (X : K.In h) (G : h.Ns mainGlobals mg) (hfa : mg ("law" : Str) = some (.ref f)) (c : He.SaysD fa fn K) :
    ∃ fd : FuncData, (∀ (s : Shared) (v : Value), BindsTo s fd ⟨[v], []⟩ [("_law_script", v)]) ∧ ∀ base : Heap, K.In base → base.Ns mainGlobals mg →
      FnOk (PySem.Challenge.rw_graftform_k75_ways).prog w K mg base (L2.CX (PySem.Challenge.rw_graftform_k75_ways).prog w) 120 f fd P22 (spI cfg K (fun _ _ _ _ _ => False) 60 22) := by
  obtain ⟨fd0, F⟩ := c.def_ 22 (d := d22) rfl
  have b0 := FunD.bindsA (ps := P22) F fun _ _ _ _ _ _ us hl => (match us, hl with | [_], _ => rfl)
  have e := hfa.symm.trans (He.glo_ok X G (c.fact 22 (f := .glo "law") rfl))
  cases e
  refine ⟨fd0, fun s v => b0 s [v] rfl, fun base _ _ => ?_⟩
  exact fn_step (gm_all xcut_no (blt_of X G c) (cst_of X G c) rfl (fun i x fn => defAt_of X G c) 59) xcut_no (i := 22) rfl F sc22 rfl rfl ck22
end Iv.Tk75
open PySem PySem.W PySem.Calls PyProof.Rows
theorem Iv.Tk75.holds_of (hL : Iv.Tk75.Law) : PySem.Challenge.rw_graftform_k75_ways.Holds := by
  w_on; o_law
  refine HandSHeadRun.head_any (r := OpenLaw.row PySem.Challenge.rw_graftform_k75_ways) (q := view (OpenLaw.row PySem.Challenge.rw_graftform_k75_ways).prog [27]) (H := Iv.Tk75.hk) (ob := Iv.Tk75.ob) (M := 900) (loose := Iv.Tk75.loose) (d := HandSHeadRun.topDef (OpenLaw.row PySem.Challenge.rw_graftform_k75_ways).prog 27) (kwd := []) Iv.Tk75.ob_eq
    (by kernel_rfl) (fun s => by kernel_rfl) Iv.Tk75.run (by kernel_rfl) (by kernel_rfl) (by kernel_rfl) (by rfl) (by first | assumption | decide +kernel) (by decide +kernel) ⟨rfl, rfl, rfl, rfl, rfl, by decide +kernel⟩ ?hw ?hc
  case hw => w_witness2
  case hc =>
    refine L2.walk_ofE (l := PySem.Challenge.rw_graftform_k75_ways) (n := 63) (k := 120) (x := "_law_script") (CX := fun o H s E e s' => ∃ w, L2.CX (PySem.Challenge.rw_graftform_k75_ways).prog w o H s E e s') rfl (by decide) (by kernel_rfl) ⟨rfl, by decide, by decide⟩ ?F (fun H s e s' z => ?C)
    case C =>
      obtain ⟨w, _, _, _, _, _, _, _, _, _, _, _, _, z⟩ := z
      exact z
    intro w mg fa h Y G hmg0
    obtain ⟨K, KX, c⟩ := Y
    have hmg : mg ("law" : PySem.Str) = some (.ref fa) := by
      have e : (HandSHeadRun.topDef (OpenLaw.row PySem.Challenge.rw_graftform_k75_ways).prog 27).name = ("law" : PySem.Str) := by kernel_rfl
      rw [← e]
      exact hmg0
    obtain ⟨fd, hb, hF⟩ := Iv.Tk75.facts (w := w) KX G hmg c
    refine ⟨K, fd, Iv.spI Iv.Tk75.cfg K (fun _ _ _ _ _ => False) 60 22, KX, hb, fun H a ns hl ho hS => ?_, fun base hb1 hb2 => Iv.FnOk.toCX (hF base hb1 hb2) fun _ _ _ _ _ _ z => ⟨w, z⟩⟩
    obtain ⟨os, hv⟩ := hL ns hl
    obtain ⟨st', hc⟩ := Iv.law_val rfl hv
    exact Iv.law_spec ho hS hc
end
set_option maxRecDepth 100000 in
set_option maxHeartbeats 8000000 in
theorem PySem.Challenge.cw_graftform_k75_ways_holds : PySem.Challenge.rw_graftform_k75_ways.Holds := by
  exact Iv.Tk75.holds_of Iv.Tk75.law_holds
