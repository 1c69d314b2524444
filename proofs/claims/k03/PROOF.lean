import PyProof.Rows.All
import Wide.All
import OpenK.AllK
import Wide.FinOn
import HandS.ForMost
import HandS.ForExc
import HandS.Defaults
import KE.SortData
import HandS.Deep
import HandS.TupAny
import HandS.Zip
import HandS.More
import HandS.Style
import HandS.Codes
import HandS.Lambda
import HandS.HeadEnd
import KE.KStateDown
import HandS.Head0
import HandS.Head1
import HandS.Head2
import HandS.HeadHook1
import HandS.HeadHook2
import PySem.Challenge.RW_onlydeeper_k03_fewest_strokes
set_option Elab.async false
set_option linter.all false
set_option maxRecDepth 100000
set_option maxHeartbeats 0
/-! Y1: tree values, stores, the relation with the layer's abstract heap. -/
namespace Y
open PySem L2

/-- a value as a tree; box n: a mutable thing, told in the store; ro: a sequence that is only read; cls, fn: a class, a def of the text -/
inductive D where
  | non | bl (b : Bool) | int (i : Int) | str (s : Str)
  | tup (xs : List D) | lst (xs : List D) | ro (xs : List D)
  | dct (ks vs : List D)
  | set (xs : List D)
  | ins (c : Nat) (ns : List Str) (vs : List D)
  | box (n : Nat)
  | cls (c : Nat)
  | ty (n : String)
  deriving Inhabited

/-- what a slot holds: a value, a container of the def's own (top level), an object under construction -/
inductive EV where
  | val (d : D)
  | own (d : D)
  | obj (c : Nat) (ns : List Str) (fs : List (Bool × D))

abbrev Env := List (Option EV)
abbrev Store := List D

inductive Res (α : Type) where
  | ok (a : α) (S : Store)
  | exc (c : Nat) (fs : List D) (S : Store)
  | bad

abbrev M (α : Type) := Store → Res α
@[reducible] def ret {α : Type} (a : α) : M α := fun S => .ok a S
@[reducible] def fail {α : Type} : M α := fun _ => .bad
def Res.bnd {α β : Type} (r : Res α) (f : α → M β) : Res β :=
  match r with
  | .ok a S => f a S
  | .exc c fs S => .exc c fs S
  | .bad => .bad
def bnd {α β : Type} (m : M α) (f : α → M β) : M β := fun S => (m S).bnd f
def lift {α : Type} (o : Option α) : M α := fun S => match o with
  | some a => .ok a S
  | none => .bad
/-- exceptions are refused (inside of comprehensions) -/
def Res.hush {α : Type} : Res α → Res α
  | .ok a S => .ok a S
  | _ => .bad
def hush {α : Type} (m : M α) : M α := fun S => (m S).hush

def keyD : Key → D
  | .inl i => .int i
  | .inr s => .str s
def dKey : D → Option Key
  | .int i => some (.inl i)
  | .str s => some (.inr s)
  | _ => none
def dKeys : List D → Option (List Key)
  | [] => some []
  | d :: ds => match dKey d, dKeys ds with
    | some k, some ks => some (k :: ks)
    | _, _ => none

/-- what is fixed for a law: the written part, the classes' addresses -/
structure Zc where
  K : PySem.W.Frag
  ca : Nat → Addr

def isD : HO → Bool
  | .dK _ => true
  | .dT _ => true
  | _ => false
/-- what H tells of what was known as u -/
def Held (H : Hp) (a : Addr) (u : HO) : Prop := H a = some u ∨ (isD u = true ∧ ∃ o, H a = some (.frz o u))

mutual
inductive Rep (Z : Zc) (G : Hp) (io : List Addr) : V → D → Prop where
  | non : Rep Z G io .non .non
  | bl (b : Bool) : Rep Z G io (.bl b) (.bl b)
  | int (i : Int) : Rep Z G io (.int i) (.int i)
  | str (s : Str) : Rep Z G io (.str s) (.str s)
  | ty (n : String) : Rep Z G io (.ty n) (.ty n)
  | cls (c : Nat) : Rep Z G io (.ref (Z.ca c)) (.cls c)
  | box {a : Addr} {n : Nat} (h : io[n]? = some a) : Rep Z G io (.ref a) (.box n)
  | tup {a : Addr} {vs : List V} {ds : List D} (h : G a = some (.tup vs)) (r : Reps Z G io vs ds) : Rep Z G io (.ref a) (.tup ds)
  | lst {a : Addr} {vs : List V} {ds : List D} (h : G a = some (.lst vs)) (r : Reps Z G io vs ds) : Rep Z G io (.ref a) (.lst ds)
  | ro {a : Addr} {vs : List V} {ds : List D} (h : SqL Z.K G a vs ∨ SqT Z.K G a vs) (r : Reps Z G io vs ds) : Rep Z G io (.ref a) (.ro ds)
  | dK {a : Addr} {kvs : List (Key × V)} {ds : List D} (h : G a = some (.dK kvs)) (r : Reps Z G io (kvs.map (·.2)) ds) : Rep Z G io (.ref a) (.dct (kvs.map fun p => keyD p.1) ds)
  | dT {a : Addr} {kvs : List (List Key × V)} {ds : List D} (n : kvs ≠ []) (h : G a = some (.dT kvs)) (r : Reps Z G io (kvs.map (·.2)) ds) : Rep Z G io (.ref a) (.dct (kvs.map fun p => .tup (p.1.map keyD)) ds)
  | ins {a dx : Addr} {c : Nat} {fs : List (Str × V)} {ds : List D} (h : G a = some (.ins (Z.ca c) dx fs)) (hx : G dx = some (.own a)) (r : Reps Z G io (fs.map (·.2)) ds) : Rep Z G io (.ref a) (.ins c (fs.map (·.1)) ds)
inductive Reps (Z : Zc) (G : Hp) (io : List Addr) : List V → List D → Prop where
  | nil : Reps Z G io [] []
  | cons {v : V} {d : D} {vs : List V} {ds : List D} (h : Rep Z G io v d) (t : Reps Z G io vs ds) : Reps Z G io (v :: vs) (d :: ds)
end

/-- a value whose top is read in H (the rest is known in G) -/
inductive Top (Z : Zc) (H G : Hp) (io : List Addr) : V → D → Prop where
  | non : Top Z H G io .non .non
  | bl (b : Bool) : Top Z H G io (.bl b) (.bl b)
  | int (i : Int) : Top Z H G io (.int i) (.int i)
  | str (s : Str) : Top Z H G io (.str s) (.str s)
  | ty (n : String) : Top Z H G io (.ty n) (.ty n)
  | cls (c : Nat) : Top Z H G io (.ref (Z.ca c)) (.cls c)
  | tup {a : Addr} {vs : List V} {ds : List D} (h : H a = some (.tup vs)) (r : Reps Z G io vs ds) : Top Z H G io (.ref a) (.tup ds)
  | lst {a : Addr} {vs : List V} {ds : List D} (h : H a = some (.lst vs)) (r : Reps Z G io vs ds) : Top Z H G io (.ref a) (.lst ds)
  | ro {a : Addr} {vs : List V} {ds : List D} (h : SqL Z.K H a vs ∨ SqT Z.K H a vs) (r : Reps Z G io vs ds) : Top Z H G io (.ref a) (.ro ds)
  | dK {a : Addr} {kvs : List (Key × V)} {ds : List D} (h : Held H a (.dK kvs)) (r : Reps Z G io (kvs.map (·.2)) ds) : Top Z H G io (.ref a) (.dct (kvs.map fun p => keyD p.1) ds)
  | dT {a : Addr} {kvs : List (List Key × V)} {ds : List D} (n : kvs ≠ []) (h : Held H a (.dT kvs)) (r : Reps Z G io (kvs.map (·.2)) ds) : Top Z H G io (.ref a) (.dct (kvs.map fun p => .tup (p.1.map keyD)) ds)
  | ins {a dx : Addr} {c : Nat} {fs : List (Str × V)} {ds : List D} (h : H a = some (.ins (Z.ca c) dx fs)) (r : Reps Z G io (fs.map (·.2)) ds) : Top Z H G io (.ref a) (.ins c (fs.map (·.1)) ds)

/-- a container of one's own, written as it is -/
inductive Own (Z : Zc) (H G : Hp) (io : List Addr) : Addr → D → Prop where
  | lst {a : Addr} {vs : List V} {ds : List D} (h : H a = some (.lst vs)) (r : Reps Z G io vs ds) : Own Z H G io a (.lst ds)
  | dK {a : Addr} {kvs : List (Key × V)} {ds : List D} (h : H a = some (.dK kvs)) (r : Reps Z G io (kvs.map (·.2)) ds) : Own Z H G io a (.dct (kvs.map fun p => keyD p.1) ds)
  | dT {a : Addr} {kvs : List (List Key × V)} {ds : List D} (n : kvs ≠ []) (h : H a = some (.dT kvs)) (r : Reps Z G io (kvs.map (·.2)) ds) : Own Z H G io a (.dct (kvs.map fun p => .tup (p.1.map keyD)) ds)
  | ins {a dx : Addr} {c : Nat} {fs : List (Str × V)} {ds : List D} (h : H a = some (.ins (Z.ca c) dx fs)) (hx : H dx = some (.own a)) (hg : G dx = none) (r : Reps Z G io (fs.map (·.2)) ds) : Own Z H G io a (.ins c (fs.map (·.1)) ds)

/-- where a container of one's own hangs -/
inductive Pl where
  | slot (i : Nat) | fld (f : Nat) | box (n : Nat)
  deriving DecidableEq

abbrev Plc := Addr → Option Pl

/-- fields of an object under construction -/
def FldR (Z : Zc) (H G : Hp) (io : List Addr) (pl : Plc) (j : Nat) (v : V) (f : Bool × D) : Prop :=
  (f.1 = false ∧ Rep Z G io v f.2) ∨ (f.1 = true ∧ ∃ a, v = .ref a ∧ pl a = some (.fld j) ∧ Own Z H G io a f.2)

def EvR (Z : Zc) (H G : Hp) (io : List Addr) (pl : Plc) (i : Nat) (v : V) : EV → Prop
  | .val d => Rep Z G io v d
  | .own d => ∃ a, v = .ref a ∧ pl a = some (.slot i) ∧ Own Z H G io a d
  | .obj c ns fs => ∃ a dx fvs, v = .ref a ∧ pl a = some (.slot i) ∧ H a = some (.ins (Z.ca c) dx fvs) ∧ H dx = some (.own a) ∧ G dx = none ∧ fvs.map (·.1) = ns ∧ fvs.length = fs.length ∧
      ∀ j f p, fs[j]? = some f → fvs[j]? = some p → FldR Z H G io pl j p.2 f

structure Rel (Z : Zc) (H G : Hp) (io : List Addr) (pl : Plc) (S : Store) (de : Env) (σ : L2.St) : Prop where
  gh : ∀ a u, G a = some u → Held H a u
  len : de.length = σ.length
  slots : ∀ i e, de[i]? = some (some e) → ∃ v, σ[i]? = some (some v) ∧ EvR Z H G io pl i v e
  bl : io.length = S.length
  boxes : ∀ n d, S[n]? = some d → ∃ a, io[n]? = some a ∧ pl a = some (.box n) ∧ Own Z H G io a d
  plg : ∀ a, pl a ≠ none → G a = none ∧ H a ≠ none ∧ ∀ xs, H a ≠ some (.tup xs)

/-- what may have changed from one state to a later one: boxes alone; G grows by what is new (or by tuples) -/
structure Step (H G : Hp) (io : List Addr) (H' G' : Hp) (io' : List Addr) : Prop where
  gg : ∀ a u, G a = some u → G' a = some u
  gn : ∀ a, G' a ≠ none → G a ≠ none ∨ H a = none ∨ ∃ xs, H a = some (.tup xs)
  fr : ∀ a o, H a = some o → a ∉ io → (∀ ps, o ≠ .tbl ps) → H' a = some o ∨ (isD o = true ∧ G a = some o ∧ ∃ od, H' a = some (.frz od o))
  ext : ∃ more, io' = io ++ more ∧ ∀ a ∈ more, H a = none
  al : ∀ a, H a ≠ none → H' a ≠ none
  tp : ∀ a xs, H' a = some (.tup xs) → H a = some (.tup xs) ∨ H a = none
end Y
/-! Y2: the small language, and what it means on tree values. -/
namespace Y
open PySem L2

inductive O2 where
  | add | sub | mul | fdiv | mod | pow | eq | ne | lt | le | gt | ge | isN | notN | isin | nin
  deriving DecidableEq
inductive BI where
  | len | all | any | list | tuple | sorted | abs | max2 | min2 | maxl | minl | int | dict | rangel
  deriving DecidableEq
inductive BM where
  | index | get2 | count
  deriving DecidableEq

inductive IR where
  | nil | cons (h t : IR)
  -- expressions
  | var (i : Nat) | own (i : Nat) | kn | kb (b : Bool) | ki (i : Int) | ks (s : Str) | con (n : Nat)
  | o2 (o : O2) (a b : IR) | neg (a : IR) | inot (a : IR) | iand (a b : IR) | ior (a b : IR) | ife (c a b : IR) | ch (o p : O2) (a b c : IR)
  | tup (a : IR) | lst (a : IR) | dct (a : IR)
  | idx (a b : IR) | sli (a lo hi : IR)
  | att (a : IR) (f : Str)
  | call (f : Nat) (a : IR) | callk (f : Nat) (a kw : IR) (perm : List Nat)
  | mk (c : Nat) (a : IR)
  | meth (a : IR) (m : Str) (as : IR)
  | bi (b : BI) (a : IR) | bm (m : BM) (r a : IR)
  | lc (vs : List Nat) (g it c e : IR)
  | boxed (e : IR) | bpop (a k : IR)
  -- tests: by a bool, by truth, and, or, not
  | tb (e : IR) | tt (e : IR) | tand (a b : IR) | tor (a b : IR) | tnot (a : IR)
  -- what is walked
  | iv (e : IR) | ir1 (a : IR) | ir2 (a b : IR) | zip (a b : IR) | enum (a : IR) | items (a : IR)
  -- targets
  | gn (i : Nat) | gt (gs : IR)
  -- statements
  | set (g e : IR) | seto (i : Nat) (e : IR) | par (ts : List (Nat × Bool)) (es : IR) | aug (i : Nat) (o : O2) (e : IR)
  | xpr (e : IR) | rt (e : IR) | rtn | cond (c a b : IR) | forl (g it b : IR) | whl (c b : IR) | brk | cnt | pas
  | app (i : Nat) (e : IR) | bset (a k v : IR) | oset (i : Nat) (k v : IR) | free (i : Nat)
  | never
  deriving Inhabited

/-! ### data -/
mutual
def D.py : D → PyData
  | .non => .none
  | .bl b => .bool b
  | .int i => .int i
  | .str s => .str s
  | .tup xs => .tuple (D.pys xs)
  | .lst xs => .list (D.pys xs)
  | .ro _ | .dct _ _ | .set _ | .ins _ _ _ | .box _ | .cls _ | .ty _ => .none
def D.pys : List D → List PyData
  | [] => []
  | x :: xs => x.py :: D.pys xs
end
mutual
/-- None, bools, ints, texts, tuples and lists of these -/
def D.pure : D → Bool
  | .non | .bl _ | .int _ | .str _ => true
  | .tup xs | .lst xs => D.pures xs
  | .ro _ | .dct _ _ | .set _ | .ins _ _ _ | .box _ | .cls _ | .ty _ => false
def D.pures : List D → Bool
  | [] => true
  | x :: xs => x.pure && D.pures xs
end
def D.shaped (d : D) : Bool := d.pure && SeqAt.shaped d.py
def D.flat : D → Bool
  | .non | .bl _ | .int _ | .str _ => true
  | _ => false
/-- == -/
def eqD (a b : D) : Option Bool := if (a.shaped && b.shaped) = true then some (PyData.eqv a.py b.py) else none
/-- a dict's key -/
inductive Ky where
  | one (k : Key) | tup (ks : List Key)
  deriving DecidableEq
def D.ky : D → Option Ky
  | .int i => some (.one (.inl i))
  | .str s => some (.one (.inr s))
  | .tup ds => (dKeys ds).map .tup
  | _ => none
def dfind (k : Ky) : List D → List D → Option D
  | x :: xs, v :: vs => if x.ky = some k then some v else dfind k xs vs
  | _, _ => none
def dputV (k : Ky) (v : D) : List D → List D → List D
  | x :: xs, y :: ys => if x.ky = some k then v :: dputV k v xs ys else y :: dputV k v xs ys
  | _, _ => []
def isK1 (d : D) : Bool := (dKey d).isSome
def isKT : D → Bool
  | .tup ds => (dKeys ds).isSome
  | _ => false
/-- keys of one kind -/
def sameK (z : Ky) (ks : List D) : Bool := match z with
  | .one _ => ks.all isK1
  | .tup _ => !ks.isEmpty && ks.all isKT
def sizeOk (n : Nat) : Bool := decide (n ≤ sizeLine)

/-- d[k] = v -/
def dput (q y : D) (ks vs : List D) : Option D := match q.ky with
  | some z => if sameK z ks && decide (ks.length < sizeLine) then some (if (dfind z ks vs).isSome then .dct ks (dputV z y ks vs) else .dct (ks ++ [q]) (vs ++ [y])) else none
  | none => none
def smallI (i : Int) : Bool := decide (-(2 ^ 64) < i) && decide (i < 2 ^ 64)
def p2 (o : O2) (a b : D) : Option D :=
  match o with
  | .add => match a, b with
    | .int i, .int j => some (.int (i + j))
    | .str s, .str t => if sizeOk (s.length + t.length) then some (.str (s ++ t)) else none
    | .lst xs, .lst ys => if sizeOk (xs.length + ys.length) then some (.lst (xs ++ ys)) else none
    | .tup xs, .tup ys => if sizeOk (xs.length + ys.length) then some (.tup (xs ++ ys)) else none
    | _, _ => none
  | .sub => match a, b with
    | .int i, .int j => some (.int (i - j))
    | _, _ => none
  | .mul => match a, b with
    | .int i, .int j => if smallI i || smallI j then some (.int (i * j)) else none
    | .lst xs, .int k => if decide (k < 2 ^ 62) && decide (-(2 ^ 62) ≤ k) && sizeOk (xs.length * k.toNat) then some (.lst (List.replicate k.toNat xs).flatten) else none
    | _, _ => none
  | .fdiv => match a, b with
    | .int i, .int j => if 0 < j ∧ j < 1073741824 then some (.int (i / j)) else none
    | _, _ => none
  | .mod => match a, b with
    | .int i, .int j => if 0 < j then some (.int (i % j)) else none
    | _, _ => none
  | .pow => match a, b with
    | .int i, .int j => if 0 ≤ j ∧ j ≤ 1000000 ∧ i.natAbs < 2 ^ 64 then some (.int (i ^ j.toNat)) else none
    | _, _ => none
  | .eq => (eqD a b).map .bl
  | .ne => (eqD a b).map fun r => .bl (!r)
  | .lt => match a, b with
    | .int i, .int j => some (.bl (decide (i < j)))
    | _, _ => none
  | .le => match a, b with
    | .int i, .int j => some (.bl (decide (i ≤ j)))
    | _, _ => none
  | .gt => match a, b with
    | .int i, .int j => some (.bl (decide (j < i)))
    | _, _ => none
  | .ge => match a, b with
    | .int i, .int j => some (.bl (decide (j ≤ i)))
    | _, _ => none
  | .isN => match b with
    | .non => match a with
      | .non => some (.bl true)
      | _ => some (.bl false)
    | _ => none
  | .notN => match b with
    | .non => match a with
      | .non => some (.bl false)
      | _ => some (.bl true)
    | _ => none
  | .isin => (pIn a b).map .bl
  | .nin => (pIn a b).map fun r => .bl (!r)
where pIn (x c : D) : Option Bool := match c with
  | .lst ds => if x.shaped && (D.lst ds).shaped then some (ds.any fun z => PyData.eqv z.py x.py) else none
  | .tup ds => if x.flat && ds.all D.flat then some (ds.any fun z => PyData.eqv z.py x.py) else none
  | .ro ds => if x.flat && ds.all D.flat then some (ds.any fun z => PyData.eqv z.py x.py) else none
  | .dct ks vs => match x.ky with
    | some k => if sameK k ks then some (dfind k ks vs).isSome else none
    | none => none
  | _ => none

def D.truth : D → Option Bool
  | .non => some false
  | .bl b => some b
  | .int i => some (i != 0)
  | .lst xs => some (!xs.isEmpty)
  | .tup xs => some (!xs.isEmpty)
  | _ => none

/-- x[i] -/
def pIdx (a b : D) : Option D := match a with
  | .lst xs => match b with
    | .int i => atI xs i
    | _ => none
  | .tup xs => match b with
    | .int i => atI xs i
    | _ => none
  | .ro xs => match b with
    | .int i => atI xs i
    | _ => none
  | .str s => match b with
    | .int i => if sizeOk s.length then (atI s.cps.toList i).map fun c => .str ⟨#[c]⟩ else none
    | _ => none
  | .dct ks vs => match b.ky with
    | some k => dfind k ks vs
    | none => none
  | _ => none
def cutD (xs : List D) (lo hi : Option Int) : List D := (xs.drop (HT.sIx xs.length 0 lo)).take (HT.sIx xs.length xs.length hi - HT.sIx xs.length 0 lo)
def pSli (a : D) (lo hi : Option Int) : Option D := match a with
  | .lst xs => some (.lst (cutD xs lo hi))
  | .tup xs => some (.tup (cutD xs lo hi))
  | _ => none
def dInts : List D → Option (List Int)
  | [] => some []
  | .int i :: r => (dInts r).map (i :: ·)
  | _ :: _ => none
def dStrs : List D → Option (List Str)
  | [] => some []
  | .str s :: r => (dStrs r).map (s :: ·)
  | _ :: _ => none
def dBls : List D → Option (List Bool)
  | [] => some []
  | .bl s :: r => (dBls r).map (s :: ·)
  | _ :: _ => none
def maxL : Int → List Int → Int
  | m, [] => m
  | m, x :: r => maxL (if x > m then x else m) r
def minL : Int → List Int → Int
  | m, [] => m
  | m, x :: r => minL (if x < m then x else m) r
/-- key-value pairs, put one behind the other -/
def dfill : List D → List D → List D → Option D
  | ks, vs, [] => some (.dct ks vs)
  | ks, vs, .tup [k, v] :: r => match k.ky with
    | some (.one y) => if (dfind (.one y) ks vs).isSome then dfill ks (dputV (.one y) v ks vs) r else dfill (ks ++ [k]) (vs ++ [v]) r
    | _ => none
  | _, _, _ => none
def pairUp : List D → List D
  | k :: v :: r => .tup [k, v] :: pairUp r
  | _ => []
/-- the order of sorting (items alike) -/
def leD (a b : D) : Bool := PySem.W.dataLe false D.py a b
def sortable (xs : List D) : Bool := xs.all D.shaped && decide (xs.length ≤ sizeLine) &&
  (xs.all fun x => xs.all fun y => PySem.W.alike x.py y.py) &&
  ((xs.all fun x => match x with | .tup (_ :: _) => true | _ => false) || (xs.all fun x => match x with | .tup _ => false | .non => false | _ => true))
def pBi (b : BI) (as : List D) : Option D := match b, as with
  | .len, [.lst xs] => some (.int xs.length)
  | .len, [.tup xs] => some (.int xs.length)
  | .len, [.ro xs] => some (.int xs.length)
  | .len, [.str s] => if sizeOk s.length then some (.int s.length) else none
  | .all, [.lst xs] => (dBls xs).map fun bs => .bl (bs.all id)
  | .any, [.lst xs] => (dBls xs).map fun bs => .bl (bs.any id)
  | .list, [.lst xs] => some (.lst xs)
  | .list, [.tup xs] => some (.lst xs)
  | .list, [.ro xs] => some (.lst xs)
  | .tuple, [.lst xs] => some (.tup xs)
  | .tuple, [.tup xs] => some (.tup xs)
  | .sorted, [.lst xs] => if sortable xs then some (.lst (xs.mergeSort leD)) else none
  | .abs, [.int i] => some (.int (if i < 0 then -i else i))
  | .max2, [.int i, .int j] => some (.int (if j > i then j else i))
  | .min2, [.int i, .int j] => some (.int (if j < i then j else i))
  | .maxl, [.lst xs] => match dInts xs with
    | some (x :: r) => some (.int (maxL x r))
    | _ => none
  | .minl, [.lst xs] => match dInts xs with
    | some (x :: r) => some (.int (minL x r))
    | _ => none
  | .int, [.bl k] => some (.int (if k then 1 else 0))
  | .int, [.int k] => some (.int k)
  | .dict, [.lst xs] => dfill [] [] xs
  | .dict, [.dct ks vs] => if ks.all isK1 then some (.dct ks vs) else none
  | .rangel, [.int n] => if 0 ≤ n ∧ n ≤ 16777216 then some (.lst ((List.range n.toNat).map fun i => .int (i : Nat))) else none
  | _, _ => none

/-! ### the machine -/
/-- how a statement ends -/
inductive Out where
  | nx (de : Env) | rtv (d : D) (fresh : Bool) | bk (de : Env) | ct (de : Env)

abbrev Calls := Nat → List D → M (D × Bool)

def view (S : Store) : D → D
  | .box n => S.getD n .non
  | d => d

def evs (f : IR → M D) : IR → M (List D)
  | .nil => ret []
  | .cons h t => bnd (f h) fun d => bnd (evs f t) fun ds => ret (d :: ds)
  | _ => fail

/-- a target's store -/
def asg : IR → D → Env → Option Env
  | .gn i, d, de => if i < de.length then some (de.set i (some (.val d))) else none
  | .gt gs, .tup ds, de => asgs gs ds de
  | _, _, _ => none
where asgs : IR → List D → Env → Option Env
  | .nil, [], de => some de
  | .cons (.gn i) t, d :: ds, de => if i < de.length then asgs t ds (de.set i (some (.val d))) else none
  | _, _, _ => none

def wipeE (de : Env) : List Nat → Env
  | [] => de
  | v :: vs => (wipeE de vs).set v none

/-- a comprehension's turns -/
def comp (items : List D) (step : D → M (Option D)) : M (List D) := match items with
  | [] => ret []
  | x :: r => bnd (step x) fun o => bnd (comp r step) fun ds => ret (match o with
    | some d => d :: ds
    | none => ds)

def tryL {α : Type} (o : Option α) (f : α → M β) : M β := match o with
  | some a => f a
  | none => fail

structure Fe where
  arity : Nat
  slots : Nat
  body : IR
  deriving Inhabited
structure Ce where
  name : Str
  init : Option Nat
  props : List (Str × Nat)
  meths : List (Str × Nat)
  deriving Inhabited
structure Tb where
  fns : List Fe
  cls : List Ce
  con : List D
  deriving Inhabited

section
variable (T : Tb) (C : Calls)
/-- a box with a list -/
def isBoxL (x : D) : M Unit := fun S => match x with
  | .box n => match S[n]? with
    | some (.lst _) => .ok () S
    | _ => .bad
  | _ => .bad
def popAt (n : Nat) (xs : List D) (i : Int) : M D := fun S =>
  if -(2 ^ 62) ≤ i ∧ i < 2 ^ 62 then
    (match ixN xs.length i with
    | some q =>
      (match xs[q]? with
      | some y => .ok y (S.set n (.lst (xs.eraseIdx q)))
      | none => .bad)
    | none => .bad)
  else .bad
def popLast (n : Nat) (xs : List D) : M D := fun S =>
  match xs[xs.length - 1]? with
  | some y => .ok y (S.set n (.lst xs.dropLast))
  | none => .bad
def popR (x : D) (j : Option Int) : M D := fun S =>
  match x with
  | .box n =>
    (match S[n]? with
    | some (.lst xs) =>
      (match j with
      | none => popLast n xs S
      | some i => popAt n xs i S)
    | _ => .bad)
  | _ => .bad
def optI : D → Option (Option Int)
  | .int i => some (some i)
  | _ => none

mutual
def ev (de : Env) : IR → M D
  | .var i => match de[i]? with
    | some (some (.val d)) => ret d
    | _ => fail
  | .own i => match de[i]? with
    | some (some (.own d)) => ret d
    | _ => fail
  | .kn => ret .non
  | .kb b => ret (.bl b)
  | .ki i => ret (.int i)
  | .ks s => ret (.str s)
  | .con n => match T.con[n]? with
    | some d => ret d
    | none => fail
  | .o2 o a b => bnd (ev de a) fun x => bnd (ev de b) fun y => fun S => lift (p2 o (view S x) (view S y)) S
  | .neg a => bnd (ev de a) fun x => match x with
    | .int i => ret (.int (-i))
    | _ => fail
  | .inot a => bnd (ev de a) fun x => match x with
    | .bl c => ret (.bl (!c))
    | _ => fail
  | .iand a b => bnd (ev de a) fun x => match x with
    | .bl true => ev de b
    | .bl false => ret (.bl false)
    | _ => fail
  | .ior a b => bnd (ev de a) fun x => match x with
    | .bl true => ret (.bl true)
    | .bl false => ev de b
    | _ => fail
  | .ife c a b => bnd (evt de c) fun k => if k = true then ev de a else ev de b
  | .ch o p a b c => bnd (ev de a) fun x => bnd (ev de b) fun y => bnd (fun S => lift (p2 o (view S x) (view S y)) S) fun z => match z with
    | .bl true => bnd (ev de c) fun u => fun S => lift (p2 p (view S y) (view S u)) S
    | .bl false => ret (.bl false)
    | _ => fail
  | .tup a => bnd (evl de a) fun ds => if sizeOk ds.length then ret (.tup ds) else fail
  | .lst a => bnd (evl de a) fun ds => if sizeOk ds.length then ret (.lst ds) else fail
  | .dct a => bnd (evl de a) fun ds => if ds.length ≤ 30 ∧ ds.length % 2 = 0 then fun S => lift (dfill [] [] (pairUp ds)) S else fail
  | .idx a b => bnd (ev de a) fun x => bnd (ev de b) fun y => fun S => lift (pIdx (view S x) y) S
  | .sli a lo hi => bnd (ev de a) fun x => bnd (evo de lo) fun l => bnd (evo de hi) fun h => fun S => lift (pSli (view S x) l h) S
  | .call f a => bnd (evl de a) fun ds => bnd (C f ds) fun r => ret r.1
  | .callk f a kw perm => bnd (evl de a) fun ds => bnd (evl de kw) fun es => tryL (perm.mapM fun i => (ds ++ es)[i]?) fun as => bnd (C f as) fun r => ret r.1
  | .bi b a => bnd (evl de a) fun ds => fun S => lift (pBi b (ds.map (view S))) S
  | .lc vs g it c e => bnd (evi de it) fun items => bnd (comp items fun d => tryL (asg g d (wipeE de vs)) fun d1 => bnd (hush (evt d1 c)) fun k => if k = true then bnd (hush (ev d1 e)) fun v => ret (some v) else ret none) fun ds => ret (.lst ds)
  | .boxed e => bnd (ev de e) fun d => fun S => .ok (.box S.length) (S ++ [d])
  | .bpop a k => bnd (ev de a) fun x => bnd (isBoxL x) fun _ => bnd (evo de k) fun j => popR x j
  | _ => fail
/-- an optional part -/
def evo (de : Env) : IR → M (Option Int)
  | .nil => ret none
  | .cons a _ => bnd (ev de a) fun x => match x with
    | .int i => ret (some i)
    | _ => fail
  | _ => fail
/-- arguments, items -/
def evl (de : Env) : IR → M (List D)
  | .nil => ret []
  | .cons h t => bnd (ev de h) fun d => bnd (evl de t) fun ds => ret (d :: ds)
  | _ => fail
/-- tests -/
def evt (de : Env) : IR → M Bool
  | .tand a b => bnd (evt de a) fun k => if k = true then evt de b else ret false
  | .tor a b => bnd (evt de a) fun k => if k = true then ret true else evt de b
  | .tnot a => bnd (evt de a) fun k => ret (!k)
  | .kb b => ret b
  | .tb e => bnd (ev de e) fun x => match x with
    | .bl k => ret k
    | _ => fail
  | .tt e => bnd (ev de e) fun x => fun S => lift ((view S x).truth) S
  | _ => fail
/-- what is walked -/
def evi (de : Env) : IR → M (List D)
  | .iv e => bnd (ev de e) fun x => match x with
    | .lst xs => ret xs
    | .tup xs => ret xs
    | .ro xs => ret xs
    | .dct ks _ => ret ks
    | .str s => if sizeOk s.length then ret (s.cps.toList.map fun c => .str ⟨#[c]⟩) else fail
    | _ => fail
  | .ir1 a => bnd (ev de a) fun x => match x with
    | .int n => if n ≤ 16777216 ∧ -(2 ^ 62) ≤ n then ret ((List.range n.toNat).map fun i => .int (i : Nat)) else fail
    | _ => fail
  | .ir2 a b => bnd (ev de a) fun x => bnd (ev de b) fun y => match x, y with
    | .int m, .int n => if n ≤ 8388608 ∧ -8388608 ≤ n ∧ m ≤ 8388608 ∧ -8388608 ≤ m then ret ((List.range (n - m).toNat).map fun i => .int (m + (i : Nat))) else fail
    | _, _ => fail
  | .zip a b => bnd (ev de a) fun x => bnd (ev de b) fun y => match x, y with
    | .lst xs, .lst ys => ret ((xs.zip ys).map fun p => .tup [p.1, p.2])
    | .tup xs, .tup ys => ret ((xs.zip ys).map fun p => .tup [p.1, p.2])
    | _, _ => fail
  | .enum a => bnd (ev de a) fun x => match x with
    | .lst xs => ret (xs.zipIdx.map fun p => .tup [.int (p.2 : Nat), p.1])
    | _ => fail
  | .items a => bnd (ev de a) fun x => match x with
    | .dct ks vs => if ks.all (fun k => (dKey k).isSome) = true then ret ((ks.zip vs).map fun p => .tup [p.1, p.2]) else fail
    | _ => fail
  | _ => fail
end

/-- a loop's turns -/
def loop (items : List D) (de : Env) (g : IR) (body : Env → M Out) : M Out := match items with
  | [] => ret (.nx de)
  | x :: r => tryL (asg g x de) fun d1 => bnd (body d1) fun o => match o with
    | .nx d2 => loop r d2 g body
    | .ct d2 => loop r d2 g body
    | .bk d2 => ret (.nx d2)
    | .rtv d f => ret (.rtv d f)
def wloop : Nat → (Env → M Bool) → (Env → M Out) → Env → M Out
  | 0, _, _, _ => fail
  | n + 1, c, b, de => bnd (c de) fun k => if k = true then bnd (b de) fun o => match o with
      | .nx d2 => wloop n c b d2
      | .ct d2 => wloop n c b d2
      | .bk d2 => ret (.nx d2)
      | .rtv d f => ret (.rtv d f)
    else ret (.nx de)

def isFresh : D → Bool
  | .lst _ | .dct _ _ => true
  | _ => false

/-- a value's place: as it is, or as a container of one's own -/
def slotV (f : Bool) (d : D) : EV := if f then .own d else .val d
def pset : List (Nat × Bool) → List D → Env → Option Env
  | [], [], de => some de
  | (i, f) :: ts, d :: ds, de => if ((!f || isFresh d) && decide (i < de.length)) = true then pset ts ds (de.set i (some (slotV f d))) else none
  | _, _, _ => none
def bputR (de : Env) (x q y : D) : M Out := fun S =>
  match x with
  | .box n =>
    (match S[n]? with
    | some (.dct ks vs) => tryL (dput q y ks vs) (fun d => fun S => .ok (.nx de) (S.set n d)) S
    | _ => .bad)
  | _ => .bad
variable (W : Nat)
mutual
def st (de : Env) : IR → M Out
  | .set g e => bnd (ev T C de e) fun d => tryL (asg g d de) fun d1 => ret (.nx d1)
  | .seto i e => bnd (ev T C de e) fun d => if (isFresh d && decide (i < de.length)) = true then ret (.nx (de.set i (some (.own d)))) else fail
  | .par ts es => bnd (evl T C de es) fun ds => tryL (pset ts ds de) fun d1 => ret (.nx d1)
  | .aug i o e => match de[i]? with
    | some (some (.val x)) => bnd (ev T C de e) fun y => fun S => (lift (p2 o (view S x) (view S y)) S).bnd fun z => ret (.nx (de.set i (some (.val z))))
    | _ => fail
  | .xpr e => bnd (ev T C de e) fun _ => ret (.nx de)
  | .rt e => bnd (ev T C de e) fun d => ret (.rtv d false)
  | .rtn => ret (.rtv .non false)
  | .cond c a b => bnd (evt T C de c) fun k => if k = true then sts de a else sts de b
  | .forl g it b => bnd (evi T C de it) fun items => loop items de g fun d1 => sts d1 b
  | .whl c b => wloop W (fun d1 => evt T C d1 c) (fun d1 => sts d1 b) de
  | .brk => ret (.bk de)
  | .cnt => ret (.ct de)
  | .pas => ret (.nx de)
  | .app i e => match de[i]? with
    | some (some (.own (.lst xs))) => bnd (ev T C de e) fun d => if decide (xs.length < sizeLine) then ret (.nx (de.set i (some (.own (.lst (xs ++ [d])))))) else fail
    | _ => fail
  | .bset a k v => bnd (ev T C de v) fun y => bnd (ev T C de a) fun x => bnd (ev T C de k) fun q => bputR de x q y
  | .oset i k v => match de[i]? with
    | some (some (.own (.dct ks vs))) => bnd (ev T C de v) fun y => bnd (ev T C de k) fun q => tryL (dput q y ks vs) fun d => ret (.nx (de.set i (some (.own d))))
    | _ => fail
  | .free i => match de[i]? with
    | some (some (.own d)) => if isFresh d = true then ret (.nx (de.set i (some (.val d)))) else fail
    | _ => fail
  | _ => fail
def sts (de : Env) : IR → M Out
  | .nil => ret (.nx de)
  | .cons h t => bnd (st de h) fun o => match o with
    | .nx d1 => sts d1 t
    | o => ret o
  | _ => fail
end
end

def run1 (T : Tb) (W : Nat) (C : Calls) (fe : Fe) (as : List D) : M (D × Bool) :=
  if as.length = fe.arity then
    bnd (sts T C W (as.map (fun d => some (.val d)) ++ List.replicate (fe.slots - as.length) none) fe.body) fun o => match o with
      | .nx _ => ret (.non, false)
      | .rtv d f => ret (d, f)
      | _ => fail
  else fail
/-- calls, so many deep -/
def callF (T : Tb) (W : Nat) : Nat → Calls
  | 0, _, _ => fail
  | k + 1, f, as => match T.fns[f]? with
    | some fe => run1 T W (callF T W k) fe as
    | none => fail
end Y
/-! Y3: steps, the relation carried along, the readings by meanings. -/
namespace Y
open PySem L2

section
variable {Z : Zc} {H G H' G' H1 G1 H2 G2 : Hp} {io io' io1 io2 : List Addr} {pl pl' : Plc} {S S' : Store} {de : Env} {σ : L2.St}

theorem Held.same {a : Addr} {u : HO} (h : Held H a u) (n : isD u = false) : H a = some u := by
  rcases h with h | ⟨h, _⟩
  · exact h
  · rw [n] at h
    cases h
theorem Held.rd {a : Addr} {u : HO} (h : Held H a u) : Rd H a u := by
  rcases h with h | ⟨_, h⟩
  · exact .inl h
  · exact .inr h
theorem Held.of {a : Addr} {u : HO} (h : H a = some u) : Held H a u := .inl h
theorem Held.ne {a : Addr} {u : HO} (h : Held H a u) : H a ≠ none := by
  rcases h with h | ⟨_, o, h⟩ <;> (rw [h]; exact Option.some_ne_none _)
theorem Step.refl : Step H G io H G io := ⟨fun _ _ h => h, fun a h => .inl h, fun _ _ h _ _ => .inl h, ⟨[], by simp, by simp⟩, fun _ h => h, fun _ _ h => .inl h⟩
theorem Step.none (a : Step H G io H1 G1 io1) {x : Addr} (h : H1 x = none) : H x = none := by
  cases q : H x with
  | none => rfl
  | some o => exact absurd h (a.al x (by rw [q]; exact Option.some_ne_none o))
theorem Step.trans (a : Step H G io H1 G1 io1) (b : Step H1 G1 io1 H2 G2 io2) : Step H G io H2 G2 io2 := by
  obtain ⟨m1, e1, n1⟩ := a.ext
  obtain ⟨m2, e2, n2⟩ := b.ext
  subst e1
  subst e2
  refine ⟨fun x u h => b.gg _ _ (a.gg _ _ h), fun x h => ?_, fun x o h hi ht => ?_, ⟨m1 ++ m2, by simp, fun x hx => ?_⟩, fun x h => b.al x (a.al x h), fun x xs h => ?_⟩
  · rcases b.gn x h with q | q | ⟨xs, q⟩
    · exact a.gn x q
    · exact .inr (.inl (a.none q))
    · rcases a.tp x xs q with r | r
      · exact .inr (.inr ⟨xs, r⟩)
      · exact .inr (.inl r)
  · have nx : x ∉ io ++ m1 := fun hm => by
      rcases List.mem_append.mp hm with z | z
      · exact hi z
      · rw [n1 x z] at h
        cases h
    rcases a.fr x o h hi ht with q | ⟨i, g, od, q⟩
    · rcases b.fr x o q nx ht with q | ⟨i, g, q⟩
      · exact .inl q
      · refine .inr ⟨i, ?_, q⟩
        rcases a.gn x (by rw [g]; exact Option.some_ne_none o) with z | z | ⟨xs, z⟩
        · cases e : G x with
          | none => exact absurd e z
          | some u =>
            have := a.gg x u e
            rw [g] at this
            cases this
            rfl
        · rw [h] at z; cases z
        · rw [h] at z; cases z; cases i
    · rcases b.fr x _ q nx (fun ps e => by cases e) with q | ⟨i', _⟩
      · exact .inr ⟨i, g, od, q⟩
      · cases i'
  · rcases List.mem_append.mp hx with z | z
    · exact n1 x z
    · exact a.none (n2 x z)
  · rcases b.tp x xs h with q | q
    · exact a.tp x xs q
    · exact .inr (a.none q)

theorem ext_get {n : Nat} {a : Addr} (s : Step H G io H' G' io') (h : io[n]? = some a) : io'[n]? = some a := by
  obtain ⟨m, e, _⟩ := s.ext
  subst e
  obtain ⟨hl, e⟩ := List.getElem?_eq_some_iff.mp h
  rw [List.getElem?_append_left hl]
  exact h
theorem sq_l {K : PySem.W.Frag} {a : Addr} {vs : List V} (g : ∀ a u, G a = some u → G' a = some u) (h : SqL K G a vs) : SqL K G' a vs := by
  rcases h with (h | ⟨o, h⟩) | h
  · exact .inl (.inl (g _ _ h))
  · exact .inl (.inr ⟨o, g _ _ h⟩)
  · exact .inr h
theorem sq_t {K : PySem.W.Frag} {a : Addr} {vs : List V} (g : ∀ a u, G a = some u → G' a = some u) (h : SqT K G a vs) : SqT K G' a vs := by
  rcases h with (h | ⟨o, h⟩) | h
  · exact .inl (.inl (g _ _ h))
  · exact .inl (.inr ⟨o, g _ _ h⟩)
  · exact .inr h
mutual
theorem Rep.mono (g : ∀ a u, G a = some u → G' a = some u) (i : ∀ (n : Nat) (a : Addr), io[n]? = some a → io'[n]? = some a) {v : V} {d : D} (r : Rep Z G io v d) : Rep Z G' io' v d := by
  cases r with
  | non => exact .non
  | bl b => exact .bl b
  | int i => exact .int i
  | str s => exact .str s
  | ty n => exact .ty n
  | cls c => exact .cls c
  | box h => exact .box (i _ _ h)
  | tup h r => exact .tup (g _ _ h) (Reps.mono g i r)
  | lst h r => exact .lst (g _ _ h) (Reps.mono g i r)
  | ro h r => exact .ro (h.elim (fun z => .inl (sq_l g z)) fun z => .inr (sq_t g z)) (Reps.mono g i r)
  | dK h r => exact .dK (g _ _ h) (Reps.mono g i r)
  | dT n h r => exact .dT n (g _ _ h) (Reps.mono g i r)
  | ins h hx r => exact .ins (g _ _ h) (g _ _ hx) (Reps.mono g i r)
theorem Reps.mono (g : ∀ a u, G a = some u → G' a = some u) (i : ∀ (n : Nat) (a : Addr), io[n]? = some a → io'[n]? = some a) {v : List V} {d : List D} (r : Reps Z G io v d) : Reps Z G' io' v d := by
  cases r with
  | nil => exact .nil
  | cons h t => exact .cons (Rep.mono g i h) (Reps.mono g i t)
end
theorem Rep.step (s : Step H G io H' G' io') {v : V} {d : D} (r : Rep Z G io v d) : Rep Z G' io' v d := r.mono s.gg fun _ _ h => ext_get s h
theorem Reps.step (s : Step H G io H' G' io') {v : List V} {d : List D} (r : Reps Z G io v d) : Reps Z G' io' v d := r.mono s.gg fun _ _ h => ext_get s h
theorem Reps.length {vs : List V} {ds : List D} (r : Reps Z G io vs ds) : vs.length = ds.length := by
  induction ds generalizing vs with
  | nil => cases r; rfl
  | cons d ds ih =>
    cases r with
    | cons h t => simp [ih t]
theorem Reps.get {vs : List V} {ds : List D} (r : Reps Z G io vs ds) {i : Nat} {d : D} (h : ds[i]? = some d) : ∃ v, vs[i]? = some v ∧ Rep Z G io v d := by
  induction ds generalizing vs i with
  | nil => simp at h
  | cons e ds ih =>
    cases r with
    | cons q t =>
      cases i with
      | zero =>
        simp at h
        subst h
        exact ⟨_, rfl, q⟩
      | succ i =>
        obtain ⟨v, hv, r⟩ := ih t (by simpa using h)
        exact ⟨v, by simpa using hv, r⟩
theorem Reps.getV {vs : List V} {ds : List D} (r : Reps Z G io vs ds) {i : Nat} {v : V} (h : vs[i]? = some v) : ∃ d, ds[i]? = some d ∧ Rep Z G io v d := by
  induction ds generalizing vs i with
  | nil => cases r; simp at h
  | cons e ds ih =>
    cases r with
    | cons q t =>
      cases i with
      | zero =>
        simp at h
        subst h
        exact ⟨_, rfl, q⟩
      | succ i =>
        obtain ⟨d, hd, r⟩ := ih t (by simpa using h)
        exact ⟨d, by simpa using hd, r⟩
theorem Reps.append {vs ws : List V} {ds es : List D} (r : Reps Z G io vs ds) (q : Reps Z G io ws es) : Reps Z G io (vs ++ ws) (ds ++ es) := by
  induction ds generalizing vs with
  | nil => cases r; exact q
  | cons d ds ih =>
    cases r with
    | cons h t => exact .cons h (ih t)
theorem Reps.of_get {vs : List V} {ds : List D} (hl : vs.length = ds.length) (h : ∀ (i : Nat) (v : V) (d : D), vs[i]? = some v → ds[i]? = some d → Rep Z G io v d) : Reps Z G io vs ds := by
  induction ds generalizing vs with
  | nil =>
    cases vs with
    | nil => exact .nil
    | cons v vs => simp at hl
  | cons d ds ih =>
    cases vs with
    | nil => simp at hl
    | cons v vs => exact .cons (h 0 v d rfl rfl) (ih (by simpa using hl) fun i v d a b => h (i + 1) v d (by simpa using a) (by simpa using b))

/-- the known is held -/
theorem Rel.top (R : Rel Z H G io pl S de σ) {v : V} {d : D} (r : Rep Z G io v d) (n : ∀ k, d ≠ .box k) : Top Z H G io v d := by
  cases r with
  | non => exact .non
  | bl b => exact .bl b
  | int i => exact .int i
  | str s => exact .str s
  | ty m => exact .ty m
  | cls c => exact .cls c
  | box h => exact absurd rfl (n _)
  | tup h r => exact .tup ((R.gh _ _ h).same rfl) r
  | lst h r => exact .lst ((R.gh _ _ h).same rfl) r
  | ro h r =>
    refine .ro ?_ r
    rcases h with ((h | ⟨o, h⟩) | h) | ((h | ⟨o, h⟩) | h)
    · exact .inl (.inl (.inl ((R.gh _ _ h).same rfl)))
    · exact .inl (.inl (.inr ⟨o, (R.gh _ _ h).same rfl⟩))
    · exact .inl (.inr h)
    · exact .inr (.inl (.inl ((R.gh _ _ h).same rfl)))
    · exact .inr (.inl (.inr ⟨o, (R.gh _ _ h).same rfl⟩))
    · exact .inr (.inr h)
  | dK h r => exact .dK (R.gh _ _ h) r
  | dT n' h r => exact .dT n' (R.gh _ _ h) r
  | ins h hx r => exact .ins ((R.gh _ _ h).same rfl) r
theorem Own.top {a : Addr} {d : D} (o : Own Z H G io a d) : Top Z H G io (.ref a) d := by
  cases o with
  | lst h r => exact .lst h r
  | dK h r => exact .dK (.inl h) r
  | dT n h r => exact .dT n (.inl h) r
  | ins h hx hg r => exact .ins h r
/-- what a box holds -/
theorem Rel.view (R : Rel Z H G io pl S de σ) {v : V} {d : D} (r : Rep Z G io v d) : ∃ d', Y.view S d = d' ∧ ((∀ k, d ≠ .box k) → d' = d) ∧ (Top Z H G io v d' ∨ ∃ k, d = .box k ∧ S[k]? = none) := by
  refine ⟨_, rfl, fun n => ?_, ?_⟩
  · cases d <;> first | rfl | exact absurd rfl (n _)
  · by_cases hb : ∃ k, d = .box k
    · obtain ⟨k, rfl⟩ := hb
      cases q : S[k]? with
      | none => exact .inr ⟨k, rfl, q⟩
      | some e =>
        obtain ⟨a, ha, _, o⟩ := R.boxes k e q
        cases r with
        | box h =>
          rw [ha] at h
          cases h
          have : Y.view S (D.box k) = e := by
            show S.getD k .non = e
            rw [List.getD_eq_getElem?_getD, q]
            rfl
          rw [this]
          exact .inl o.top
    · have n : ∀ k, d ≠ .box k := fun k e => hb ⟨k, e⟩
      have : Y.view S d = d := by cases d <;> first | rfl | exact absurd rfl (n _)
      rw [this]
      exact .inl (R.top r n)

/-- a new thing becomes known -/
theorem upd_some {a b : Addr} {o : HO} (hn : H a = none) {u : HO} (h : H b = some u) : upd H a o b = some u := by
  rw [upd_ne]
  · exact h
  · rintro rfl
    rw [hn] at h
    cases h
theorem Own.mono (g : ∀ a u, G a = some u → G' a = some u) (i : ∀ (n : Nat) (a : Addr), io[n]? = some a → io'[n]? = some a) {a : Addr} {d : D} (hh : ∀ o, H a = some o → H' a = some o) (hd : ∀ c dx fs, H a = some (.ins c dx fs) → H dx = some (.own a) → H' dx = some (.own a) ∧ (G dx = none → G' dx = none)) (o : Own Z H G io a d) : Own Z H' G' io' a d := by
  cases o with
  | lst h r => exact .lst (hh _ h) (r.mono g i)
  | dK h r => exact .dK (hh _ h) (r.mono g i)
  | dT n h r => exact .dT n (hh _ h) (r.mono g i)
  | ins h hx hg r => exact .ins (hh _ h) (hd _ _ _ h hx).1 ((hd _ _ _ h hx).2 hg) (r.mono g i)
theorem EvR.mono (g : ∀ a u, G a = some u → G' a = some u) (i : ∀ (n : Nat) (a : Addr), io[n]? = some a → io'[n]? = some a) (hp : ∀ a p, (∀ n, p ≠ Pl.box n) → pl a = some p → pl' a = some p) (hh : ∀ a p o, pl a = some p → (∀ n, p ≠ Pl.box n) → H a = some o → H' a = some o)
    (hd : ∀ a dx, H dx = some (.own a) → H' dx = some (.own a) ∧ (G dx = none → G' dx = none)) {k : Nat} {v : V} {e : EV} (r : EvR Z H G io pl k v e) : EvR Z H' G' io' pl' k v e := by
  cases e with
  | val d => exact Rep.mono g i (show Rep Z G io v d from r)
  | own d =>
    obtain ⟨a, e, p, o⟩ := r
    exact ⟨a, e, hp _ _ (fun n => by simp) p, o.mono g i (fun u hu => hh a _ u p (fun n => by simp) hu) fun c dx fs _ h2 => hd _ _ h2⟩
  | obj c ns fs =>
    obtain ⟨a, dx, fvs, e, p, h, hx, hg, hn, hl, hf⟩ := r
    refine ⟨a, dx, fvs, e, hp _ _ (fun n => by simp) p, hh _ _ _ p (fun n => by simp) h, (hd _ _ hx).1, (hd _ _ hx).2 hg, hn, hl, fun j f p' h1 h2 => ?_⟩
    rcases hf j f p' h1 h2 with ⟨z, r⟩ | ⟨z, b, e, q, o⟩
    · exact .inl ⟨z, r.mono g i⟩
    · exact .inr ⟨z, b, e, hp _ _ (fun n => by simp) q, o.mono g i (fun u hu => hh b _ u q (fun n => by simp) hu) fun c dx fs _ h2 => hd _ _ h2⟩
theorem Own.keep (s : Step H G io H' G' io') {a : Addr} {d : D} (hk : ∀ u, H a = some u → (∀ ps, u ≠ .tbl ps) → H' a = some u) (ownK : ∀ a dx, H dx = some (.own a) → H' dx = some (.own a) ∧ (G dx = none → G' dx = none)) (o : Own Z H G io a d) : Own Z H' G' io' a d := by
  cases o with
  | lst h r => exact .lst (hk _ h (by simp)) (r.step s)
  | dK h r => exact .dK (hk _ h (by simp)) (r.step s)
  | dT n h r => exact .dT n (hk _ h (by simp)) (r.step s)
  | ins h hx hg r => exact .ins (hk _ h (by simp)) (ownK _ _ hx).1 ((ownK _ _ hx).2 hg) (r.step s)
theorem Own.notOwn {a x : Addr} {d : D} (o : Own Z H G io a d) (h : H a = some (.own x)) : False := by
  cases o with
  | lst h' _ => rw [h] at h'; cases h'
  | dK h' _ => rw [h] at h'; cases h'
  | dT _ h' _ => rw [h] at h'; cases h'
  | ins h' _ _ _ => rw [h] at h'; cases h'
/-- behind a step of a callee, of a comprehension: the slots are as they were -/
theorem Rel.back (R : Rel Z H G io pl S de σ) (s : Step H G io H' G' io') {de' : Env} {σ' : L2.St} (R' : Rel Z H' G' io' pl' S' de' σ') : ∃ pl2, Rel Z H' G' io' pl2 S' de σ ∧ ∀ a p, (∀ n, p ≠ Pl.box n) → (pl2 a = some p ↔ pl a = some p) := by
  have nio : ∀ a p, pl a = some p → (∀ n, p ≠ Pl.box n) → a ∉ io := fun a p h hn hm => by
    obtain ⟨n, hl, e⟩ := List.mem_iff_getElem.mp hm
    have h2 : io[n]? = some a := by rw [List.getElem?_eq_getElem hl, e]
    obtain ⟨b, hb, hpb, _⟩ := R.boxes n (S[n]'(by rw [← R.bl]; exact hl)) (List.getElem?_eq_getElem _)
    rw [h2] at hb
    cases hb
    rw [h] at hpb
    cases hpb
    exact hn n rfl
  have kp : ∀ a p o, pl a = some p → (∀ n, p ≠ Pl.box n) → H a = some o → (∀ ps, o ≠ .tbl ps) → H' a = some o := fun a p o h hn ho ht => by
    rcases s.fr a o ho (nio a p h hn) ht with q | ⟨_, g, _⟩
    · exact q
    · rw [(R.plg a (by rw [h]; exact Option.some_ne_none _)).1] at g
      cases g
  have gno : ∀ a p, pl a = some p → (∀ n, p ≠ Pl.box n) → G' a = none := fun a p h hn => by
    obtain ⟨h1, h2, h3⟩ := R.plg a (by rw [h]; exact Option.some_ne_none _)
    cases q : G' a with
    | none => rfl
    | some o =>
      rcases s.gn a (by rw [q]; exact Option.some_ne_none o) with z | z | ⟨xs, z⟩
      · exact absurd h1 z
      · exact absurd z h2
      · exact absurd z (h3 xs)
  have own : ∀ a dx, H dx = some (.own a) → dx ∉ io := fun a dx h hm => by
    obtain ⟨n, hl, e⟩ := List.mem_iff_getElem.mp hm
    have h2 : io[n]? = some dx := by rw [List.getElem?_eq_getElem hl, e]
    obtain ⟨b, hb, _, o⟩ := R.boxes n (S[n]'(by rw [← R.bl]; exact hl)) (List.getElem?_eq_getElem _)
    rw [h2] at hb
    cases hb
    exact o.notOwn h
  have ownK : ∀ a dx, H dx = some (.own a) → H' dx = some (.own a) ∧ (G dx = none → G' dx = none) := fun a dx h => by
    refine ⟨(s.fr dx _ h (own a dx h) (fun ps e => by cases e)).elim id fun q => absurd q.1 (by simp [isD]), fun hg => ?_⟩
    cases q : G' dx with
    | none => rfl
    | some o =>
      rcases s.gn dx (by rw [q]; exact Option.some_ne_none o) with z | z | ⟨xs, z⟩
      · exact absurd hg z
      · rw [h] at z; cases z
      · rw [h] at z; cases z
  let p2 : Plc := fun a => match pl a with
    | some (.slot i) => some (.slot i)
    | some (.fld i) => some (.fld i)
    | _ => match pl' a with
      | some (.box n) => some (.box n)
      | _ => none
  have p2s : ∀ a p, (∀ n, p ≠ Pl.box n) → pl a = some p → p2 a = some p := fun a p hn h => by
    show (match pl a with | some (.slot i) => some (Pl.slot i) | some (.fld i) => some (.fld i) | _ => _) = _
    rw [h]
    cases p with
    | slot i => rfl
    | fld i => rfl
    | box n => exact absurd rfl (hn n)
  have notbl : ∀ a p o, pl a = some p → (∀ n, p ≠ Pl.box n) → H a = some o → H' a = some o ∨ ∃ ps, o = .tbl ps := fun a p o h hn ho => by
    by_cases ht : ∃ ps, o = .tbl ps
    · exact .inr ht
    · exact .inl (kp a p o h hn ho fun ps e => ht ⟨ps, e⟩)
  have p2i : ∀ a p, (∀ n, p ≠ Pl.box n) → (p2 a = some p ↔ pl a = some p) := fun a p hn => by
    refine ⟨fun h => ?_, p2s a p hn⟩
    have h : (match pl a with | some (.slot i) => some (Pl.slot i) | some (.fld i) => some (.fld i) | _ => match pl' a with | some (.box n) => some (.box n) | _ => none) = some p := h
    split at h
    · rename_i q; rw [q]; exact h
    · rename_i q; rw [q]; exact h
    · split at h
      · cases h; exact absurd rfl (hn _)
      · cases h
  refine ⟨p2, ⟨R'.gh, R.len, fun k e he => ?_, R'.bl, fun n d hd => ?_, fun a ha => ?_⟩, p2i⟩
  · obtain ⟨v, hv, r⟩ := R.slots k e he
    refine ⟨v, hv, ?_⟩
    cases e with
    | val d => exact Rep.step s (show Rep Z G io v d from r)
    | own d =>
      obtain ⟨a, e, p, o⟩ := r
      refine ⟨a, e, p2s _ _ (fun n => by simp) p, ?_⟩
      have hk : ∀ u, H a = some u → (∀ ps, u ≠ .tbl ps) → H' a = some u := fun u hu ht => kp a _ u p (fun n => by simp) hu ht
      exact o.keep s hk ownK
    | obj c ns fs =>
      obtain ⟨a, dx, fvs, e, p, h, hx, hg, hn, hl, hf⟩ := r
      refine ⟨a, dx, fvs, e, p2s _ _ (fun n => by simp) p, kp a _ _ p (fun n => by simp) h (by simp), (ownK _ _ hx).1, (ownK _ _ hx).2 hg, hn, hl, fun j f q h1 h2 => ?_⟩
      rcases hf j f q h1 h2 with ⟨z, r⟩ | ⟨z, b, e, q', o⟩
      · exact .inl ⟨z, r.step s⟩
      · refine .inr ⟨z, b, e, p2s _ _ (fun n => by simp) q', ?_⟩
        have hk : ∀ u, H b = some u → (∀ ps, u ≠ .tbl ps) → H' b = some u := fun u hu ht => kp b _ u q' (fun n => by simp) hu ht
        exact o.keep s hk ownK
  · obtain ⟨a, ha, hp, o⟩ := R'.boxes n d hd
    refine ⟨a, ha, ?_, o⟩
    have hnot : ∀ p, pl a = some p → ∃ m, p = .box m := fun p h => by
      cases p with
      | box m => exact ⟨m, rfl⟩
      | slot i =>
        exfalso
        have hne : a ∉ io := nio a _ h fun n => by simp
        obtain ⟨m, e, hm⟩ := s.ext
        have : a ∈ io' := List.mem_of_getElem? ha
        rw [e] at this
        rcases List.mem_append.mp this with z | z
        · exact hne z
        · exact (R.plg a (by rw [h]; exact Option.some_ne_none _)).2.1 (hm a z)
      | fld i =>
        exfalso
        have hne : a ∉ io := nio a _ h fun n => by simp
        obtain ⟨m, e, hm⟩ := s.ext
        have : a ∈ io' := List.mem_of_getElem? ha
        rw [e] at this
        rcases List.mem_append.mp this with z | z
        · exact hne z
        · exact (R.plg a (by rw [h]; exact Option.some_ne_none _)).2.1 (hm a z)
    show (match pl a with | some (.slot i) => some (Pl.slot i) | some (.fld i) => some (.fld i) | _ => match pl' a with | some (.box n) => some (.box n) | _ => none) = _
    rw [hp]
    cases q : pl a with
    | none => rfl
    | some p =>
      obtain ⟨m, rfl⟩ := hnot p q
      rfl
  · have ha : (match pl a with | some (.slot i) => some (Pl.slot i) | some (.fld i) => some (.fld i) | _ => match pl' a with | some (.box n) => some (.box n) | _ => none) ≠ none := ha
    have old : ∀ p, pl a = some p → (∀ n, p ≠ Pl.box n) → G' a = none ∧ H' a ≠ none ∧ ∀ xs, H' a ≠ some (.tup xs) := fun p h hn => by
      obtain ⟨h1, h2, h3⟩ := R.plg a (by rw [h]; exact Option.some_ne_none _)
      refine ⟨gno a p h hn, s.al a h2, fun xs e => ?_⟩
      rcases s.tp a xs e with z | z
      · exact h3 xs z
      · exact h2 z
    have new : pl' a ≠ none → G' a = none ∧ H' a ≠ none ∧ ∀ xs, H' a ≠ some (.tup xs) := fun h => R'.plg a h
    cases q : pl a with
    | none =>
      rw [q] at ha
      refine new fun e => ?_
      rw [e] at ha
      exact ha rfl
    | some p =>
      cases p with
      | slot i => exact old _ q fun n => by simp
      | fld i => exact old _ q fun n => by simp
      | box n =>
        rw [q] at ha
        refine new fun e => ?_
        rw [e] at ha
        exact ha rfl
end
end Y
/-! Y4: readings by meanings; names, constants, numbers. -/
namespace Y
open PySem L2

/-- an exception's object, by its class and fields -/
def ExcR (Z : Zc) (H G : Hp) (io : List Addr) (cls : Value) (dd : Option Addr) (c : Nat) (fs : List D) : Prop :=
  cls = .ref (Z.ca c) ∧ ((fs = [] ∧ dd = none) ∨ ∃ d fvs, dd = some d ∧ H d = some (.xd fvs) ∧ Reps Z G io (fvs.map (·.2)) fs)

def Fin {α : Type} (Z : Zc) (H G : Hp) (io : List Addr) (de : Env) (σ : L2.St) (W : WX) (r : Res α) (K : α → Store → Prop) : Prop := match r with
  | .ok a S => K a S
  | .exc c fs S => ∀ H' G' io' pl' cls dd, Step H G io H' G' io' → Rel Z H' G' io' pl' S de σ → ExcR Z H' G' io' cls dd c fs → W cls dd σ H'
  | .bad => False

section
variable {α β : Type} {Z : Zc} {H G H' G' H1 G1 : Hp} {io io' io1 : List Addr} {pl pl' pl1 : Plc} {S S' S1 : Store} {de : Env} {σ : L2.St} {W : WX}
theorem Fin.bnd {r : Res α} {f : α → M β} {K : β → Store → Prop} (h : Fin Z H G io de σ W (r.bnd f) K) : Fin Z H G io de σ W r fun a S => Fin Z H G io de σ W (f a S) K := by
  cases r with
  | ok a S => exact h
  | exc c fs S => exact h
  | bad => exact h
theorem Fin.at {r : Res α} {K K' : α → Store → Prop} (h : Fin Z H G io de σ W r K) (s : Step H G io H1 G1 io1) (k : ∀ a S, K a S → K' a S) : Fin Z H1 G1 io1 de σ W r K' := by
  cases r with
  | ok a S => exact k _ _ h
  | exc c fs S => exact fun H' G' io' pl' cls dd s2 R e => h H' G' io' pl' cls dd (s.trans s2) R e
  | bad => exact h
theorem Fin.imp {r : Res α} {K K' : α → Store → Prop} (h : Fin Z H G io de σ W r K) (k : ∀ a S, K a S → K' a S) : Fin Z H G io de σ W r K' := h.at Step.refl k
theorem Fin.lift {o : Option α} {K : α → Store → Prop} (h : Fin Z H G io de σ W (Y.lift o S) K) : ∃ a, o = some a ∧ K a S := by
  cases o with
  | none => exact h.elim
  | some a => exact ⟨a, rfl, h⟩
theorem Fin.tryL {o : Option α} {f : α → M β} {K : β → Store → Prop} (h : Fin Z H G io de σ W (Y.tryL o f S) K) : ∃ a, o = some a ∧ Fin Z H G io de σ W (f a S) K := by
  cases o with
  | none => exact h.elim
  | some a => exact ⟨a, rfl, h⟩
end

section
variable (Z : Zc) (T : Tb) (C : Calls) (W : WX)
/-- an expression's reading -/
def tE (ir : IR) : TE := fun σ H Q => ∃ G io pl S de, Rel Z H G io pl S de σ ∧ Fin Z H G io de σ W (ev T C de ir S) fun d S' => ∀ H' G' io' pl' v, Step H G io H' G' io' → Rel Z H' G' io' pl' S' de σ → Rep Z G' io' v d → Q v H'
/-- an operand: a value, or a container of one's own -/
def Opd (G : Hp) (io : List Addr) (de : Env) (σ : L2.St) (v : V) (d : D) : Prop := Rep Z G io v d ∨ ∃ i : Nat, de[i]? = some (some (EV.own d)) ∧ σ[i]? = some (some v)
def tO (ir : IR) : TE := fun σ H Q => ∃ G io pl S de, Rel Z H G io pl S de σ ∧ Fin Z H G io de σ W (ev T C de ir S) fun d S' => ∀ H' G' io' pl' v, Step H G io H' G' io' → Rel Z H' G' io' pl' S' de σ → Opd Z G' io' de σ v d → Q v H'
def tT (ir : IR) : TT := fun σ H Q => ∃ G io pl S de, Rel Z H G io pl S de σ ∧ Fin Z H G io de σ W (evt T C de ir S) fun k S' => ∀ H' G' io' pl', Step H G io H' G' io' → Rel Z H' G' io' pl' S' de σ → Q k H'
/-- an argument list's -/
def tL (ir : IR) : TA := fun σ H Q => ∃ G io pl S de, Rel Z H G io pl S de σ ∧ Fin Z H G io de σ W (evl T C de ir S) fun ds S' => ∀ H' G' io' pl' vs, Step H G io H' G' io' → Rel Z H' G' io' pl' S' de σ → Reps Z G' io' vs ds → Q vs H'
inductive Opds (G : Hp) (io : List Addr) (de : Env) (σ : L2.St) : List V → List D → Prop where
  | nil : Opds G io de σ [] []
  | cons {v : V} {d : D} {vs : List V} {ds : List D} (h : Opd Z G io de σ v d) (t : Opds G io de σ vs ds) : Opds G io de σ (v :: vs) (d :: ds)
def tLO (ir : IR) : TA := fun σ H Q => ∃ G io pl S de, Rel Z H G io pl S de σ ∧ Fin Z H G io de σ W (evl T C de ir S) fun ds S' => ∀ H' G' io' pl' vs, Step H G io H' G' io' → Rel Z H' G' io' pl' S' de σ → Opds Z G' io' de σ vs ds → Q vs H'
/-- an optional int (a slice's part, pop's) -/
def tP (ir : IR) : TO := fun σ H Q => ∃ G io pl S de, Rel Z H G io pl S de σ ∧ Fin Z H G io de σ W (evo T C de ir S) fun d S' => ∀ H' G' io' pl', Step H G io H' G' io' → Rel Z H' G' io' pl' S' de σ → Q d H'
end

section
variable {Z : Zc} {T : Tb} {C : Calls} {W : WX} {X : Cx} {H G H' G' : Hp} {io io' : List Addr} {pl pl' : Plc} {S S' : Store} {de : Env} {σ : L2.St}
theorem Opd.step (s : Step H G io H' G' io') {v : V} {d : D} (o : Opd Z G io de σ v d) : Opd Z G' io' de σ v d := o.elim (fun r => .inl (r.step s)) .inr
theorem Opds.step (s : Step H G io H' G' io') {vs : List V} {ds : List D} (o : Opds Z G io de σ vs ds) : Opds Z G' io' de σ vs ds := by
  induction o with
  | nil => exact .nil
  | cons h t ih => exact .cons (h.step s) ih
theorem _root_.L2.PE.wk {X : Cx} {e : Expr} {t t' : TE} (h : PE X e t) (w : ∀ σ H Q, t' σ H Q → t σ H Q) : PE X e t' := ⟨fun pn s σ H Q J q => h.run pn s σ H Q J (w σ H Q q)⟩
theorem _root_.L2.PT.wk {X : Cx} {e : Expr} {t t' : TT} (h : PT X e t) (w : ∀ σ H Q, t' σ H Q → t σ H Q) : PT X e t' := ⟨fun pn s σ H Q J q => h.run pn s σ H Q J (w σ H Q q)⟩
theorem _root_.L2.PW.wk {X : Cx} {e : Expr} {t t' : TT} (h : PW X e t) (w : ∀ σ H Q, t' σ H Q → t σ H Q) : PW X e t' := ⟨fun wh pn s σ H Q J q => h.run wh pn s σ H Q J (w σ H Q q)⟩
theorem _root_.L2.PA.wk {X : Cx} {es : List Expr} {t t' : TA} (h : PA X es t) (w : ∀ σ H Q, t' σ H Q → t σ H Q) : PA X es t' := ⟨fun po pn s σ H Q J q => h.run po pn s σ H Q J (w σ H Q q)⟩
theorem tO_tE {ir : IR} {σ : L2.St} {H : Hp} {Q : VK} (h : tO Z T C W ir σ H Q) : tE Z T C W ir σ H Q := by
  obtain ⟨G, io, pl, S, de, R, h⟩ := h
  exact ⟨G, io, pl, S, de, R, h.imp fun d S k H' G' io' pl' v s R' r => k H' G' io' pl' v s R' (.inl r)⟩
/-- an operand's top as it stands -/
theorem Opd.top (R : Rel Z H G io pl S de σ) {v : V} {d : D} (o : Opd Z G io de σ v d) : Top Z H G io v (view S d) ∨ ∃ k, d = .box k ∧ S[k]? = none := by
  rcases o with r | ⟨i, hd, hv⟩
  · obtain ⟨d', e, _, h⟩ := R.view r
    rw [e]
    exact h
  · obtain ⟨v', hv', a, e, _, o⟩ := R.slots i _ hd
    rw [hv] at hv'
    cases hv'
    subst e
    refine .inl ?_
    cases o with
    | lst h r => exact .lst h r
    | dK h r => exact .dK (.inl h) r
    | dT n h r => exact .dT n (.inl h) r
    | ins h hx hg r => exact .ins h r
theorem view_gone {k : Nat} (h : S[k]? = none) : view S (.box k) = .non := by
  show S.getD k .non = .non
  rw [List.getD_eq_getElem?_getD, h]
  rfl

/-! ### names, constants -/
theorem s_var {i : Nat} {e : Expr} (h : PE X e (tVar i)) : PE X e (tE Z T C W (.var i)) := h.wk fun σ H Q q => by
  obtain ⟨G, io, pl, S, de, R, h⟩ := q
  have h' : Fin Z H G io de σ W ((match de[i]? with | some (some (.val d)) => ret d | _ => fail : M D) S) _ := h
  cases hd : de[i]? with
  | none => rw [hd] at h'; exact h'.elim
  | some o =>
    rw [hd] at h'
    cases o with
    | none => exact h'.elim
    | some e =>
      cases e with
      | val d =>
        obtain ⟨v, hv, r⟩ := R.slots i _ hd
        exact ⟨v, hv, h' H G io pl v Step.refl R r⟩
      | own d => exact h'.elim
      | obj c ns fs => exact h'.elim
theorem s_own {i : Nat} {e : Expr} (h : PE X e (tVar i)) : PE X e (tO Z T C W (.own i)) := h.wk fun σ H Q q => by
  obtain ⟨G, io, pl, S, de, R, h⟩ := q
  have h' : Fin Z H G io de σ W ((match de[i]? with | some (some (.own d)) => ret d | _ => fail : M D) S) _ := h
  cases hd : de[i]? with
  | none => rw [hd] at h'; exact h'.elim
  | some o =>
    rw [hd] at h'
    cases o with
    | none => exact h'.elim
    | some e =>
      cases e with
      | own d =>
        obtain ⟨v, hv, r⟩ := R.slots i _ hd
        exact ⟨v, hv, h' H G io pl v Step.refl R (.inr ⟨i, hd, hv⟩)⟩
      | val d => exact h'.elim
      | obj c ns fs => exact h'.elim
theorem s_const {ir : IR} {d : D} {v : V} {e : Expr} (h : PE X e (tC v)) (he : ∀ de, ev T C de ir = ret d) (r : ∀ G io, Rep Z G io v d) : PE X e (tE Z T C W ir) := h.wk fun σ H Q q => by
  obtain ⟨G, io, pl, S, de, R, h⟩ := q
  rw [he] at h
  exact h H G io pl v Step.refl R (r G io)

/-! ### one operand -/
theorem s_neg {a : IR} {e : Expr} {pos : Pos} (ha : PE X e (tE Z T C W a)) : PE X (.UnaryOp .USub e pos) (tE Z T C W (.neg a)) := (pe_un un_neg ha).wk fun σ H Q q => by
  obtain ⟨G, io, pl, S, de, R, h⟩ := q
  refine ⟨G, io, pl, S, de, R, (Fin.bnd (show Fin Z H G io de σ W ((ev T C de a S).bnd _) _ from h)).imp fun x S1 k H1 G1 io1 pl1 v s1 R1 r => ?_⟩
  cases r <;> first | exact (k : False).elim | skip
  exact ⟨_, rfl, k H1 G1 io1 pl1 _ s1 R1 (.int _)⟩
theorem s_not {a : IR} {e : Expr} {pos : Pos} (ha : PE X e (tE Z T C W a)) : PE X (.UnaryOp .Not e pos) (tE Z T C W (.inot a)) := (pe_not ha).wk fun σ H Q q => by
  obtain ⟨G, io, pl, S, de, R, h⟩ := q
  refine ⟨G, io, pl, S, de, R, (Fin.bnd (show Fin Z H G io de σ W ((ev T C de a S).bnd _) _ from h)).imp fun x S1 k H1 G1 io1 pl1 v s1 R1 r => ?_⟩
  cases r <;> first | exact (k : False).elim | skip
  exact ⟨_, rfl, k H1 G1 io1 pl1 _ s1 R1 (.bl _)⟩
theorem s_and {a b : IR} {e f : Expr} {rest : List Expr} {pos : Pos} (ha : PE X e (tE Z T C W a)) (hb : PE X (.BoolOp .And (f :: rest) pos) (tE Z T C W b)) : PE X (.BoolOp .And (e :: f :: rest) pos) (tE Z T C W (.iand a b)) := (pe_and ha hb).wk fun σ H Q q => by
  obtain ⟨G, io, pl, S, de, R, h⟩ := q
  refine ⟨G, io, pl, S, de, R, (Fin.bnd (show Fin Z H G io de σ W ((ev T C de a S).bnd _) _ from h)).imp fun x S1 k H1 G1 io1 pl1 v s1 R1 r => ?_⟩
  cases r <;> first | exact (k : False).elim | skip
  rename_i b'
  refine ⟨b', rfl, ?_⟩
  cases b' with
  | true => exact ⟨G1, io1, pl1, S1, de, R1, Fin.at k s1 fun d S2 k2 H2 G2 io2 pl2 v2 s2 R2 r2 => k2 H2 G2 io2 pl2 v2 (s1.trans s2) R2 r2⟩
  | false => exact k H1 G1 io1 pl1 _ s1 R1 (.bl _)
theorem s_or {a b : IR} {e f : Expr} {rest : List Expr} {pos : Pos} (ha : PE X e (tE Z T C W a)) (hb : PE X (.BoolOp .Or (f :: rest) pos) (tE Z T C W b)) : PE X (.BoolOp .Or (e :: f :: rest) pos) (tE Z T C W (.ior a b)) := (pe_or ha hb).wk fun σ H Q q => by
  obtain ⟨G, io, pl, S, de, R, h⟩ := q
  refine ⟨G, io, pl, S, de, R, (Fin.bnd (show Fin Z H G io de σ W ((ev T C de a S).bnd _) _ from h)).imp fun x S1 k H1 G1 io1 pl1 v s1 R1 r => ?_⟩
  cases r <;> first | exact (k : False).elim | skip
  rename_i b'
  refine ⟨b', rfl, ?_⟩
  cases b' with
  | false => exact ⟨G1, io1, pl1, S1, de, R1, Fin.at k s1 fun d S2 k2 H2 G2 io2 pl2 v2 s2 R2 r2 => k2 H2 G2 io2 pl2 v2 (s1.trans s2) R2 r2⟩
  | true => exact k H1 G1 io1 pl1 _ s1 R1 (.bl _)
theorem s_ife {c a b : IR} {e f g : Expr} {pos : Pos} (hc : PT X e (tT Z T C W c)) (ha : PE X f (tE Z T C W a)) (hb : PE X g (tE Z T C W b)) : PE X (.IfExp e f g pos) (tE Z T C W (.ife c a b)) := (pe_ifExp hc ha hb).wk fun σ H Q q => by
  obtain ⟨G, io, pl, S, de, R, h⟩ := q
  refine ⟨G, io, pl, S, de, R, (Fin.bnd (show Fin Z H G io de σ W ((evt T C de c S).bnd _) _ from h)).imp fun x S1 k H1 G1 io1 pl1 s1 R1 => ?_⟩
  cases x with
  | true => exact ⟨G1, io1, pl1, S1, de, R1, Fin.at k s1 fun d S2 k2 H2 G2 io2 pl2 v2 s2 R2 r2 => k2 H2 G2 io2 pl2 v2 (s1.trans s2) R2 r2⟩
  | false => exact ⟨G1, io1, pl1, S1, de, R1, Fin.at k s1 fun d S2 k2 H2 G2 io2 pl2 v2 s2 R2 r2 => k2 H2 G2 io2 pl2 v2 (s1.trans s2) R2 r2⟩

/-! ### tests -/
theorem s_tand {a b : IR} {e f : Expr} {rest : List Expr} {pos : Pos} (ha : PT X e (tT Z T C W a)) (hb : PW X (.BoolOp .And (f :: rest) pos) (tT Z T C W b)) : PW X (.BoolOp .And (e :: f :: rest) pos) (tT Z T C W (.tand a b)) := (pw_and ha hb).wk fun σ H Q q => by
  obtain ⟨G, io, pl, S, de, R, h⟩ := q
  refine ⟨G, io, pl, S, de, R, (Fin.bnd (show Fin Z H G io de σ W ((evt T C de a S).bnd _) _ from h)).imp fun x S1 k H1 G1 io1 pl1 s1 R1 => ?_⟩
  cases x with
  | true => exact ⟨G1, io1, pl1, S1, de, R1, Fin.at k s1 fun d S2 k2 H2 G2 io2 pl2 s2 R2 => k2 H2 G2 io2 pl2 (s1.trans s2) R2⟩
  | false => exact k H1 G1 io1 pl1 s1 R1
theorem s_tor {a b : IR} {e f : Expr} {rest : List Expr} {pos : Pos} (ha : PT X e (tT Z T C W a)) (hb : PW X (.BoolOp .Or (f :: rest) pos) (tT Z T C W b)) : PW X (.BoolOp .Or (e :: f :: rest) pos) (tT Z T C W (.tor a b)) := (pw_or ha hb).wk fun σ H Q q => by
  obtain ⟨G, io, pl, S, de, R, h⟩ := q
  refine ⟨G, io, pl, S, de, R, (Fin.bnd (show Fin Z H G io de σ W ((evt T C de a S).bnd _) _ from h)).imp fun x S1 k H1 G1 io1 pl1 s1 R1 => ?_⟩
  cases x with
  | false => exact ⟨G1, io1, pl1, S1, de, R1, Fin.at k s1 fun d S2 k2 H2 G2 io2 pl2 s2 R2 => k2 H2 G2 io2 pl2 (s1.trans s2) R2⟩
  | true => exact k H1 G1 io1 pl1 s1 R1
theorem s_tnot {a : IR} {e : Expr} {pos : Pos} (ha : PT X e (tT Z T C W a)) : PT X (.UnaryOp .Not e pos) (tT Z T C W (.tnot a)) := (pt_not ha).wk fun σ H Q q => by
  obtain ⟨G, io, pl, S, de, R, h⟩ := q
  exact ⟨G, io, pl, S, de, R, (Fin.bnd (show Fin Z H G io de σ W ((evt T C de a S).bnd _) _ from h)).imp fun x S1 k H1 G1 io1 pl1 s1 R1 => k H1 G1 io1 pl1 s1 R1⟩
/-- by a value that is a bool; hv: the layer's rule -/
theorem s_tb {a : IR} {e : Expr} (hv : PT X e (tB (tE Z T C W a))) : PT X e (tT Z T C W (.tb a)) := hv.wk fun σ H Q q => by
  obtain ⟨G, io, pl, S, de, R, h⟩ := q
  refine ⟨G, io, pl, S, de, R, (Fin.bnd (show Fin Z H G io de σ W ((ev T C de a S).bnd _) _ from h)).imp fun x S1 k H1 G1 io1 pl1 v s1 R1 r => ?_⟩
  cases r <;> first | exact (k : False).elim | skip
  exact ⟨_, rfl, k H1 G1 io1 pl1 s1 R1⟩
end
end Y
/-! Y5: operators. -/
namespace Y
open PySem L2

section
variable {Z : Zc} {H G H' G' : Hp} {io io' : List Addr} {pl pl' : Plc} {S S' : Store} {de : Env} {σ : L2.St}

/-- a new object is laid, and known -/
theorem Rel.new (R : Rel Z H G io pl S de σ) {p : Addr} (hp : H p = none) (o : HO) : Rel Z (upd H p o) (upd G p o) io pl S de σ ∧ Step H G io (upd H p o) (upd G p o) io := by
  have gp : G p = none := by
    cases q : G p with
    | none => rfl
    | some u => exact absurd hp (R.gh p u q).ne
  have plp : pl p = none := by
    cases q : pl p with
    | none => rfl
    | some u => exact absurd hp (R.plg p (by rw [q]; exact Option.some_ne_none _)).2.1
  have gg : ∀ a u, G a = some u → upd G p o a = some u := fun a u h => upd_some gp h
  have hh : ∀ a u, H a = some u → upd H p o a = some u := fun a u h => upd_some hp h
  have ne : ∀ a, pl a ≠ none → a ≠ p := fun a h e => h (by rw [e]; exact plp)
  have hne : ∀ a u, H a = some u → a ≠ p := fun a u h e => by
    rw [e, hp] at h
    cases h
  refine ⟨⟨fun a u h => ?_, R.len, fun k e he => ?_, R.bl, fun n d hd => ?_, fun a ha => ?_⟩, ⟨gg, fun a h => ?_, fun a u h _ _ => .inl (hh a u h), ⟨[], by simp, by simp⟩, fun a h => ?_, fun a xs h => ?_⟩⟩
  · by_cases e : a = p
    · subst e
      rw [upd_same] at h
      cases h
      exact .inl upd_same
    · rw [upd_ne e] at h
      rcases R.gh a u h with q | ⟨i, o', q⟩
      · exact .inl (hh _ _ q)
      · exact .inr ⟨i, o', hh _ _ q⟩
  · obtain ⟨v, hv, r⟩ := R.slots k e he
    refine ⟨v, hv, r.mono gg (fun _ _ h => h) (fun _ _ _ h => h) (fun a _ u _ _ h => hh a u h) fun a dx h => ⟨hh _ _ h, fun g => ?_⟩⟩
    rw [upd_ne (hne _ _ h)]
    exact g
  · obtain ⟨a, ha, hpa, ow⟩ := R.boxes n d hd
    refine ⟨a, ha, hpa, ow.mono gg (fun _ _ h => h) (fun u h => hh a u h) fun c dx fs _ h => ⟨hh _ _ h, fun g => ?_⟩⟩
    rw [upd_ne (hne _ _ h)]
    exact g
  · obtain ⟨h1, h2, h3⟩ := R.plg a ha
    rw [upd_ne (ne a ha), upd_ne (ne a ha)]
    exact ⟨h1, h2, h3⟩
  · by_cases e : a = p
    · subst e
      exact .inr (.inl hp)
    · rw [upd_ne e] at h
      exact .inl h
  · by_cases e : a = p
    · subst e
      rw [upd_same]
      exact Option.some_ne_none _
    · rw [upd_ne e]
      exact h
  · by_cases e : a = p
    · subst e
      exact .inr hp
    · rw [upd_ne e] at h
      exact .inl h

/-- what is wanted behind an operation on known things: nothing but new things -/
def Go (Z : Zc) (H G : Hp) (io : List Addr) (S : Store) (de : Env) (σ : L2.St) (d : D) (Q : VK) : Prop := ∀ H' G' io' pl' v, Step H G io H' G' io' → Rel Z H' G' io' pl' S de σ → Rep Z G' io' v d → Q v H'
theorem Go.here {d : D} {Q : VK} {v : V} (g : Go Z H G io S de σ d Q) (R : Rel Z H G io pl S de σ) (r : Rep Z G io v d) : Q v H := g H G io pl v .refl R r
theorem Go.lst {ds : List D} {vs : List V} {Q : VK} (g : Go Z H G io S de σ (.lst ds) Q) (R : Rel Z H G io pl S de σ) (r : Reps Z G io vs ds) {p : Addr} (hp : H p = none) : Q (.ref p) (upd H p (.lst vs)) := by
  obtain ⟨R', s⟩ := R.new hp (.lst vs)
  exact g _ _ _ _ _ s R' (.lst upd_same (r.step s))
theorem Go.tup {ds : List D} {vs : List V} {Q : VK} (g : Go Z H G io S de σ (.tup ds) Q) (R : Rel Z H G io pl S de σ) (r : Reps Z G io vs ds) {p : Addr} (hp : H p = none) : Q (.ref p) (upd H p (.tup vs)) := by
  obtain ⟨R', s⟩ := R.new hp (.tup vs)
  exact g _ _ _ _ _ s R' (.tup upd_same (r.step s))

/-- a tuple that is read at its top is known, or becomes so -/
theorem Rel.seen (R : Rel Z H G io pl S de σ) {a : Addr} {vs : List V} (h : H a = some (.tup vs)) : ∃ G', Rel Z H G' io pl S de σ ∧ Step H G io H G' io ∧ G' a = some (.tup vs) := by
  have pn : pl a = none := by
    cases q : pl a with
    | none => rfl
    | some u => exact absurd h ((R.plg a (by rw [q]; exact Option.some_ne_none _)).2.2 vs)
  have ne : ∀ b, pl b ≠ none → b ≠ a := fun b hb e => hb (by rw [e]; exact pn)
  have gg : ∀ b u, G b = some u → upd G a (.tup vs) b = some u := fun b u hb => by
    by_cases e : b = a
    · subst e
      have := R.gh b u hb
      rcases this with q | ⟨i, o, q⟩
      · rw [h] at q
        cases q
        exact upd_same
      · rw [h] at q
        cases q
    · rw [upd_ne e]
      exact hb
  have hne : ∀ b x, H b = some (.own x) → b ≠ a := fun b x hb e => by
    rw [e, h] at hb
    cases hb
  refine ⟨upd G a (.tup vs), ⟨fun b u hb => ?_, R.len, fun k e he => ?_, R.bl, fun n d hd => ?_, fun b hb => ?_⟩, ⟨gg, fun b hb => ?_, fun _ _ hb _ _ => .inl hb, ⟨[], by simp, by simp⟩, fun _ hb => hb, fun _ _ hb => .inl hb⟩, upd_same⟩
  · by_cases e : b = a
    · subst e
      rw [upd_same] at hb
      cases hb
      exact .inl h
    · rw [upd_ne e] at hb
      exact R.gh b u hb
  · obtain ⟨v, hv, r⟩ := R.slots k e he
    refine ⟨v, hv, r.mono gg (fun _ _ h => h) (fun _ _ _ h => h) (fun _ _ _ _ _ h => h) fun b dx hb => ⟨hb, fun g => ?_⟩⟩
    rw [upd_ne (hne _ _ hb)]
    exact g
  · obtain ⟨b, hb, hpa, ow⟩ := R.boxes n d hd
    refine ⟨b, hb, hpa, ow.mono gg (fun _ _ h => h) (fun _ h => h) fun c dx fs _ hb => ⟨hb, fun g => ?_⟩⟩
    rw [upd_ne (hne _ _ hb)]
    exact g
  · obtain ⟨h1, h2, h3⟩ := R.plg b hb
    rw [upd_ne (ne b hb)]
    exact ⟨h1, h2, h3⟩
  · by_cases e : b = a
    · subst e
      exact .inr (.inr ⟨vs, h⟩)
    · rw [upd_ne e] at hb
      exact .inl hb

/-! ### data -/
mutual
theorem Rel.dp (R : Rel Z H G io pl S de σ) {d : D} {v : V} (r : Rep Z G io v d) (p : d.pure = true) : Dp Z.K H v d.py := by
  cases r with
  | non => exact .non
  | bl b => exact .bl b
  | int i => exact .int i
  | str s => exact .str s
  | tup h r => exact .tup (SqT.of ((R.gh _ _ h).same rfl)) (Rel.dps R r p)
  | lst h r => exact .lst (SqL.of ((R.gh _ _ h).same rfl)) (Rel.dps R r p)
  | ty n => cases p
  | cls c => cases p
  | box h => cases p
  | ro h r => cases p
  | dK h r => cases p
  | dT n h r => cases p
  | ins h hx r => cases p
theorem Rel.dps (R : Rel Z H G io pl S de σ) {ds : List D} {vs : List V} (r : Reps Z G io vs ds) (p : D.pures ds = true) : DpAll Z.K H vs (D.pys ds) := by
  cases r with
  | nil => exact .nil
  | cons h t => exact .cons (Rel.dp R h (Bool.and_eq_true_iff.mp p).1) (Rel.dps R t (Bool.and_eq_true_iff.mp p).2)
end
theorem Rel.dpT (R : Rel Z H G io pl S de σ) {d : D} {v : V} (t : Top Z H G io v d) (p : d.pure = true) : Dp Z.K H v d.py := by
  cases t with
  | non => exact .non
  | bl b => exact .bl b
  | int i => exact .int i
  | str s => exact .str s
  | tup h r => exact .tup (SqT.of h) (R.dps r p)
  | lst h r => exact .lst (SqL.of h) (R.dps r p)
  | ty n => cases p
  | cls c => cases p
  | ro h r => cases p
  | dK h r => cases p
  | dT n h r => cases p
  | ins h r => cases p

theorem pys_map : ∀ ds : List D, D.pys ds = ds.map D.py
  | [] => rfl
  | d :: ds => by
    show d.py :: D.pys ds = _
    rw [pys_map ds]
    rfl
theorem any_py (x : D) : ∀ ds : List D, ((D.pys ds).any fun z => PyData.eqv z x.py) = ds.any fun z => PyData.eqv z.py x.py := fun ds => by
  rw [pys_map, List.any_map]
  rfl
/-- flat values -/
theorem flat_v {d : D} {v : V} (r : Rep Z G io v d) (f : d.flat = true) : flatV v = true := by
  cases r <;> first | rfl | cases f
theorem flat_vs {ds : List D} {vs : List V} (r : Reps Z G io vs ds) (f : ds.all D.flat = true) : vs.all flatV = true := by
  induction ds generalizing vs with
  | nil => cases r; rfl
  | cons d ds ih =>
    cases r with
    | cons h t =>
      rw [List.all_cons, Bool.and_eq_true] at f
      rw [List.all_cons, flat_v h f.1, ih t f.2]
      rfl
theorem flat_eq {d e : D} {v w : V} (r : Rep Z G io v d) (q : Rep Z G io w e) (f : d.flat = true) (g : e.flat = true) : eqV v w = PyData.eqv d.py e.py := by
  cases r <;> first | (cases f; done) | (cases q <;> first | (cases g; done) | (simp [eqV, D.py, PyData.eqv]; done) | rfl)
theorem flat_in {x : D} {ds : List D} {v : V} {vs : List V} (r : Rep Z G io v x) (rs : Reps Z G io vs ds) (f : x.flat = true) (fs : ds.all D.flat = true) : inV v vs = ds.any fun z => PyData.eqv z.py x.py := by
  unfold inV
  induction ds generalizing vs with
  | nil => cases rs; rfl
  | cons d ds ih =>
    cases rs with
    | cons h t =>
      rw [List.all_cons, Bool.and_eq_true] at fs
      rw [List.any_cons, List.any_cons, flat_eq h r fs.1 f, ih t fs.2]
theorem Top.flat {d : D} {v : V} (t : Top Z H G io v d) (f : d.flat = true) : Rep Z G io v d := by
  cases t <;> first | (cases f; done) | constructor

/-! ### what an operator's rule is to give -/
def P2ok (Z : Zc) (o : O2) (r : R2) : Prop := ∀ {H G : Hp} {io : List Addr} {pl : Plc} {S : Store} {de : Env} {σ : L2.St} {v1 v2 : V} {d1 d2 d : D} {Q : VK}, Rel Z H G io pl S de σ → Top Z H G io v1 d1 → Top Z H G io v2 d2 → p2 o d1 d2 = some d → Go Z H G io S de σ d Q → r v1 v2 H Q

theorem ok_int {o : O2} {g : Int → Int → V} {gD : Int → Int → D} (he : ∀ a b, p2 o a b = match a, b with
    | .int i, .int j => some (gD i j)
    | _, _ => none) (hr : ∀ (G : Hp) (io : List Addr) (i j : Int), Rep Z G io (g i j) (gD i j)) : P2ok Z o (rI0 g) := by
  intro H G io pl S de σ v1 v2 d1 d2 d Q R t1 t2 e k
  rw [he] at e
  cases t1 <;> first | (cases e; done) | skip
  cases t2 <;> first | (cases e; done) | skip
  cases e
  exact ⟨_, _, rfl, rfl, k.here R (hr _ _ _ _)⟩
theorem ok_sub : P2ok Z .sub (rI0 fun i j => .int (i - j)) := ok_int (gD := fun i j => .int (i - j)) (fun a b => rfl) fun _ _ _ _ => .int _
theorem ok_lt : P2ok Z .lt (rI0 fun i j => .bl (decide (i < j))) := ok_int (gD := fun i j => .bl (decide (i < j))) (fun a b => rfl) fun _ _ _ _ => .bl _
theorem ok_le : P2ok Z .le (rI0 fun i j => .bl (decide (i ≤ j))) := ok_int (gD := fun i j => .bl (decide (i ≤ j))) (fun a b => rfl) fun _ _ _ _ => .bl _
theorem ok_gt : P2ok Z .gt (rI0 fun i j => .bl (decide (j < i))) := ok_int (gD := fun i j => .bl (decide (j < i))) (fun a b => rfl) fun _ _ _ _ => .bl _
theorem ok_ge : P2ok Z .ge (rI0 fun i j => .bl (decide (j ≤ i))) := ok_int (gD := fun i j => .bl (decide (j ≤ i))) (fun a b => rfl) fun _ _ _ _ => .bl _
def rAddA (K : PySem.W.Frag) : R2 := fun x y H Q => (rI0 (fun i j => .int (i + j)) x y H Q) ∨ ((∃ i j, x = .str i ∧ y = .str j ∧ i.length + j.length ≤ sizeLine ∧ Q (.str (i ++ j)) H) ∨ (rCat x y H Q ∨ rCatA K x y H Q))
theorem op_addA {X : Cx} : OpR X (binaryOp .Add) (rAddA X.K) := op_add.or (op_add_str.or (op_cat.or op_catA))
theorem ok_add : P2ok Z .add (rAddA Z.K) := by
  intro H G io pl S de σ v1 v2 d1 d2 d Q R t1 t2 e k
  cases t1 <;> first | (cases e; done) | skip
  · cases t2 <;> first | (cases e; done) | skip
    cases e
    exact .inl ⟨_, _, rfl, rfl, k.here R (.int _)⟩
  · cases t2 <;> first | (cases e; done) | skip
    rename_i s t
    have e : (if sizeOk (s.length + t.length) = true then some (D.str (s ++ t)) else none) = some d := e
    split at e <;> cases e
    rename_i hz
    exact .inr (.inl ⟨_, _, rfl, rfl, of_decide_eq_true hz, k.here R (.str _)⟩)
  · rename_i h r
    cases t2 <;> first | (cases e; done) | skip
    rename_i a xs ds b ys es h2 r2
    have e : (if sizeOk (ds.length + es.length) = true then some (D.tup (ds ++ es)) else none) = some d := e
    split at e <;> cases e
    rename_i hz
    have hz := of_decide_eq_true hz
    have l1 := r.length
    have l2 := r2.length
    refine .inr (.inr (.inr ⟨_, _, _, _, rfl, rfl, SqT.of h, SqT.of h2, by omega, fun z => ?_, fun _ z => ?_, fun _ _ p hp => k.tup R (r.append r2) hp⟩))
    · subst z
      cases r
      obtain ⟨G', R', s, hg⟩ := R.seen h2
      exact k _ _ _ _ _ s R' (.tup hg (r2.step s))
    · subst z
      cases r2
      rw [List.append_nil] at k
      obtain ⟨G', R', s, hg⟩ := R.seen h
      exact k _ _ _ _ _ s R' (.tup hg (r.step s))
  · rename_i h r
    cases t2 <;> first | (cases e; done) | skip
    rename_i a xs ds b ys es h2 r2
    have e : (if sizeOk (ds.length + es.length) = true then some (D.lst (ds ++ es)) else none) = some d := e
    split at e <;> cases e
    rename_i hz
    have hz := of_decide_eq_true hz
    have l1 := r.length
    have l2 := r2.length
    exact .inr (.inr (.inl ⟨_, _, _, _, rfl, rfl, h, h2, by omega, fun p hp => k.lst R (r.append r2) hp⟩))
theorem reps_rep {vs : List V} {ds : List D} (r : Reps Z G io vs ds) : ∀ n : Nat, Reps Z G io (List.replicate n vs).flatten (List.replicate n ds).flatten
  | 0 => .nil
  | n + 1 => by
    rw [List.replicate_succ, List.replicate_succ, List.flatten_cons, List.flatten_cons]
    exact r.append (reps_rep r n)
def rMulA : R2 := fun x y H Q => (rI CMul (fun i j => .int (i * j)) x y H Q) ∨ rRep x y H Q
theorem op_mulA {X : Cx} : OpR X (binaryOp .Mult) rMulA := op_mul.or op_rep
theorem smallI_ok {i : Int} (h : smallI i = true) : -(2 ^ 64) < i ∧ i < 2 ^ 64 := ⟨of_decide_eq_true (Bool.and_eq_true_iff.mp h).1, of_decide_eq_true (Bool.and_eq_true_iff.mp h).2⟩
theorem ok_mul : P2ok Z .mul rMulA := by
  intro H G io pl S de σ v1 v2 d1 d2 d Q R t1 t2 e k
  cases t1 <;> first | (cases e; done) | skip
  · cases t2 <;> first | (cases e; done) | skip
    rename_i i j
    have e : (if (smallI i || smallI j) = true then some (D.int (i * j)) else none) = some d := e
    split at e <;> cases e
    rename_i hz
    refine .inl ⟨_, _, rfl, rfl, ?_, k.here R (.int _)⟩
    rcases Bool.or_eq_true_iff.mp hz with q | q
    · exact .inl (smallI_ok q)
    · exact .inr (smallI_ok q)
  · rename_i h r
    cases t2 <;> first | (cases e; done) | skip
    rename_i a vs ds j
    have e : (if (decide (j < 2 ^ 62) && decide (-(2 ^ 62) ≤ j) && sizeOk (ds.length * j.toNat)) = true then some (D.lst (List.replicate j.toNat ds).flatten) else none) = some d := e
    split at e <;> cases e
    rename_i hz
    simp only [Bool.and_eq_true, decide_eq_true_eq] at hz
    obtain ⟨⟨h1, h2⟩, h3⟩ := hz
    have h3 := of_decide_eq_true h3
    refine .inr ⟨_, _, _, rfl, rfl, h, by omega, by omega, by rw [r.length]; exact h3, fun p hp => k.lst R (reps_rep r _) hp⟩
theorem ok_fdiv : P2ok Z .fdiv (rI CDiv fun i j => .int (i / j)) := by
  intro H G io pl S de σ v1 v2 d1 d2 d Q R t1 t2 e k
  cases t1 <;> first | (cases e; done) | skip
  cases t2 <;> first | (cases e; done) | skip
  rename_i i j
  have e : (if 0 < j ∧ j < 1073741824 then some (D.int (i / j)) else none) = some d := e
  split at e <;> cases e
  rename_i hz
  exact ⟨_, _, rfl, rfl, hz, k.here R (.int _)⟩
theorem ok_mod : P2ok Z .mod (rI (fun _ j => 0 < j) fun i j => .int (i % j)) := by
  intro H G io pl S de σ v1 v2 d1 d2 d Q R t1 t2 e k
  cases t1 <;> first | (cases e; done) | skip
  cases t2 <;> first | (cases e; done) | skip
  rename_i i j
  have e : (if 0 < j then some (D.int (i % j)) else none) = some d := e
  split at e <;> cases e
  rename_i hz
  exact ⟨_, _, rfl, rfl, hz, k.here R (.int _)⟩
theorem ok_pow : P2ok Z .pow (rI CPow fun i j => .int (i ^ j.toNat)) := by
  intro H G io pl S de σ v1 v2 d1 d2 d Q R t1 t2 e k
  cases t1 <;> first | (cases e; done) | skip
  cases t2 <;> first | (cases e; done) | skip
  rename_i i j
  have e : (if 0 ≤ j ∧ j ≤ 1000000 ∧ i.natAbs < 2 ^ 64 then some (D.int (i ^ j.toNat)) else none) = some d := e
  split at e <;> cases e
  rename_i hz
  exact ⟨_, _, rfl, rfl, hz, k.here R (.int _)⟩
theorem shaped_ok {d : D} (h : d.shaped = true) : d.pure = true ∧ SeqAt.shaped d.py = true := Bool.and_eq_true_iff.mp h
theorem ok_eq : P2ok Z .eq (rEqD Z.K) := by
  intro H G io pl S de σ v1 v2 d1 d2 d Q R t1 t2 e k
  have e : (eqD d1 d2).map D.bl = some d := e
  unfold eqD at e
  split at e <;> cases e
  rename_i hz
  obtain ⟨a, b⟩ := Bool.and_eq_true_iff.mp hz
  exact ⟨_, _, R.dpT t1 (shaped_ok a).1, R.dpT t2 (shaped_ok b).1, (shaped_ok a).2, (shaped_ok b).2, k.here R (.bl _)⟩
theorem ok_ne : P2ok Z .ne (rNeD Z.K) := by
  intro H G io pl S de σ v1 v2 d1 d2 d Q R t1 t2 e k
  have e : ((eqD d1 d2).map fun r => D.bl (!r)) = some d := e
  unfold eqD at e
  split at e <;> cases e
  rename_i hz
  obtain ⟨a, b⟩ := Bool.and_eq_true_iff.mp hz
  exact ⟨_, _, R.dpT t1 (shaped_ok a).1, R.dpT t2 (shaped_ok b).1, (shaped_ok a).2, (shaped_ok b).2, k.here R (.bl _)⟩
theorem ok_isN : P2ok Z .isN (fun x y H Q => y = .non ∧ Q (.bl (decide (x = .non))) H) := by
  intro H G io pl S de σ v1 v2 d1 d2 d Q R t1 t2 e k
  cases t2 <;> first | (cases e; done) | skip
  refine ⟨rfl, ?_⟩
  cases t1 <;> (cases e; exact k.here R (.bl _))
theorem ok_notN : P2ok Z .notN (fun x y H Q => y = .non ∧ Q (.bl (!decide (x = .non))) H) := by
  intro H G io pl S de σ v1 v2 d1 d2 d Q R t1 t2 e k
  cases t2 <;> first | (cases e; done) | skip
  refine ⟨rfl, ?_⟩
  cases t1 <;> (cases e; exact k.here R (.bl _))

/-! ### in -/
section
variable {X : Cx}
def rDin : R2 := fun y x H Q => ∃ a o, x = .ref a ∧ DGet H a y o ∧ Q (.bl o.isSome) H
def rDnin : R2 := fun y x H Q => ∃ a o, x = .ref a ∧ DGet H a y o ∧ Q (.bl (!o.isSome)) H
theorem op_din (hu : X.A.units + 65 < cLine) : OpR X (compareOp .In) rDin := by
  intro pn s σ H y x u v Q J ry rx h
  obtain ⟨a, o, rfl, g, q⟩ := h
  cases rx
  exact d_in (by omega) J g ry fun s' J' => ⟨.bl _, H, J', rfl, q⟩
theorem op_dnin (hu : X.A.units + 65 < cLine) : OpR X (compareOp .NotIn) rDnin := by
  intro pn s σ H y x u v Q J ry rx h
  obtain ⟨a, o, rfl, g, q⟩ := h
  cases rx
  exact d_notIn (by omega) J g ry fun s' J' => ⟨.bl _, H, J', rfl, q⟩
end
def rInA (K : PySem.W.Frag) : R2 := fun x y H Q => (rInD K x y H Q) ∨ (rIn K false x y H Q ∨ rDin x y H Q)
def rNinA (K : PySem.W.Frag) : R2 := fun x y H Q => (rNotInD K x y H Q) ∨ (rIn K true x y H Q ∨ rDnin x y H Q)
theorem op_inA {X : Cx} (hu : X.A.units + 65 < cLine) : OpR X (compareOp .In) (rInA X.K) := (op_inD hu).or (op_in_seq.or (op_din hu))
theorem op_ninA {X : Cx} (hu : X.A.units + 65 < cLine) : OpR X (compareOp .NotIn) (rNinA X.K) := (op_notInD hu).or (op_notIn_seq.or (op_dnin hu))

theorem keyD_inj {a b : Key} (h : keyD a = keyD b) : a = b := by
  cases a <;> cases b <;> cases h <;> rfl
theorem dKey_keyD (k : Key) : dKey (keyD k) = some k := by cases k <;> rfl
theorem dKeys_map : ∀ ks : List Key, dKeys (ks.map keyD) = some ks
  | [] => rfl
  | k :: ks => by
    rw [List.map_cons]
    show (match dKey (keyD k), dKeys (ks.map keyD) with | some k, some ks => some (k :: ks) | _, _ => none) = _
    rw [dKey_keyD, dKeys_map ks]
theorem ky_keyD (k : Key) : (keyD k).ky = some (.one k) := by cases k <;> rfl
theorem ky_tup (ks : List Key) : (D.tup (ks.map keyD)).ky = some (.tup ks) := by
  show (dKeys (ks.map keyD)).map Ky.tup = _
  rw [dKeys_map]
  rfl
theorem rep_key {k : Key} {v : V} {d : D} (r : Rep Z G io v d) (h : d.ky = some (.one k)) : v = kV k ∧ d = keyD k := by
  cases r <;> first | (cases h; done) | skip
  · cases h; exact ⟨rfl, rfl⟩
  · cases h; exact ⟨rfl, rfl⟩
  · rename_i ds _ _
    have h : (dKeys ds).map Ky.tup = some (.one k) := h
    cases q : dKeys ds <;> rw [q] at h <;> cases h
theorem dKeys_of : ∀ {ds : List D} {ks : List Key}, dKeys ds = some ks → ds = ks.map keyD
  | [], ks, h => by cases h; rfl
  | d :: ds, ks, h => by
    have h : (match dKey d, dKeys ds with | some k, some ks => some (k :: ks) | _, _ => none) = some ks := h
    cases q : dKey d with
    | none => rw [q] at h; cases h
    | some k =>
      cases q2 : dKeys ds with
      | none => rw [q, q2] at h; cases h
      | some l =>
        rw [q, q2] at h
        cases h
        rw [List.map_cons, ← dKeys_of q2]
        cases d <;> cases q <;> rfl
theorem reps_keys {ks : List Key} {vs : List V} (r : Reps Z G io vs (ks.map keyD)) : vs = ks.map kV := by
  induction ks generalizing vs with
  | nil => cases r; rfl
  | cons k ks ih =>
    rw [List.map_cons] at r
    cases r with
    | cons h t =>
      rw [List.map_cons, (rep_key h (ky_keyD k)).1, ih t]
theorem rep_keyT {ks : List Key} {v : V} {d : D} (r : Rep Z G io v d) (h : d.ky = some (.tup ks)) : ∃ a, v = .ref a ∧ G a = some (.tup (ks.map kV)) ∧ d = .tup (ks.map keyD) := by
  cases r <;> first | (cases h; done) | skip
  rename_i a vs ds h1 r
  have h : (dKeys ds).map Ky.tup = some (.tup ks) := h
  cases q : dKeys ds with
  | none => rw [q] at h; cases h
  | some l =>
    rw [q] at h
    cases h
    have e := dKeys_of q
    subst e
    rw [reps_keys r] at h1
    exact ⟨a, rfl, h1, rfl⟩
theorem dfind_K {kvs : List (Key × V)} {ds : List D} (k : Key) (r : Reps Z G io (kvs.map (·.2)) ds) : (∃ v d, valV kvs k = some v ∧ dfind (.one k) (kvs.map fun p => keyD p.1) ds = some d ∧ Rep Z G io v d) ∨ (valV kvs k = none ∧ dfind (.one k) (kvs.map fun p => keyD p.1) ds = none) := by
  induction kvs generalizing ds with
  | nil => cases r; exact .inr ⟨rfl, rfl⟩
  | cons p kvs ih =>
    rw [List.map_cons] at r
    cases r with
    | cons h t =>
      rename_i d ds
      rw [List.map_cons]
      by_cases e : p.1 = k
      · refine .inl ⟨_, d, valV_pos e, ?_, h⟩
        show (if (keyD p.1).ky = some (.one k) then some d else _) = _
        rw [if_pos (by rw [ky_keyD, e])]
      · rw [valV_neg e]
        have : dfind (.one k) (keyD p.1 :: kvs.map fun p => keyD p.1) (d :: ds) = dfind (.one k) (kvs.map fun p => keyD p.1) ds := by
          show (if (keyD p.1).ky = some (.one k) then some d else _) = _
          rw [if_neg (by rw [ky_keyD]; intro z; cases z; exact e rfl)]
        rw [this]
        exact ih t
theorem dfind_T {kvs : List (List Key × V)} {ds : List D} (k : List Key) (r : Reps Z G io (kvs.map (·.2)) ds) : (∃ v d, valV kvs k = some v ∧ dfind (.tup k) (kvs.map fun p => .tup (p.1.map keyD)) ds = some d ∧ Rep Z G io v d) ∨ (valV kvs k = none ∧ dfind (.tup k) (kvs.map fun p => .tup (p.1.map keyD)) ds = none) := by
  induction kvs generalizing ds with
  | nil => cases r; exact .inr ⟨rfl, rfl⟩
  | cons p kvs ih =>
    rw [List.map_cons] at r
    cases r with
    | cons h t =>
      rename_i d ds
      rw [List.map_cons]
      by_cases e : p.1 = k
      · refine .inl ⟨_, d, valV_pos e, ?_, h⟩
        show (if (D.tup (p.1.map keyD)).ky = some (.tup k) then some d else _) = _
        rw [if_pos (by rw [ky_tup, e])]
      · rw [valV_neg e]
        have : dfind (.tup k) (D.tup (p.1.map keyD) :: kvs.map fun p => .tup (p.1.map keyD)) (d :: ds) = dfind (.tup k) (kvs.map fun p => .tup (p.1.map keyD)) ds := by
          show (if (D.tup (p.1.map keyD)).ky = some (.tup k) then some d else _) = _
          rw [if_neg (by rw [ky_tup]; intro z; cases z; exact e rfl)]
        rw [this]
        exact ih t
end
end Y
/-! Y6: operators applied; displays, items, slices, calls of built-ins. -/
namespace Y
open PySem L2

section
variable {Z : Zc} {T : Tb} {C : Calls} {W : WX} {X : Cx} {H G H' G' : Hp} {io io' : List Addr} {pl pl' : Plc} {S S' : Store} {de : Env} {σ : L2.St}
theorem Opd.topd (R : Rel Z H G io pl S de σ) {v : V} {d : D} (o : Opd Z G io de σ v d) : Top Z H G io v (view S d) := by
  rcases o.top R with t | ⟨k, rfl, hk⟩
  · exact t
  · rcases o with r | ⟨i, hd, hv⟩
    · cases r with
      | box h =>
        have h1 := (List.getElem?_eq_some_iff.mp h).1
        rw [R.bl] at h1
        rw [List.getElem?_eq_getElem h1] at hk
        cases hk
    · obtain ⟨v', _, a, _, _, o⟩ := R.slots i _ hd
      cases o
theorem tE_tO {ir : IR} {e : Expr} (h : PE X e (tE Z T C W ir)) : PE X e (tO Z T C W ir) := h.wk fun σ H Q q => tO_tE q

/-- two operands evaluated -/
theorem two_go {a b : IR} {K : D → D → Store → Prop} {R2 : V → V → Hp → Prop} {G : Hp} {io : List Addr} {pl : Plc} {S : Store} {de : Env} {H : Hp} {σ : L2.St} (R : Rel Z H G io pl S de σ)
    (h : Fin Z H G io de σ W (ev T C de a S) fun x S1 => Fin Z H G io de σ W (ev T C de b S1) fun y S2 => K x y S2)
    (k : ∀ H2 G2 io2 pl2 S2 x y v u, Step H G io H2 G2 io2 → Rel Z H2 G2 io2 pl2 S2 de σ → Opd Z G2 io2 de σ v x → Opd Z G2 io2 de σ u y → K x y S2 → R2 v u H2) :
    tO Z T C W a σ H fun v H1 => tO Z T C W b σ H1 fun u H2 => R2 v u H2 := by
  refine ⟨G, io, pl, S, de, R, h.imp fun x S1 k1 H1 G1 io1 pl1 v s1 R1 o1 => ?_⟩
  refine ⟨G1, io1, pl1, S1, de, R1, k1.at s1 fun y S2 k2 H2 G2 io2 pl2 u s2 R2' o2 => ?_⟩
  exact k H2 G2 io2 pl2 S2 x y v u (s1.trans s2) R2' (o1.step s2) o2 k2
theorem Go.of {d : D} {S : Store} {K : D → Store → Prop} {Q : VK} (s : Step H G io H' G' io') (k : K d S) (hk : K = fun d S' => ∀ H' G' io' pl' v, Step H G io H' G' io' → Rel Z H' G' io' pl' S' de σ → Rep Z G' io' v d → Q v H') : Go Z H' G' io' S de σ d Q := by
  subst hk
  exact fun H2 G2 io2 pl2 v s2 R2 r => k H2 G2 io2 pl2 v (s.trans s2) R2 r
theorem s_bin {o : O2} {op : Operator} {r : R2} {a b : IR} {e f : Expr} {pos : Pos} (ho : OpR X (binaryOp op) r) (hok : P2ok Z o r) (ha : PE X e (tO Z T C W a)) (hb : PE X f (tO Z T C W b)) : PE X (.BinOp e op f pos) (tE Z T C W (.o2 o a b)) := (pe_op ho ha hb).wk fun σ H Q q => by
  obtain ⟨G, io, pl, S, de, R, h⟩ := q
  refine two_go (K := fun x y S2 => Fin Z H G io de σ W (lift (p2 o (view S2 x) (view S2 y)) S2) _) R ((Fin.bnd (show Fin Z H G io de σ W ((ev T C de a S).bnd _) _ from h)).imp fun x S1 k => Fin.bnd (show Fin Z H G io de σ W ((ev T C de b S1).bnd _) _ from k)) ?_
  intro H2 G2 io2 pl2 S2 x y v u s2 R2 o1 o2 k
  obtain ⟨d, e, k⟩ := k.lift
  exact hok R2 (o1.topd R2) (o2.topd R2) e (Go.of (S := S2) s2 k rfl)
theorem s_cmp {o : O2} {op : CmpOp} {r : R2} {a b : IR} {e f : Expr} {pos : Pos} (ho : OpR X (compareOp op) r) (hok : P2ok Z o r) (ha : PE X e (tO Z T C W a)) (hb : PE X f (tO Z T C W b)) (hm : behindInMarks op f = false) : PE X (.Compare e [op] [f] pos) (tE Z T C W (.o2 o a b)) := (pe_cmpR ho ha hb hm).wk fun σ H Q q => by
  obtain ⟨G, io, pl, S, de, R, h⟩ := q
  refine two_go (K := fun x y S2 => Fin Z H G io de σ W (lift (p2 o (view S2 x) (view S2 y)) S2) _) R ((Fin.bnd (show Fin Z H G io de σ W ((ev T C de a S).bnd _) _ from h)).imp fun x S1 k => Fin.bnd (show Fin Z H G io de σ W ((ev T C de b S1).bnd _) _ from k)) ?_
  intro H2 G2 io2 pl2 S2 x y v u s2 R2 o1 o2 k
  obtain ⟨d, e, k⟩ := k.lift
  exact hok R2 (o1.topd R2) (o2.topd R2) e (Go.of (S := S2) s2 k rfl)
/-- the same as a test -/
theorem s_cmpT {o : O2} {op : CmpOp} {r : R2} {a b : IR} {e f : Expr} {pos : Pos} (ho : OpR X (compareOp op) r) (hok : P2ok Z o r) (ha : PE X e (tO Z T C W a)) (hb : PE X f (tO Z T C W b)) (hm : behindInMarks op f = false) : PT X (.Compare e [op] [f] pos) (tT Z T C W (.tb (.o2 o a b))) := (pt_cmpR ho ha hb hm).wk fun σ H Q q => by
  obtain ⟨G, io, pl, S, de, R, h⟩ := q
  have h := Fin.bnd (show Fin Z H G io de σ W ((ev T C de (.o2 o a b) S).bnd _) _ from h)
  refine two_go (K := fun x y S2 => Fin Z H G io de σ W (lift (p2 o (view S2 x) (view S2 y)) S2) _) R ((Fin.bnd (show Fin Z H G io de σ W ((ev T C de a S).bnd _) _ from h)).imp fun x S1 k => Fin.bnd (show Fin Z H G io de σ W ((ev T C de b S1).bnd _) _ from k)) ?_
  intro H2 G2 io2 pl2 S2 x y v u s2 R2 o1 o2 k
  obtain ⟨d, e, k⟩ := k.lift
  refine hok R2 (o1.topd R2) (o2.topd R2) e fun H3 G3 io3 pl3 v3 s3 R3 r3 => ?_
  cases r3 <;> first | exact (k : False).elim | skip
  exact ⟨_, rfl, k H3 G3 io3 pl3 (s2.trans s3) R3⟩
theorem chain_go {o p : O2} {r r' : R2} {a b c : IR} {Q : VK} {K : D → Store → Prop} (hok : P2ok Z o r) (hok' : P2ok Z p r') {G : Hp} {io : List Addr} {pl : Plc} {S : Store} {de : Env} {H : Hp} {σ : L2.St} (R : Rel Z H G io pl S de σ)
    (h : Fin Z H G io de σ W (ev T C de (.ch o p a b c) S) K) (hk : ∀ b S' H' G' io' pl', K (.bl b) S' → Step H G io H' G' io' → Rel Z H' G' io' pl' S' de σ → Q (.bl b) H')
    (hb : ∀ d S' H' G' io' pl' v, K d S' → Step H G io H' G' io' → Rel Z H' G' io' pl' S' de σ → Rep Z G' io' v d → Q v H') : tChain r r' (tO Z T C W a) (tO Z T C W b) (tO Z T C W c) σ H Q := by
  have h := (Fin.bnd (show Fin Z H G io de σ W ((ev T C de a S).bnd _) _ from h)).imp fun x S1 k => Fin.bnd (show Fin Z H G io de σ W ((ev T C de b S1).bnd _) _ from k)
  refine two_go (K := fun x y S2 => _) R h ?_
  intro H2 G2 io2 pl2 S2 x y v u s2 R2 o1 o2 k
  have k : Fin Z H G io de σ W ((lift (p2 o (view S2 x) (view S2 y)) S2).bnd _) _ := k
  obtain ⟨d, e, k⟩ := k.bnd.lift
  refine hok R2 (o1.topd R2) (o2.topd R2) e fun H3 G3 io3 pl3 v3 s3 R3 r3 => ?_
  cases r3 <;> first | exact (k : False).elim | skip
  rename_i b3
  refine ⟨b3, rfl, ?_⟩
  cases b3 with
  | false => exact hk _ _ _ _ _ _ k (s2.trans s3) R3
  | true =>
    rw [if_pos rfl]
    refine ⟨G3, io3, pl3, S2, de, R3, (Fin.bnd (show Fin Z H G io de σ W ((ev T C de c S2).bnd _) _ from k)).at (s2.trans s3) fun z S4 k4 H4 G4 io4 pl4 w s4 R4 o4 => ?_⟩
    obtain ⟨d4, e4, k4⟩ := k4.lift
    exact hok' R4 ((o2.step (s3.trans s4)).topd R4) (o4.topd R4) e4 fun H5 G5 io5 pl5 v5 s5 R5 r5 => hb _ _ _ _ _ _ _ k4 ((s2.trans s3).trans (s4.trans s5)) R5 r5
theorem s_ch {o p : O2} {op op' : CmpOp} {r r' : R2} {a b c : IR} {e f g : Expr} {pos : Pos} (ho : OpR X (compareOp op) r) (hok : P2ok Z o r) (ho' : OpR X (compareOp op') r') (hok' : P2ok Z p r') (ha : PE X e (tO Z T C W a)) (hb : PE X f (tO Z T C W b)) (hc : PE X g (tO Z T C W c))
    (hm : behindInMarks op f = false) (hm' : behindInMarks op' g = false) (h : PE X (.Compare e [op, op'] [f, g] pos) (tChain r r' (tO Z T C W a) (tO Z T C W b) (tO Z T C W c))) : PE X (.Compare e [op, op'] [f, g] pos) (tE Z T C W (.ch o p a b c)) := h.wk fun σ H Q q => by
  obtain ⟨G, io, pl, S, de, R, h⟩ := q
  exact chain_go hok hok' R h (fun b S' H' G' io' pl' k s R' => k H' G' io' pl' _ s R' (.bl b)) fun d S' H' G' io' pl' v k s R' r => k H' G' io' pl' v s R' r
theorem s_chT {o p : O2} {op op' : CmpOp} {r r' : R2} {a b c : IR} {e f g : Expr} {pos : Pos} (hok : P2ok Z o r) (hok' : P2ok Z p r')
    (h : PT X (.Compare e [op, op'] [f, g] pos) (tTest (tChain r r' (tO Z T C W a) (tO Z T C W b) (tO Z T C W c)))) : PT X (.Compare e [op, op'] [f, g] pos) (tT Z T C W (.tb (.ch o p a b c))) := h.wk fun σ H Q q => by
  obtain ⟨G, io, pl, S, de, R, h⟩ := q
  have h := Fin.bnd (show Fin Z H G io de σ W ((ev T C de (.ch o p a b c) S).bnd _) _ from h)
  refine chain_go hok hok' R h (fun b S' H' G' io' pl' k s R' => ⟨_, rfl, k H' G' io' pl' s R'⟩) fun d S' H' G' io' pl' v k s R' r => ?_
  cases r <;> first | exact (k : False).elim | skip
  exact ⟨_, rfl, k H' G' io' pl' s R'⟩
/-- by truth -/
theorem truth_ok {v : V} {d : D} {k : Bool} (t : Top Z H G io v d) (e : d.truth = some k) : TruV Z.K v H k := by
  cases t with
  | non => cases e; rfl
  | bl b => cases e; rfl
  | int i => cases e; rfl
  | tup h r =>
    cases e
    refine .inr (.inl ⟨_, SqT.of h, ?_⟩)
    cases r <;> rfl
  | lst h r =>
    cases e
    refine .inl ⟨_, SqL.of h, ?_⟩
    cases r <;> rfl
  | _ => cases e
theorem s_tt {a : IR} {e : Expr} (h : PT X e (fun σ H Q => tO Z T C W a σ H fun x H1 => ∃ k, TruV X.K x H1 k ∧ Q k H1)) (hK : X.K = Z.K) : PT X e (tT Z T C W (.tt a)) := h.wk fun σ H Q q => by
  obtain ⟨G, io, pl, S, de, R, h⟩ := q
  refine ⟨G, io, pl, S, de, R, (Fin.bnd (show Fin Z H G io de σ W ((ev T C de a S).bnd _) _ from h)).imp fun x S1 k H1 G1 io1 pl1 v s1 R1 o => ?_⟩
  obtain ⟨b, eb, k⟩ := k.lift
  exact ⟨b, by rw [hK]; exact truth_ok (o.topd R1) eb, k H1 G1 io1 pl1 s1 R1⟩

/-! ### lists of expressions -/
theorem s_lnil : PA X [] (tL Z T C W .nil) := (pa_nil (X := X)).wk fun σ H Q q => by
  obtain ⟨G, io, pl, S, de, R, h⟩ := q
  exact h H G io pl [] .refl R .nil
theorem s_lcons {a t : IR} {e : Expr} {es : List Expr} (ha : PE X e (tE Z T C W a)) (hr : PA X es (tL Z T C W t)) (hs : starEach (e :: es) X.env = (false, eval e X.env) :: starEach es X.env) : PA X (e :: es) (tL Z T C W (.cons a t)) := (pa_cons ha hr hs).wk fun σ H Q q => by
  obtain ⟨G, io, pl, S, de, R, h⟩ := q
  refine ⟨G, io, pl, S, de, R, (Fin.bnd (show Fin Z H G io de σ W ((ev T C de a S).bnd _) _ from h)).imp fun x S1 k H1 G1 io1 pl1 v s1 R1 r => ?_⟩
  refine ⟨G1, io1, pl1, S1, de, R1, (Fin.bnd (show Fin Z H G io de σ W ((evl T C de t S1).bnd _) _ from k)).at s1 fun xs S2 k2 H2 G2 io2 pl2 vs s2 R2 rs => ?_⟩
  exact k2 H2 G2 io2 pl2 (v :: vs) (s1.trans s2) R2 (.cons (r.step s2) rs)
theorem s_onil : PA X [] (tLO Z T C W .nil) := (pa_nil (X := X)).wk fun σ H Q q => by
  obtain ⟨G, io, pl, S, de, R, h⟩ := q
  exact h H G io pl [] .refl R .nil
theorem s_ocons {a t : IR} {e : Expr} {es : List Expr} (ha : PE X e (tO Z T C W a)) (hr : PA X es (tLO Z T C W t)) (hs : starEach (e :: es) X.env = (false, eval e X.env) :: starEach es X.env) : PA X (e :: es) (tLO Z T C W (.cons a t)) := (pa_cons ha hr hs).wk fun σ H Q q => by
  obtain ⟨G, io, pl, S, de, R, h⟩ := q
  refine ⟨G, io, pl, S, de, R, (Fin.bnd (show Fin Z H G io de σ W ((ev T C de a S).bnd _) _ from h)).imp fun x S1 k H1 G1 io1 pl1 v s1 R1 r => ?_⟩
  refine ⟨G1, io1, pl1, S1, de, R1, (Fin.bnd (show Fin Z H G io de σ W ((evl T C de t S1).bnd _) _ from k)).at s1 fun xs S2 k2 H2 G2 io2 pl2 vs s2 R2 rs => ?_⟩
  exact k2 H2 G2 io2 pl2 (v :: vs) (s1.trans s2) R2 (.cons (r.step s2) rs)

/-! ### new containers: kept as one's own, or known from then on -/
def tN (Z : Zc) (T : Tb) (C : Calls) (W : WX) (ir : IR) : TE := fun σ H Q => ∃ G io pl S de, Rel Z H G io pl S de σ ∧ Fin Z H G io de σ W (ev T C de ir S) fun d S' => ∀ H' G' io' pl' p, Step H G io H' G' io' → Rel Z H' G' io' pl' S' de σ → Own Z H' G' io' p d → pl' p = none → G' p = none → H p = none → isFresh d = true → Q (.ref p) H'
theorem Rel.freeze (R : Rel Z H G io pl S de σ) {p : Addr} {o : HO} (hp : H p = some o) (hi : ∀ x, o ≠ .own x) (g : G p = none) (n : pl p = none) : Rel Z H (upd G p o) io pl S de σ := by
  have gg : ∀ a u, G a = some u → upd G p o a = some u := fun a u h => upd_some g h
  have ne : ∀ b, pl b ≠ none → b ≠ p := fun b hb e => hb (by rw [e]; exact n)
  have hne : ∀ b x, H b = some (.own x) → b ≠ p := fun b x hb e => by
    rw [e, hp] at hb
    cases hb
    exact hi x rfl
  refine ⟨fun a u h => ?_, R.len, fun k e he => ?_, R.bl, fun k d hd => ?_, fun a ha => ?_⟩
  · by_cases e : a = p
    · subst e
      rw [upd_same] at h
      cases h
      exact .inl hp
    · rw [upd_ne e] at h
      exact R.gh a u h
  · obtain ⟨v, hv, r⟩ := R.slots k e he
    refine ⟨v, hv, r.mono gg (fun _ _ h => h) (fun _ _ _ h => h) (fun _ _ _ _ _ h => h) fun a dx h => ⟨h, fun gd => ?_⟩⟩
    rw [upd_ne (hne _ _ h)]
    exact gd
  · obtain ⟨a, ha, hpa, ow⟩ := R.boxes k d hd
    refine ⟨a, ha, hpa, ow.mono gg (fun _ _ h => h) (fun u h => h) fun c dx fs _ h => ⟨h, fun gd => ?_⟩⟩
    rw [upd_ne (hne _ _ h)]
    exact gd
  · obtain ⟨h1, h2, h3⟩ := R.plg a ha
    rw [upd_ne (ne a ha)]
    exact ⟨h1, h2, h3⟩
/-- a new container of one's own becomes known -/
theorem Own.known (R : Rel Z H' G' io' pl' S' de σ) (s : Step H G io H' G' io') {p : Addr} {d : D} (ow : Own Z H' G' io' p d) (n : pl' p = none) (g : G' p = none) (h0 : H p = none) (f : isFresh d = true) : ∃ G2, Rel Z H' G2 io' pl' S' de σ ∧ Step H G io H' G2 io' ∧ Rep Z G2 io' (.ref p) d ∧ ∀ a u, G' a = some u → G2 a = some u := by
  have mk : ∀ o : HO, H' p = some o → (∀ x, o ≠ .own x) → Rel Z H' (upd G' p o) io' pl' S' de σ ∧ Step H G io H' (upd G' p o) io' ∧ ∀ a u, G' a = some u → upd G' p o a = some u := fun o hp hi => by
    have gg : ∀ a u, G' a = some u → upd G' p o a = some u := fun a u h => upd_some g h
    refine ⟨R.freeze hp hi g n, ⟨fun a u h => gg _ _ (s.gg _ _ h), fun a h => ?_, s.fr, s.ext, s.al, s.tp⟩, gg⟩
    by_cases e : a = p
    · subst e
      exact .inr (.inl h0)
    · rw [upd_ne e] at h
      exact s.gn a h
  cases ow with
  | lst h r =>
    obtain ⟨R2, s2, gg⟩ := mk _ h (fun x => by simp)
    exact ⟨_, R2, s2, .lst upd_same (r.mono gg fun _ _ h => h), gg⟩
  | dK h r =>
    obtain ⟨R2, s2, gg⟩ := mk _ h (fun x => by simp)
    exact ⟨_, R2, s2, .dK upd_same (r.mono gg fun _ _ h => h), gg⟩
  | dT n' h r =>
    obtain ⟨R2, s2, gg⟩ := mk _ h (fun x => by simp)
    exact ⟨_, R2, s2, .dT n' upd_same (r.mono gg fun _ _ h => h), gg⟩
  | ins h hx hg r => cases f
theorem tN_tE {ir : IR} {e : Expr} (h : PE X e (tN Z T C W ir)) : PE X e (tE Z T C W ir) := h.wk fun σ H Q q => by
  obtain ⟨G, io, pl, S, de, R, h⟩ := q
  refine ⟨G, io, pl, S, de, R, h.imp fun d S1 k H1 G1 io1 pl1 p s1 R1 ow n g h0 f => ?_⟩
  obtain ⟨G2, R2, s2, r, _⟩ := ow.known R1 s1 n g h0 f
  exact k H1 G2 io1 pl1 _ s2 R2 r
/-- a new object is laid, one's own -/
theorem Rel.laid (R : Rel Z H G io pl S de σ) {p : Addr} (hp : H p = none) (o : HO) : Rel Z (upd H p o) G io pl S de σ ∧ Step H G io (upd H p o) G io ∧ pl p = none ∧ G p = none := by
  have gp : G p = none := by
    cases q : G p with
    | none => rfl
    | some u => exact absurd hp (R.gh p u q).ne
  have plp : pl p = none := by
    cases q : pl p with
    | none => rfl
    | some u => exact absurd hp (R.plg p (by rw [q]; exact Option.some_ne_none _)).2.1
  have hh : ∀ a u, H a = some u → upd H p o a = some u := fun a u h => upd_some hp h
  have ne : ∀ a, pl a ≠ none → a ≠ p := fun a h e => h (by rw [e]; exact plp)
  refine ⟨⟨fun a u h => ?_, R.len, fun k e he => ?_, R.bl, fun n d hd => ?_, fun a ha => ?_⟩, ⟨fun _ _ h => h, fun a h => .inl h, fun a u h _ _ => .inl (hh a u h), ⟨[], by simp, by simp⟩, fun a h => ?_, fun a xs h => ?_⟩, plp, gp⟩
  · rcases R.gh a u h with q | ⟨i, o', q⟩
    · exact .inl (hh _ _ q)
    · exact .inr ⟨i, o', hh _ _ q⟩
  · obtain ⟨v, hv, r⟩ := R.slots k e he
    exact ⟨v, hv, r.mono (fun _ _ h => h) (fun _ _ h => h) (fun _ _ _ h => h) (fun a _ u _ _ h => hh a u h) fun a dx h => ⟨hh _ _ h, fun g => g⟩⟩
  · obtain ⟨a, ha, hpa, ow⟩ := R.boxes n d hd
    exact ⟨a, ha, hpa, ow.mono (fun _ _ h => h) (fun _ _ h => h) (fun u h => hh a u h) fun c dx fs _ h => ⟨hh _ _ h, fun g => g⟩⟩
  · obtain ⟨h1, h2, h3⟩ := R.plg a ha
    rw [upd_ne (ne a ha)]
    exact ⟨h1, h2, h3⟩
  · by_cases e : a = p
    · subst e
      rw [upd_same]
      exact Option.some_ne_none _
    · rw [upd_ne e]
      exact h
  · by_cases e : a = p
    · subst e
      exact .inr hp
    · rw [upd_ne e] at h
      exact .inl h
/-- behind the making of a list at p -/
theorem new_lst {ds : List D} {vs : List V} {Q : VK} {H0 : Hp} {G0 : Hp} {io0 : List Addr} (k : ∀ H' G' io' pl' p, Step H0 G0 io0 H' G' io' → Rel Z H' G' io' pl' S de σ → Own Z H' G' io' p (.lst ds) → pl' p = none → G' p = none → H0 p = none → isFresh (.lst ds) = true → Q (.ref p) H')
    (s : Step H0 G0 io0 H G io) (R : Rel Z H G io pl S de σ) (r : Reps Z G io vs ds) {p : Addr} (hp : H p = none) : Q (.ref p) (upd H p (.lst vs)) := by
  obtain ⟨R', s', n, g⟩ := R.laid hp (.lst vs)
  exact k _ _ _ _ _ (s.trans s') R' (.lst upd_same r) n g (s.none hp) rfl

theorem s_tup {a : IR} {es : List Expr} {x1 : Nat} {pos : Pos} (h : PA X es (tL Z T C W a)) : PE X (.Tuple es x1 pos) (tE Z T C W (.tup a)) := (pe_tup h).wk fun σ H Q q => by
  obtain ⟨G, io, pl, S, de, R, h⟩ := q
  refine ⟨G, io, pl, S, de, R, (Fin.bnd (show Fin Z H G io de σ W ((evl T C de a S).bnd _) _ from h)).imp fun ds S1 k H1 G1 io1 pl1 vs s1 R1 r => ?_⟩
  have k : Fin Z H G io de σ W ((if sizeOk ds.length = true then ret (.tup ds) else fail : M D) S1) _ := k
  split at k
  · rename_i hz
    refine ⟨by rw [r.length]; exact of_decide_eq_true hz, fun p hp => ?_⟩
    obtain ⟨R', s'⟩ := R1.new hp (.tup vs)
    exact k _ _ _ _ _ (s1.trans s') R' (.tup upd_same (r.step s'))
  · exact k.elim
theorem n_lst {a : IR} {es : List Expr} {pos : Pos} (h : PA X es (tL Z T C W a)) : PE X (.List es pos) (tN Z T C W (.lst a)) := (pe_lst h).wk fun σ H Q q => by
  obtain ⟨G, io, pl, S, de, R, h⟩ := q
  refine ⟨G, io, pl, S, de, R, (Fin.bnd (show Fin Z H G io de σ W ((evl T C de a S).bnd _) _ from h)).imp fun ds S1 k H1 G1 io1 pl1 vs s1 R1 r => ?_⟩
  have k : Fin Z H G io de σ W ((if sizeOk ds.length = true then ret (.lst ds) else fail : M D) S1) _ := k
  split at k
  · rename_i hz
    exact ⟨by rw [r.length]; exact of_decide_eq_true hz, fun p hp => new_lst k s1 R1 r hp⟩
  · exact k.elim

/-! ### items -/
theorem atI_rep {vs : List V} {ds : List D} (r : Reps Z G io vs ds) {i : Int} {d : D} (h : atI ds i = some d) : ∃ v, atI vs i = some v ∧ Rep Z G io v d := by
  have h : (ixN ds.length i).bind (fun j => ds[j]?) = some d := h
  obtain ⟨j, h1, h2⟩ := Option.bind_eq_some_iff.mp h
  obtain ⟨v, hv, q⟩ := r.get h2
  refine ⟨v, ?_, q⟩
  show (ixN vs.length i).bind (fun j => vs[j]?) = some v
  rw [r.length, h1]
  exact hv
def rDix : R2 := fun x y H Q => ∃ a v, x = .ref a ∧ DGet H a y (some v) ∧ Q v H
theorem ix_dict (hu : X.A.units + 65 < cLine) : IxR X rDix := by
  intro value slice pn s σ H x y v u Q J rx ry h hs
  obtain ⟨a, w, rfl, g, q⟩ := h
  obtain rfl : v = Value.ref a := rx
  have hT := dict_typeIs J g
  unfold PyProof.Rows.subscriptTail
  refine wpAny_bind ?_
  rw [getitemInPython_of_ne hT.not_modules]
  refine wpAny_bind (wpAny_specialOf hT PySem.F.slot_dict_getitem.lookup ?_)
  have last : wpAny (model X.prog X.w) X.A (subscripted slice false (.ref a) u) (fun r s3 => wpAny (model X.prog X.w) X.A (letTemporaryGo value (.ref a) r >>= fun _ => pure r) (EP X pn σ Q) X.xe s3) X.xe s := by
    rw [hs]
    refine PySem.wpAny_operating (thn (d_getItem (E := X.xe) (Q := EP X pn σ Q) (by omega) J g ry fun w' s3 J3 rw' => ⟨w, H, J3, rw', q⟩) fun r s3 h3 => ?_)
    exact wpAny_bind (wpAny_letTemporaryGo (wpAny_pure h3))
  first
    | exact wpAny_pure (wpAny_bind last)
    | exact wpAny_bind (wpAny_pure (wpAny_bind last))
    | exact wpAny_bind last
def rIxA (K : PySem.W.Frag) : R2 := fun x y H Q => rIx K x y H Q ∨ rDix x y H Q
theorem ix_any (hu : X.A.units + 65 < cLine) : IxR X (rIxA X.K) := ix_seq.or (ix_dict hu)
theorem dget_one {ks : List D} {vs : List D} {v y : V} {k : Ky} {d x : D} (t : Top Z H G io v (.dct ks vs)) (gh : ∀ a u, G a = some u → Held H a u) (r : Rep Z G io y x) (hk : x.ky = some k) (h : dfind k ks vs = some d) : ∃ a w, v = .ref a ∧ DGet H a y (some w) ∧ Rep Z G io w d := by
  generalize e : D.dct ks vs = m at t
  cases t <;> first | (cases e; done) | skip
  · rename_i a kvs ds hH rs
    cases e
    cases k with
    | one k =>
      obtain ⟨rfl, rfl⟩ := rep_key r hk
      rcases dfind_K k rs with ⟨w, d', h1, h2, h3⟩ | ⟨_, h2⟩
      · rw [h] at h2
        cases h2
        exact ⟨a, w, rfl, .inl ⟨kvs, k, hH.rd, rfl, h1.symm⟩, h3⟩
      · rw [h] at h2
        cases h2
    | tup k =>
      exfalso
      clear hH
      induction kvs generalizing vs with
      | nil => cases rs; cases h
      | cons p kvs ih =>
        cases rs with
        | cons q t =>
          rename_i d1 ds1
          have h : (if (keyD p.1).ky = some (.tup k) then some d1 else dfind (.tup k) (kvs.map fun p => keyD p.1) ds1) = some d := h
          rw [if_neg (by rw [ky_keyD]; simp)] at h
          exact ih t h
  · rename_i a kvs ds hne hH rs
    cases e
    cases k with
    | tup k =>
      obtain ⟨b, rfl, hb, rfl⟩ := rep_keyT r hk
      rcases dfind_T k rs with ⟨w, d', h1, h2, h3⟩ | ⟨_, h2⟩
      · rw [h] at h2
        cases h2
        exact ⟨a, w, rfl, .inr ⟨kvs, k, b, hH.rd, rfl, (gh _ _ hb).same rfl, h1.symm⟩, h3⟩
      · rw [h] at h2
        cases h2
    | one k =>
      exfalso
      clear hH hne
      induction kvs generalizing vs with
      | nil => cases rs; cases h
      | cons p kvs ih =>
        cases rs with
        | cons q t =>
          rename_i d1 ds1
          have h : (if (D.tup (p.1.map keyD)).ky = some (.one k) then some d1 else dfind (.one k) (kvs.map fun p => .tup (p.1.map keyD)) ds1) = some d := h
          rw [if_neg (by rw [ky_tup]; simp)] at h
          exact ih t h
theorem s_idx {a b : IR} {e f : Expr} {pos : Pos} (hu : X.A.units + 65 < cLine) (hK : X.K = Z.K) (ha : PE X e (tO Z T C W a)) (hb : PE X f (tE Z T C W b)) (hs : PlainIx f) : PE X (.Subscript e f pos) (tE Z T C W (.idx a b)) := (pe_ix (ix_any hu) ha hb hs).wk fun σ H Q q => by
  obtain ⟨G, io, pl, S, de, R, h⟩ := q
  refine ⟨G, io, pl, S, de, R, (Fin.bnd (show Fin Z H G io de σ W ((ev T C de a S).bnd _) _ from h)).imp fun x S1 k H1 G1 io1 pl1 v s1 R1 o1 => ?_⟩
  refine ⟨G1, io1, pl1, S1, de, R1, (Fin.bnd (show Fin Z H G io de σ W ((ev T C de b S1).bnd _) _ from k)).at s1 fun y S2 k2 H2 G2 io2 pl2 u s2 R2 r2 => ?_⟩
  obtain ⟨d, e2, k2⟩ := k2.lift
  have g : Go Z H2 G2 io2 S2 de σ d Q := Go.of (S := S2) (s1.trans s2) k2 rfl
  have t := (o1.step s2).topd R2
  rw [hK]
  generalize view S2 x = vx at e2 t
  cases vx <;> first | (cases e2; done) | skip
  · rename_i s
    cases t
    cases r2 <;> first | (cases e2; done) | skip
    rename_i i
    have e2 : (if sizeOk s.length = true then (atI s.cps.toList i).map (fun c => D.str ⟨#[c]⟩) else none) = some d := e2
    split at e2 <;> first | (cases e2; done) | skip
    rename_i hz
    obtain ⟨c, hc, e2⟩ := Option.map_eq_some_iff.mp e2
    subst e2
    exact .inl (.inr (.inr ⟨_, _, c, rfl, rfl, of_decide_eq_true hz, hc, g.here R2 (.str _)⟩))
  · cases t with
    | tup h r =>
      cases r2 <;> first | (cases e2; done) | skip
      obtain ⟨w, hw, rw'⟩ := atI_rep r e2
      exact .inl (.inr (.inl ⟨_, _, _, w, rfl, rfl, SqT.of h, hw, g.here R2 rw'⟩))
  · cases t with
    | lst h r =>
      cases r2 <;> first | (cases e2; done) | skip
      obtain ⟨w, hw, rw'⟩ := atI_rep r e2
      exact .inl (.inl ⟨_, _, _, w, rfl, rfl, SqL.of h, hw, g.here R2 rw'⟩)
  · cases t with
    | ro h r =>
      cases r2 <;> first | (cases e2; done) | skip
      obtain ⟨w, hw, rw'⟩ := atI_rep r e2
      rcases h with h | h
      · exact .inl (.inl ⟨_, _, _, w, rfl, rfl, h, hw, g.here R2 rw'⟩)
      · exact .inl (.inr (.inl ⟨_, _, _, w, rfl, rfl, h, hw, g.here R2 rw'⟩))
  · rename_i ks vs
    have e2 : (match y.ky with | some k => dfind k ks vs | none => none) = some d := e2
    cases hk : y.ky with
    | none => rw [hk] at e2; cases e2
    | some kk =>
      rw [hk] at e2
      obtain ⟨a, w, ev, dg, rw'⟩ := dget_one t R2.gh r2 hk e2
      exact .inr ⟨a, w, ev, dg, g.here R2 rw'⟩

/-! ### slices -/
theorem s_pnil : PO X none (tP Z T C W .nil) := ⟨fun pn s σ H Q J q => (po_none (X := X)).run pn s σ H Q J (by
  obtain ⟨G, io, pl, S, de, R, h⟩ := q
  exact h H G io pl .refl R)⟩
theorem s_pone {a t : IR} {e : Expr} (ha : PE X e (tE Z T C W a)) : PO X (some e) (tP Z T C W (.cons a t)) := ⟨fun pn s σ H Q J q => (po_some ha).run pn s σ H Q J (by
  obtain ⟨G, io, pl, S, de, R, h⟩ := q
  refine ⟨G, io, pl, S, de, R, (Fin.bnd (show Fin Z H G io de σ W ((ev T C de a S).bnd _) _ from h)).imp fun x S1 k H1 G1 io1 pl1 v s1 R1 r => ?_⟩
  cases r <;> first | exact (k : False).elim | skip
  exact ⟨_, rfl, k H1 G1 io1 pl1 s1 R1⟩)⟩
theorem cut_rep {vs : List V} {ds : List D} (r : Reps Z G io vs ds) (lo hi : Option Int) : Reps Z G io (cutV vs lo hi) (cutD ds lo hi) := by
  have hl := r.length
  unfold cutV cutD
  rw [hl]
  generalize HT.sIx ds.length 0 lo = i
  generalize HT.sIx ds.length ds.length hi - i = j
  clear hl
  induction i generalizing vs ds with
  | zero =>
    rw [List.drop_zero, List.drop_zero]
    induction j generalizing vs ds with
    | zero => rw [List.take_zero, List.take_zero]; exact .nil
    | succ j ih =>
      cases r with
      | nil => exact .nil
      | cons h t => exact .cons h (ih t)
  | succ i ih =>
    cases r with
    | nil => rw [List.drop_nil, List.take_nil, List.drop_nil, List.take_nil]; exact .nil
    | cons h t => exact ih t
def rSlB (K : PySem.W.Frag) : V → Option Int → Option Int → Hp → VK → Prop := fun x lo hi H Q => rSlL K x lo hi H Q ∨ rSlA K x lo hi H Q
theorem cut_whole {ds : List D} {lo hi : Option Int} (h : HT.sIx ds.length 0 lo = 0 ∧ HT.sIx ds.length ds.length hi = ds.length) : cutD ds lo hi = ds := by
  unfold cutD
  rw [h.1, h.2, List.drop_zero, Nat.sub_zero, List.take_length]
theorem s_sli {a lo hi : IR} {e : Expr} {l u : Option Expr} {pos p2 : Pos} (hK : X.K = Z.K) (ha : PE X e (tO Z T C W a)) (hl : PO X l (tP Z T C W lo)) (hh : PO X u (tP Z T C W hi)) : PE X (.Subscript e (.Slice l u none p2) pos) (tE Z T C W (.sli a lo hi)) := (pe_slice (sl_list.or sl_tupA) ha hl hh).wk fun σ H Q q => by
  obtain ⟨G, io, pl, S, de, R, h⟩ := q
  refine ⟨G, io, pl, S, de, R, (Fin.bnd (show Fin Z H G io de σ W ((ev T C de a S).bnd _) _ from h)).imp fun x S1 k H1 G1 io1 pl1 v s1 R1 o1 => ?_⟩
  refine ⟨G1, io1, pl1, S1, de, R1, (Fin.bnd (show Fin Z H G io de σ W ((evo T C de lo S1).bnd _) _ from k)).at s1 fun lo' S2 k2 H2 G2 io2 pl2 s2 R2 => ?_⟩
  refine ⟨G2, io2, pl2, S2, de, R2, (Fin.bnd (show Fin Z H G io de σ W ((evo T C de hi S2).bnd _) _ from k2)).at (s1.trans s2) fun hi' S3 k3 H3 G3 io3 pl3 s3 R3 => ?_⟩
  obtain ⟨d, e3, k3⟩ := k3.lift
  have g : Go Z H3 G3 io3 S3 de σ d Q := Go.of (S := S3) ((s1.trans s2).trans s3) k3 rfl
  have t := ((o1.step s2).step s3).topd R3
  rw [hK]
  generalize view S3 x = vx at e3 t
  cases vx <;> first | (cases e3; done) | skip
  · cases t with
    | tup h r =>
      cases e3
      refine .inr ⟨_, _, rfl, SqT.of h, fun w => ?_, fun w p hp => g.tup R3 (cut_rep r lo' hi') hp⟩
      rw [r.length] at w
      obtain ⟨G', R', s', hg⟩ := R3.seen h
      rw [cut_whole w] at g
      exact g _ _ _ _ _ s' R' (.tup hg (r.step s'))
  · cases t with
    | lst h r =>
      cases e3
      exact .inl ⟨_, _, rfl, SqL.of h, fun p hp => g.lst R3 (cut_rep r lo' hi') hp⟩
end
end Y
/-! Y7: calls of built-ins. -/
namespace Y
open PySem L2
open PySem.W (EachIs)

/-! ### sorted, at the layer -/
section
variable {X : Cx}
def rSortD (K : PySem.W.Frag) : List V → Hp → VK → Prop := fun vs H Q => ∃ (a : Addr) (bs : List (V × PyData)), vs = [.ref a] ∧ SqL K H a (bs.map (·.1)) ∧ (∀ b ∈ bs, Dp K H b.1 b.2) ∧ PySem.W.AllAlike (bs.map (·.2)) ∧ PySem.W.Sortable (bs.map (·.2)) ∧ bs.length ≤ sizeLine ∧ (∀ b ∈ bs, b.2.depth ≤ 64) ∧
  ∀ p, H p = none → Q (.ref p) (upd H p (.lst ((bs.mergeSort (PySem.W.dataLe false fun b => b.2)).map (·.1))))
theorem each_of {R : Value → V × PyData → Prop} : ∀ {bs : List (V × PyData)} {us : List Value}, Vals (bs.map (·.1)) us → (∀ b ∈ bs, ∀ u, RelV b.1 u → R u b) → EachIs R us bs
  | [], us, r, _ => by cases r; exact .nil
  | b :: bs, us, r, h => by
    cases r with
    | cons q t => exact .cons (h b List.mem_cons_self _ q) (each_of t fun b hb => h b (List.mem_cons_of_mem _ hb))
theorem each_vals : ∀ {bs : List (V × PyData)} {us : List Value}, EachIs (fun u (b : V × PyData) => RelV b.1 u) us bs → Vals (bs.map (·.1)) us
  | _, _, .nil => .nil
  | _, _, .cons h t => .cons h (each_vals t)
theorem cr_sortedD (hu : X.A.units + 80 < cLine) : CallR X (.builtin "sorted") (rSortD X.K) := by
  intro pn s σ H vs us Q J r h
  obtain ⟨a, bs, rfl, hs, hd, hal, hk, hz, hdp, q⟩ := h
  obtain ⟨its, rv, hl, _⟩ := J.list hs
  rw [Vals.ref1 r]
  refine PySem.W.sorted_data (enc := fun b : V × PyData => b.2) (R := fun u b => RelV b.1 u) hl.isList (each_of rv fun b _ u q => q) (each_of rv fun b hb u q => Dp.reads J _ _ _ (hd b hb) q) hal hk hz (fun b hb => ?_) fun out hl2 he => ?_
  · have := hdp b hb
    show X.A.units + 2 + b.2.depth < cLine
    omega
  · obtain ⟨ep, he'⟩ := PyProof.Rows.sortedAll_at s.heap its out.toArray
    have rv2 := each_vals he
    have hlen : ((bs.mergeSort (PySem.W.dataLe false fun b => b.2)).map (·.1)).length ≤ sizeLine := by rw [List.length_map, List.length_mergeSort]; exact hz
    exact ⟨.ref _, upd H (s.heap.objs.size + 1) (.lst _), J.laid (t' := s.toks) (fun _ _ => PyProof.Rows.sortedAll_old) (Nat.le_succ _) ⟨hlen, out, ep, rv2, he'⟩, rfl, q _ (J.hok.fresh (Nat.le_succ _))⟩
end

section
variable {Z : Zc} {T : Tb} {C : Calls} {W : WX} {X : Cx} {H G H' G' : Hp} {io io' : List Addr} {pl pl' : Plc} {S S' : Store} {de : Env} {σ : L2.St}
inductive Tops (Z : Zc) (H G : Hp) (io : List Addr) : List V → List D → Prop where
  | nil : Tops Z H G io [] []
  | cons {v : V} {d : D} {vs : List V} {ds : List D} (h : Top Z H G io v d) (t : Tops Z H G io vs ds) : Tops Z H G io (v :: vs) (d :: ds)
theorem Opds.tops (R : Rel Z H G io pl S de σ) {vs : List V} {ds : List D} (o : Opds Z G io de σ vs ds) : Tops Z H G io vs (ds.map (view S)) := by
  induction o with
  | nil => exact .nil
  | cons h t ih => exact .cons (h.topd R) ih
theorem Tops.one {v : List V} {ds : List D} (t : Tops Z H G io v ds) {d : D} (e : ds = [d]) : ∃ u, v = [u] ∧ Top Z H G io u d := by
  subst e
  cases t with
  | cons h t =>
    cases t
    exact ⟨_, rfl, h⟩
theorem Tops.two {v : List V} {ds : List D} (t : Tops Z H G io v ds) {d e : D} (q : ds = [d, e]) : ∃ u w, v = [u, w] ∧ Top Z H G io u d ∧ Top Z H G io w e := by
  subst q
  cases t with
  | cons h t =>
    cases t with
    | cons h2 t =>
      cases t
      exact ⟨_, _, rfl, h, h2⟩
def NGo (Z : Zc) (H G : Hp) (io : List Addr) (S : Store) (de : Env) (σ : L2.St) (d : D) (Q : VK) : Prop := ∀ H' G' io' pl' p, Step H G io H' G' io' → Rel Z H' G' io' pl' S de σ → Own Z H' G' io' p d → pl' p = none → G' p = none → H p = none → isFresh d = true → Q (.ref p) H'
def PBok (Z : Zc) (b : BI) (r : List V → Hp → VK → Prop) : Prop := ∀ {H G : Hp} {io : List Addr} {pl : Plc} {S : Store} {de : Env} {σ : L2.St} {vs : List V} {ds : List D} {d : D} {Q : VK}, Rel Z H G io pl S de σ → Tops Z H G io vs ds → pBi b ds = some d → Go Z H G io S de σ d Q → r vs H Q
def PNok (Z : Zc) (b : BI) (r : List V → Hp → VK → Prop) : Prop := ∀ {H G : Hp} {io : List Addr} {pl : Plc} {S : Store} {de : Env} {σ : L2.St} {vs : List V} {ds : List D} {d : D} {Q : VK}, Rel Z H G io pl S de σ → Tops Z H G io vs ds → pBi b ds = some d → NGo Z H G io S de σ d Q → r vs H Q
theorem s_bi {b : BI} {a : IR} {e : Expr} {r : List V → Hp → VK → Prop} (hok : PBok Z b r) (h : PE X e (tCB r (tLO Z T C W a))) : PE X e (tE Z T C W (.bi b a)) := h.wk fun σ H Q q => by
  obtain ⟨G, io, pl, S, de, R, h⟩ := q
  refine ⟨G, io, pl, S, de, R, (Fin.bnd (show Fin Z H G io de σ W ((evl T C de a S).bnd _) _ from h)).imp fun ds S1 k H1 G1 io1 pl1 vs s1 R1 o => ?_⟩
  obtain ⟨d, e, k⟩ := k.lift
  exact hok R1 (o.tops R1) e (Go.of (S := S1) s1 k rfl)
theorem n_bi {b : BI} {a : IR} {e : Expr} {r : List V → Hp → VK → Prop} (hok : PNok Z b r) (h : PE X e (tCB r (tLO Z T C W a))) : PE X e (tN Z T C W (.bi b a)) := h.wk fun σ H Q q => by
  obtain ⟨G, io, pl, S, de, R, h⟩ := q
  refine ⟨G, io, pl, S, de, R, (Fin.bnd (show Fin Z H G io de σ W ((evl T C de a S).bnd _) _ from h)).imp fun ds S1 k H1 G1 io1 pl1 vs s1 R1 o => ?_⟩
  obtain ⟨d, e, k⟩ := k.lift
  exact hok R1 (o.tops R1) e fun H2 G2 io2 pl2 p s2 R2 ow n g h0 f => k H2 G2 io2 pl2 p (s1.trans s2) R2 ow n g (s1.none h0) f
theorem NGo.lst {ds : List D} {vs : List V} {Q : VK} (k : NGo Z H G io S de σ (.lst ds) Q) (R : Rel Z H G io pl S de σ) (r : Reps Z G io vs ds) {p : Addr} (hp : H p = none) : Q (.ref p) (upd H p (.lst vs)) := new_lst k .refl R r hp

/-- lists of ints, of bools -/
theorem reps_ints : ∀ {ds : List D} {ns : List Int} {vs : List V}, dInts ds = some ns → Reps Z G io vs ds → vs = ns.map V.int ∧ ds = ns.map D.int
  | [], ns, vs, e, r => by
    cases e
    cases r
    exact ⟨rfl, rfl⟩
  | d :: ds, ns, vs, e, r => by
    cases r with
    | cons h t =>
      cases h <;> first | (cases e; done) | skip
      rename_i i
      have e : (dInts ds).map (i :: ·) = some ns := e
      obtain ⟨l, hl, e⟩ := Option.map_eq_some_iff.mp e
      subst e
      obtain ⟨h1, h2⟩ := reps_ints hl t
      rw [h1, h2]
      exact ⟨rfl, rfl⟩
theorem reps_bls : ∀ {ds : List D} {ns : List Bool} {vs : List V}, dBls ds = some ns → Reps Z G io vs ds → vs = ns.map V.bl
  | [], ns, vs, e, r => by
    cases e
    cases r
    rfl
  | d :: ds, ns, vs, e, r => by
    cases r with
    | cons h t =>
      cases h <;> first | (cases e; done) | skip
      rename_i i
      have e : (dBls ds).map (i :: ·) = some ns := e
      obtain ⟨l, hl, e⟩ := Option.map_eq_some_iff.mp e
      subst e
      rw [reps_bls hl t]
      rfl

/-! ### each built-in -/
def rLenA (K : PySem.W.Frag) : List V → Hp → VK → Prop := fun xs H Q => (∃ x n, xs = [x] ∧ LenV K x H n ∧ Q (.int n) H) ∨ ∃ a kvs, xs = [V.ref a] ∧ H a = some (.dK kvs) ∧ Q (.int kvs.length) H
theorem call_lenA : CallR X (.builtin "len") (rLenA X.K) := call_len.or call_lenD
theorem ok_len : PBok Z .len (rLenA Z.K) := by
  intro H G io pl S de σ vs ds d Q R t e k
  match ds, t, e with
  | [.lst xs], t, e =>
    obtain ⟨v, rfl, tt⟩ := t.one rfl
    cases e
    cases tt with
    | lst h r => exact .inl ⟨_, _, rfl, .inl ⟨_, SqL.of h, r.length.symm⟩, k.here R (.int _)⟩
  | [.tup xs], t, e =>
    obtain ⟨v, rfl, tt⟩ := t.one rfl
    cases e
    cases tt with
    | tup h r => exact .inl ⟨_, _, rfl, .inr ⟨_, SqT.of h, r.length.symm⟩, k.here R (.int _)⟩
  | [.ro xs], t, e =>
    obtain ⟨v, rfl, tt⟩ := t.one rfl
    cases e
    cases tt with
    | ro h r =>
      rcases h with h | h
      · exact .inl ⟨_, _, rfl, .inl ⟨_, h, r.length.symm⟩, k.here R (.int _)⟩
      · exact .inl ⟨_, _, rfl, .inr ⟨_, h, r.length.symm⟩, k.here R (.int _)⟩
  | [.str s], t, e =>
    obtain ⟨v, rfl, tt⟩ := t.one rfl
    have e' : (if sizeOk s.length = true then some (D.int s.length) else none) = some d := e
    clear e
    split at e' <;> cases e'
    rename_i hz
    cases tt
    exact .inl ⟨_, _, rfl, ⟨of_decide_eq_true hz, rfl⟩, k.here R (.int _)⟩
theorem ok_all : PBok Z .all (rAll Z.K) := by
  intro H G io pl S de σ vs ds d Q R t e k
  match ds, t, e with
  | [.lst xs], t, e =>
    obtain ⟨v, rfl, tt⟩ := t.one rfl
    obtain ⟨bs, hb, e⟩ := Option.map_eq_some_iff.mp (show (dBls xs).map (fun bs => D.bl (bs.all id)) = some d from e)
    subst e
    cases tt with
    | lst h r =>
      rw [reps_bls hb r] at h
      exact ⟨_, bs, rfl, SqL.of h, k.here R (.bl _)⟩
theorem ok_any : PBok Z .any (rAny Z.K) := by
  intro H G io pl S de σ vs ds d Q R t e k
  match ds, t, e with
  | [.lst xs], t, e =>
    obtain ⟨v, rfl, tt⟩ := t.one rfl
    obtain ⟨bs, hb, e⟩ := Option.map_eq_some_iff.mp (show (dBls xs).map (fun bs => D.bl (bs.any id)) = some d from e)
    subst e
    cases tt with
    | lst h r =>
      rw [reps_bls hb r] at h
      exact ⟨_, bs, rfl, SqL.of h, k.here R (.bl _)⟩
def rListA (K : PySem.W.Frag) : List V → Hp → VK → Prop := fun xs H Q => ∃ p ys, xs = [.ref p] ∧ (SqL K H p ys ∨ SqT K H p ys) ∧ ∀ l, H l = none → Q (.ref l) (upd H l (.lst ys))
theorem ok_list : PNok Z .list (rListA Z.K) := by
  intro H G io pl S de σ vs ds d Q R t e k
  match ds, t, e with
  | [.lst xs], t, e =>
    obtain ⟨v, rfl, tt⟩ := t.one rfl
    cases e
    cases tt with
    | lst h r => exact ⟨_, _, rfl, .inl (SqL.of h), fun p hp => k.lst R r hp⟩
  | [.tup xs], t, e =>
    obtain ⟨v, rfl, tt⟩ := t.one rfl
    cases e
    cases tt with
    | tup h r => exact ⟨_, _, rfl, .inr (SqT.of h), fun p hp => k.lst R r hp⟩
  | [.ro xs], t, e =>
    obtain ⟨v, rfl, tt⟩ := t.one rfl
    cases e
    cases tt with
    | ro h r => exact ⟨_, _, rfl, h, fun p hp => k.lst R r hp⟩
def rTupA (K : PySem.W.Frag) : List V → Hp → VK → Prop := fun xs H Q => ∃ p ys, xs = [.ref p] ∧ ((SqL K H p ys ∧ ∀ l, H l = none → Q (.ref l) (upd H l (.tup ys))) ∨ (SqT K H p ys ∧ Q (.ref p) H))
theorem ok_tuple : PBok Z .tuple (rTupA Z.K) := by
  intro H G io pl S de σ vs ds d Q R t e k
  match ds, t, e with
  | [.lst xs], t, e =>
    obtain ⟨v, rfl, tt⟩ := t.one rfl
    cases e
    cases tt with
    | lst h r => exact ⟨_, _, rfl, .inl ⟨SqL.of h, fun p hp => k.tup R r hp⟩⟩
  | [.tup xs], t, e =>
    obtain ⟨v, rfl, tt⟩ := t.one rfl
    cases e
    cases tt with
    | tup h r =>
      obtain ⟨G', R', s', hg⟩ := R.seen h
      exact ⟨_, _, rfl, .inr ⟨SqT.of h, k _ _ _ _ _ s' R' (.tup hg (r.step s'))⟩⟩
theorem ok_abs : PBok Z .abs (fun xs H Q => ∃ i, xs = [.int i] ∧ Q (.int (if i < 0 then -i else i)) H) := by
  intro H G io pl S de σ vs ds d Q R t e k
  match ds, t, e with
  | [.int i], t, e =>
    obtain ⟨v, rfl, tt⟩ := t.one rfl
    cases e
    cases tt
    exact ⟨_, rfl, k.here R (.int _)⟩
theorem ok_int1 : PBok Z .int (fun xs H Q => (∃ i, xs = [.int i] ∧ Q (.int i) H) ∨ ∃ k, xs = [.bl k] ∧ Q (.int (if k then 1 else 0)) H) := by
  intro H G io pl S de σ vs ds d Q R t e k
  match ds, t, e with
  | [.int i], t, e =>
    obtain ⟨v, rfl, tt⟩ := t.one rfl
    cases e
    cases tt
    exact .inl ⟨_, rfl, k.here R (.int _)⟩
  | [.bl b], t, e =>
    obtain ⟨v, rfl, tt⟩ := t.one rfl
    cases e
    cases tt
    exact .inr ⟨_, rfl, k.here R (.int _)⟩
theorem ok_max2 : PBok Z .max2 (fun xs H Q => ∃ i j, xs = [.int i, .int j] ∧ Q (.int (if j > i then j else i)) H) := by
  intro H G io pl S de σ vs ds d Q R t e k
  match ds, t, e with
  | [.int i, .int j], t, e =>
    obtain ⟨v, w, rfl, tt, t2⟩ := t.two rfl
    cases e
    cases tt
    cases t2
    exact ⟨_, _, rfl, k.here R (.int _)⟩
theorem ok_min2 : PBok Z .min2 (fun xs H Q => ∃ i j, xs = [.int i, .int j] ∧ Q (.int (if j < i then j else i)) H) := by
  intro H G io pl S de σ vs ds d Q R t e k
  match ds, t, e with
  | [.int i, .int j], t, e =>
    obtain ⟨v, w, rfl, tt, t2⟩ := t.two rfl
    cases e
    cases tt
    cases t2
    exact ⟨_, _, rfl, k.here R (.int _)⟩
theorem maxL_ge : ∀ (r : List Int) (m : Int), m ≤ maxL m r ∧ (∀ y ∈ r, y ≤ maxL m r) ∧ (maxL m r = m ∨ maxL m r ∈ r)
  | [], m => ⟨Int.le_refl _, by simp, .inl rfl⟩
  | x :: r, m => by
    obtain ⟨h1, h2, h3⟩ := maxL_ge r (if x > m then x else m)
    have e : maxL m (x :: r) = maxL (if x > m then x else m) r := rfl
    rw [e]
    refine ⟨?_, fun y hy => ?_, ?_⟩
    · split at h1 <;> rename_i c <;> simp only [c, if_true, if_false] <;> omega
    · rcases List.mem_cons.mp hy with rfl | hy
      · split at h1 <;> rename_i c <;> simp only [c, if_true, if_false] <;> omega
      · exact h2 y hy
    · rcases h3 with h3 | h3
      · by_cases c : x > m
        · rw [if_pos c] at h3 ⊢
          exact .inr (by rw [h3]; exact List.mem_cons_self)
        · rw [if_neg c] at h3 ⊢
          exact .inl h3
      · exact .inr (List.mem_cons_of_mem _ h3)
theorem minL_le : ∀ (r : List Int) (m : Int), minL m r ≤ m ∧ (∀ y ∈ r, minL m r ≤ y) ∧ (minL m r = m ∨ minL m r ∈ r)
  | [], m => ⟨Int.le_refl _, by simp, .inl rfl⟩
  | x :: r, m => by
    obtain ⟨h1, h2, h3⟩ := minL_le r (if x < m then x else m)
    have e : minL m (x :: r) = minL (if x < m then x else m) r := rfl
    rw [e]
    refine ⟨?_, fun y hy => ?_, ?_⟩
    · split at h1 <;> rename_i c <;> simp only [c, if_true, if_false] <;> omega
    · rcases List.mem_cons.mp hy with rfl | hy
      · split at h1 <;> rename_i c <;> simp only [c, if_true, if_false] <;> omega
      · exact h2 y hy
    · rcases h3 with h3 | h3
      · by_cases c : x < m
        · rw [if_pos c] at h3 ⊢
          exact .inr (by rw [h3]; exact List.mem_cons_self)
        · rw [if_neg c] at h3 ⊢
          exact .inl h3
      · exact .inr (List.mem_cons_of_mem _ h3)
theorem ok_maxl : PBok Z .maxl (rMax Z.K) := by
  intro H G io pl S de σ vs ds d Q R t e k
  match ds, t, e with
  | [.lst xs], t, e =>
    obtain ⟨v, rfl, tt⟩ := t.one rfl
    have e : (match dInts xs with | some (x :: r) => some (D.int (maxL x r)) | _ => none) = some d := e
    cases hx : dInts xs with
    | none => rw [hx] at e; cases e
    | some ns =>
      rw [hx] at e
      cases ns with
      | nil => cases e
      | cons x r =>
        cases e
        cases tt with
        | lst h rr =>
          rw [(reps_ints hx rr).1] at h
          refine ⟨_, x :: r, rfl, SqL.of h, by simp, fun m hm hy => ?_⟩
          obtain ⟨h1, h2, h3⟩ := maxL_ge r x
          have : m = maxL x r := by
            have a : m ≤ maxL x r := (List.mem_cons.mp hm).elim (fun z => by rw [z]; exact h1) fun z => h2 m z
            have b : maxL x r ≤ m := hy _ (h3.elim (fun z => by rw [z]; exact List.mem_cons_self) fun z => List.mem_cons_of_mem _ z)
            omega
          rw [this]
          exact k.here R (.int _)
theorem ok_minl : PBok Z .minl (rMin Z.K) := by
  intro H G io pl S de σ vs ds d Q R t e k
  match ds, t, e with
  | [.lst xs], t, e =>
    obtain ⟨v, rfl, tt⟩ := t.one rfl
    have e : (match dInts xs with | some (x :: r) => some (D.int (minL x r)) | _ => none) = some d := e
    cases hx : dInts xs with
    | none => rw [hx] at e; cases e
    | some ns =>
      rw [hx] at e
      cases ns with
      | nil => cases e
      | cons x r =>
        cases e
        cases tt with
        | lst h rr =>
          rw [(reps_ints hx rr).1] at h
          refine ⟨_, x :: r, rfl, SqL.of h, by simp, fun m hm hy => ?_⟩
          obtain ⟨h1, h2, h3⟩ := minL_le r x
          have : m = minL x r := by
            have a : minL x r ≤ m := (List.mem_cons.mp hm).elim (fun z => by rw [z]; exact h1) fun z => h2 m z
            have b : m ≤ minL x r := hy _ (h3.elim (fun z => by rw [z]; exact List.mem_cons_self) fun z => List.mem_cons_of_mem _ z)
            omega
          rw [this]
          exact k.here R (.int _)

/-- sorted -/
theorem reps_zip {vs : List V} {ds : List D} (r : Reps Z G io vs ds) : (vs.zip (ds.map D.py)).map (·.1) = vs ∧ (vs.zip (ds.map D.py)).map (·.2) = ds.map D.py := by
  have hl := r.length
  exact ⟨List.map_fst_zip (by rw [List.length_map]; omega), List.map_snd_zip (by rw [List.length_map]; omega)⟩
theorem sort_reps {vs : List V} {ds : List D} (r : Reps Z G io vs ds) : Reps Z G io (((vs.zip (ds.map D.py)).mergeSort (PySem.W.dataLe false fun b => b.2)).map (·.1)) (ds.mergeSort leD) := by
  have hl := r.length
  -- one list of pairs below both
  let ps : List (V × D) := vs.zip ds
  have e1 : vs.zip (ds.map D.py) = ps.map fun p => (p.1, p.2.py) := by
    show _ = (vs.zip ds).map _
    rw [List.zip_map_right]
    rfl
  have e2 : ds = ps.map (·.2) := (List.map_snd_zip (by omega)).symm
  have hall : ∀ p ∈ ps, Rep Z G io p.1 p.2 := fun p hp => by
    obtain ⟨i, hi, e⟩ := List.mem_iff_getElem.mp hp
    have h1 : ps[i]? = some p := by rw [List.getElem?_eq_getElem hi, e]
    have h1 : (vs.zip ds)[i]? = some p := h1
    rw [List.getElem?_zip_eq_some] at h1
    obtain ⟨v, hv, q⟩ := r.get h1.2
    rw [h1.1] at hv
    cases hv
    exact q
  have s1 : (ps.map fun p => (p.1, p.2.py)).mergeSort (PySem.W.dataLe false fun b : V × PyData => b.2) = (ps.mergeSort fun a b => leD a.2 b.2).map fun p => (p.1, p.2.py) :=
    (List.map_mergeSort (f := fun p : V × D => (p.1, p.2.py)) (r := fun a b => leD a.2 b.2) (fun a _ b _ => rfl)).symm
  have s2 : (ps.map (·.2)).mergeSort leD = (ps.mergeSort fun a b => leD a.2 b.2).map (·.2) := (List.map_mergeSort (f := fun p : V × D => p.2) (r := fun a b => leD a.2 b.2) (fun a _ b _ => rfl)).symm
  rw [e1, s1]
  have s3 : ds.mergeSort leD = (ps.mergeSort fun a b => leD a.2 b.2).map (·.2) := by
    rw [← s2, ← e2]
  rw [s3, List.map_map]
  have hm : ∀ p ∈ ps.mergeSort (fun a b => leD a.2 b.2), Rep Z G io p.1 p.2 := fun p hp => hall p (List.mem_mergeSort.mp hp)
  generalize ps.mergeSort (fun a b => leD a.2 b.2) = qs at hm
  clear s1 s2 s3 hall
  induction qs with
  | nil => exact .nil
  | cons q qs ih => exact .cons (hm q List.mem_cons_self) (ih fun p hp => hm p (List.mem_cons_of_mem _ hp))
theorem ok_sorted : PNok Z .sorted (rSortD Z.K) := by
  intro H G io pl S de σ vs ds d Q R t e k
  match ds, t, e with
  | [.lst xs], t, e =>
    obtain ⟨v, rfl, tt⟩ := t.one rfl
    have e' : (if sortable xs = true then some (D.lst (xs.mergeSort leD)) else none) = some d := e
    clear e
    split at e' <;> cases e'
    rename_i hz
    unfold sortable at hz
    simp only [Bool.and_eq_true, decide_eq_true_eq, List.all_eq_true] at hz
    obtain ⟨⟨⟨hsh, hlen⟩, hal⟩, hso⟩ := hz
    cases tt with
    | @lst a vs _ h r =>
      have hl := r.length
      obtain ⟨z1, z2⟩ := reps_zip r
      have hmem : ∀ b ∈ vs.zip (xs.map D.py), ∃ x, x ∈ xs ∧ b.2 = x.py ∧ Rep Z G io b.1 x := fun b hb => by
        obtain ⟨i, hi, e⟩ := List.mem_iff_getElem.mp hb
        have h1 : (vs.zip (xs.map D.py))[i]? = some b := by rw [List.getElem?_eq_getElem hi, e]
        rw [List.getElem?_zip_eq_some] at h1
        obtain ⟨h1, h2⟩ := h1
        rw [List.getElem?_map] at h2
        obtain ⟨x, hx, e2⟩ := Option.map_eq_some_iff.mp h2
        obtain ⟨v, hv, q⟩ := r.get hx
        rw [h1] at hv
        cases hv
        exact ⟨x, List.mem_of_getElem? hx, e2.symm, q⟩
      refine ⟨_, vs.zip (xs.map D.py), rfl, by rw [z1]; exact SqL.of h, fun b hb => ?_, ?_, ?_, ?_, fun b hb => ?_, fun p hp => k.lst R (sort_reps r) hp⟩
      · obtain ⟨x, hx, e, q⟩ := hmem b hb
        rw [e]
        exact R.dp q (shaped_ok (hsh x hx)).1
      · rw [z2]
        intro x hx y hy
        obtain ⟨x', hx', rfl⟩ := List.mem_map.mp hx
        obtain ⟨y', hy', rfl⟩ := List.mem_map.mp hy
        exact hal x' hx' y' hy'
      · rw [z2]
        rcases Bool.or_eq_true_iff.mp hso with q | q
        · refine .inl fun x hx => ?_
          obtain ⟨x', hx', rfl⟩ := List.mem_map.mp hx
          have := List.all_eq_true.mp q x' hx'
          split at this
          · rename_i y l
            exact ⟨y.py, D.pys l, rfl⟩
          · cases this
        · refine .inr fun x hx => ?_
          obtain ⟨x', hx', rfl⟩ := List.mem_map.mp hx
          have h1 := List.all_eq_true.mp q x' hx'
          have h2 := (shaped_ok (hsh x' hx')).1
          cases x' <;> first | (cases h1; done) | (cases h2; done) | exact ⟨by simp [D.py], fun l => by simp [D.py]⟩
      · rw [List.length_zip, List.length_map]
        omega
      · obtain ⟨x, hx, e, q⟩ := hmem b hb
        rw [e]
        exact SeqAt.depth_of_shaped (shaped_ok (hsh x hx)).2
end
end Y
/-! Y8: what is walked; list comprehensions. -/
namespace Y
open PySem L2

def lenOk : HO → Prop
  | .lst xs => xs.length ≤ sizeLine
  | .tup xs => xs.length ≤ sizeLine
  | .dK kvs => kvs.length ≤ sizeLine
  | .dT kvs => kvs.length ≤ sizeLine
  | .frz _ u => lenOk u
  | _ => True
def Lens (H : Hp) : Prop := ∀ a u, H a = some u → lenOk u
theorem len_of {P : Program} {w : World} {H : Hp} {h : Heap} {a : Addr} : ∀ {u : HO}, ObjOk P w H h a u → lenOk u
  | .lst xs, x => x.1
  | .tup xs, x => x.1
  | .dK kvs, x => x.1
  | .dT kvs, x => x.1
  | .frz o u, x => len_of (u := u) x.2
  | .set _ _, _ => trivial
  | .ins _ _ _, _ => trivial
  | .own _, _ => trivial
  | .xd _, _ => trivial
  | .met _ _, _ => trivial
  | .rng _ _, _ => trivial
  | .tbl _, _ => trivial
  | .ext _, _ => trivial
theorem lens_of {X : Cx} {pn : List (Addr × Obj)} {σ : L2.St} {H : Hp} {s : Shared} (J : Inv X pn σ H s) : Lens H := fun a u h => len_of (J.hok a u h)

section
variable {Z : Zc} {T : Tb} {C : Calls} {W : WX} {X : Cx} {H G H' G' : Hp} {io io' : List Addr} {pl pl' : Plc} {S S' : Store} {de : Env} {σ : L2.St}
theorem _root_.L2.PE.len {e : Expr} {t : TE} (h : PE X e t) : PE X e fun σ H Q => t σ H fun v H1 => Lens H1 → Q v H1 := ⟨fun pn s σ H Q J q => thn (h.run pn s σ H _ J q) fun u s1 ⟨v, H1, J1, r, q1⟩ => ⟨v, H1, J1, r, q1 (lens_of J1)⟩⟩
theorem _root_.L2.PI.len {tg e : Expr} {t : TI} (h : PI X tg e t) : PI X tg e fun σ H R => t σ H fun J H1 => Lens H1 → R J H1 := ⟨fun pn s σ H R J q => thn (h.run pn s σ H _ J q) fun v s1 h1 => thn h1 fun itv s2 ⟨it, fp, tn, Jt, H1, e, J1, Tn, t0, f, q1⟩ => ⟨it, fp, tn, Jt, H1, e, J1, Tn, t0, f, q1 (lens_of J1)⟩⟩
/-- a dict that is only read from now on is locked -/
theorem _root_.L2.PE.lock {e : Expr} {t : TE} (h : PE X e t) : PE X e fun σ H Q => t σ H fun x H1 => Q x H1 ∨ ∃ d u, x = .ref d ∧ H1 d = some u ∧ Mut (some u) ∧ ∀ od, Q x (upd H1 d (.frz od u)) := ⟨fun pn s σ H Q J q => thn (h.run pn s σ H _ J q) fun u s1 ⟨v, H1, J1, r, q1⟩ => by
  rcases q1 with q1 | ⟨d, o, e, hd, mu, q1⟩
  · exact ⟨v, H1, J1, r, q1⟩
  · obtain ⟨od, J2⟩ := J1.lock hd mu
    exact ⟨v, _, J2, r, q1 od⟩⟩

inductive Yl (Z : Zc) (H G : Hp) (io : List Addr) (v : V) (H' : Hp) : D → Prop where
  | same {d : D} (e : H' = H) (r : Rep Z G io v d) : Yl Z H G io v H' d
  | new {p : Addr} {vs : List V} {ds : List D} (hv : v = .ref p) (hp : H p = none) (e : H' = upd H p (.tup vs)) (r : Reps Z G io vs ds) : Yl Z H G io v H' (.tup ds)
  | seen {q : Addr} {vs : List V} {ds : List D} (hv : v = .ref q) (hq : H q = some (.tup vs)) (e : H' = H) (r : Reps Z G io vs ds) : Yl Z H G io v H' (.tup ds)
def GH (G H : Hp) : Prop := ∀ a u, G a = some u → Held H a u
/-- what a walk needs of what was: the known stays, the locked stays -/
structure Kp (H G : Hp) (io : List Addr) (H' G' : Hp) (io' : List Addr) : Prop where
  gg : ∀ a u, G a = some u → G' a = some u
  kf : ∀ a o u, G a ≠ none → H a = some (.frz o u) → H' a = some (.frz o u)
  ex : ∀ (n : Nat) (a : Addr), io[n]? = some a → io'[n]? = some a
theorem Kp.refl : Kp H G io H G io := ⟨fun _ _ h => h, fun _ _ _ _ h => h, fun _ _ h => h⟩
theorem Rep.kp (s : Kp H G io H' G' io') {v : V} {d : D} (r : Rep Z G io v d) : Rep Z G' io' v d := r.mono s.gg s.ex
theorem Reps.kp (s : Kp H G io H' G' io') {v : List V} {d : List D} (r : Reps Z G io v d) : Reps Z G' io' v d := r.mono s.gg s.ex
structure Wkd (Z : Zc) (H0 G io) (J : It) (items : List D) : Prop where
  len : items.length ≤ sizeLine
  go : ∀ i H G1 io1, Kp H0 G io H G1 io1 → GH G1 H → i < items.length → J.go i H
  yld : ∀ i H G1 io1 v H' d, Kp H0 G io H G1 io1 → GH G1 H → items[i]? = some d → J.yld i H v H' → Yl Z H G1 io1 v H' d
  stop : ∀ H G1 io1, Kp H0 G io H G1 io1 → GH G1 H → J.stop items.length H
theorem Yl.rel (R : Rel Z H G io pl S de σ) {v : V} {d : D} (y : Yl Z H G io v H' d) : ∃ G', Rel Z H' G' io pl S de σ ∧ Step H G io H' G' io ∧ Rep Z G' io v d := by
  cases y with
  | same e r =>
    subst e
    exact ⟨G, R, .refl, r⟩
  | new hv hp e r =>
    subst hv e
    obtain ⟨R', s⟩ := R.new hp (.tup _)
    exact ⟨_, R', s, .tup upd_same (r.step s)⟩
  | seen hv hq e r =>
    subst hv e
    obtain ⟨G', R', s, hg⟩ := R.seen hq
    exact ⟨G', R', s, .tup hg (r.step s)⟩

def tI (Z : Zc) (T : Tb) (C : Calls) (W : WX) (ir : IR) : TI := fun σ H R => ∃ G io pl S de, Rel Z H G io pl S de σ ∧ Fin Z H G io de σ W (evi T C de ir S) fun items S' => ∀ H' G' io' pl' J, Step H G io H' G' io' → Rel Z H' G' io' pl' S' de σ → Wkd Z H' G' io' J items → R J H'

/-! ### lists, tuples, texts, ranges -/
theorem held_l {K : PySem.W.Frag} {a : Addr} {vs : List V} {H1 G1 : Hp} {io1 : List Addr} (g : SqL K G a vs) (s : Kp H G io H1 G1 io1) (gh : GH G1 H1) : SqL K H1 a vs := by
  rcases g with (g | ⟨o, g⟩) | g
  · exact .inl (.inl ((gh a _ (s.gg _ _ g)).same rfl))
  · exact .inl (.inr ⟨o, (gh a _ (s.gg _ _ g)).same rfl⟩)
  · exact .inr g
theorem held_t {K : PySem.W.Frag} {a : Addr} {vs : List V} {H1 G1 : Hp} {io1 : List Addr} (g : SqT K G a vs) (s : Kp H G io H1 G1 io1) (gh : GH G1 H1) : SqT K H1 a vs := by
  rcases g with (g | ⟨o, g⟩) | g
  · exact .inl (.inl ((gh a _ (s.gg _ _ g)).same rfl))
  · exact .inl (.inr ⟨o, (gh a _ (s.gg _ _ g)).same rfl⟩)
  · exact .inr g
theorem len_l {K : PySem.W.Frag} {a : Addr} {vs : List V} (hl : Lens H) (h : SqL K H a vs) : vs.length ≤ sizeLine := by
  rcases h with (h | ⟨o, h⟩) | ⟨o, its, n, _, _, _, _, hz, r⟩
  · exact hl _ _ h
  · exact hl _ _ h
  · rw [r.length, Array.length_toList]
    exact hz
theorem len_t {K : PySem.W.Frag} {a : Addr} {vs : List V} (hl : Lens H) (h : SqT K H a vs) : vs.length ≤ sizeLine := by
  rcases h with (h | ⟨o, h⟩) | ⟨o, its, n, _, _, _, hz, r⟩
  · exact hl _ _ h
  · exact hl _ _ h
  · rw [r.length, Array.length_toList]
    exact hz
theorem wk_l {K : PySem.W.Frag} (hl : Lens H) (gh : GH G H) {a : Addr} {vs : List V} {ds : List D} (g : SqL K G a vs) (r : Reps Z G io vs ds) : Wkd Z H G io (Itl K a) ds := by
  refine ⟨by rw [← r.length]; exact len_l hl (held_l g (Kp.refl (io := io)) gh), fun i H1 G1 io1 s gh hi => ?_, fun i H1 G1 io1 v H' d s gh hd y => ?_, fun H1 G1 io1 s gh => ?_⟩
  · rw [← r.length] at hi
    exact ⟨vs, vs[i], held_l g s gh, List.getElem?_eq_getElem hi⟩
  · obtain ⟨e, y⟩ := y
    obtain ⟨w, hw, q⟩ := r.get hd
    rw [y vs (held_l g s gh)] at hw
    cases hw
    exact .same e (q.kp s)
  · exact ⟨vs, held_l g s gh, by rw [r.length]; exact Nat.le_refl _⟩
theorem wk_t {K : PySem.W.Frag} (hl : Lens H) (gh : GH G H) {a : Addr} {vs : List V} {ds : List D} (g : SqT K G a vs) (r : Reps Z G io vs ds) : Wkd Z H G io (Itt K a) ds := by
  refine ⟨by rw [← r.length]; exact len_t hl (held_t g (Kp.refl (io := io)) gh), fun i H1 G1 io1 s gh hi => ?_, fun i H1 G1 io1 v H' d s gh hd y => ?_, fun H1 G1 io1 s gh => ?_⟩
  · rw [← r.length] at hi
    exact ⟨vs, vs[i], held_t g s gh, List.getElem?_eq_getElem hi⟩
  · obtain ⟨e, y⟩ := y
    obtain ⟨w, hw, q⟩ := r.get hd
    rw [y vs (held_t g s gh)] at hw
    cases hw
    exact .same e (q.kp s)
  · exact ⟨vs, held_t g s gh, by rw [r.length]; exact Nat.le_refl _⟩
theorem wk_r {lo : Int} {n : Nat} (hn : n ≤ sizeLine) : Wkd Z H G io (Itr lo n) ((List.range n).map fun i => .int (lo + (i : Nat))) := by
  refine ⟨by rw [List.length_map, List.length_range]; exact hn, fun i H1 G1 io1 s gh hi => ?_, fun i H1 G1 io1 v H' d s gh hd y => ?_, fun H1 G1 io1 s gh => ?_⟩
  · rw [List.length_map, List.length_range] at hi
    exact hi
  · obtain ⟨e, y⟩ := y
    rw [List.getElem?_map] at hd
    obtain ⟨j, hj, hd⟩ := Option.map_eq_some_iff.mp hd
    obtain ⟨hl, hj⟩ := List.getElem?_eq_some_iff.mp hj
    rw [List.getElem_range] at hj
    subst hj hd y
    exact .same e (.int _)
  · show n ≤ _
    rw [List.length_map, List.length_range]
    exact Nat.le_refl _
theorem wk_s {x : Str} (hz : x.length ≤ sizeLine) : Wkd Z H G io (Its x) (x.cps.toList.map fun c => .str ⟨#[c]⟩) := by
  have hz' : x.cps.size ≤ sizeLine := hz
  refine ⟨by rw [List.length_map, Array.length_toList]; exact hz', fun i H1 G1 io1 s gh hi => ?_, fun i H1 G1 io1 v H' d s gh hd y => ?_, fun H1 G1 io1 s gh => ?_⟩
  · rw [List.length_map, Array.length_toList] at hi
    exact hi
  · obtain ⟨e, c, hc, y⟩ := y
    rw [List.getElem?_map, Array.getElem?_toList, hc] at hd
    cases hd
    subst y
    exact .same e (.str _)
  · show x.cps.size ≤ _
    rw [List.length_map, Array.length_toList]
    exact Nat.le_refl _
/-- a dict that is locked: its keys, its pairs -/
theorem locked {a : Addr} {o : Obj} {u : HO} (h : H a = some (.frz o u)) (g : G a ≠ none) {H1 G1 : Hp} {io1 : List Addr} (s : Kp H G io H1 G1 io1) : H1 a = some (.frz o u) := s.kf a o u g h
theorem wk_K {a : Addr} {o : Obj} {kvs : List (Key × V)} (hl : Lens H) (h : H a = some (.frz o (.dK kvs))) (n : G a ≠ none) : Wkd Z H G io (Itk a o kvs) (kvs.map fun p => keyD p.1) := by
  refine ⟨by rw [List.length_map]; exact hl _ _ h, fun i H1 G1 io1 s gh hi => ?_, fun i H1 G1 io1 v H' d s gh hd y => ?_, fun H1 G1 io1 s gh => ?_⟩
  · rw [List.length_map] at hi
    exact ⟨locked h n s, hi⟩
  · obtain ⟨e, k, w, hk, y⟩ := y
    rw [List.getElem?_map, hk] at hd
    cases hd
    subst y
    refine .same e ?_
    show Rep Z G1 io1 (kV k) (keyD k)
    cases k
    · exact .int _
    · exact .str _
  · exact ⟨locked h n s, by rw [List.length_map]; exact Nat.le_refl _⟩
theorem rep_kV (Z : Zc) (G : Hp) (io : List Addr) (k : Key) : Rep Z G io (kV k) (keyD k) := by
  cases k
  · exact .int _
  · exact .str _
theorem reps_kV (Z : Zc) (G : Hp) (io : List Addr) : ∀ k : List Key, Reps Z G io (k.map kV) (k.map keyD)
  | [] => .nil
  | k :: ks => .cons (rep_kV Z G io k) (reps_kV Z G io ks)
theorem wk_T {a : Addr} {o : Obj} {kvs : List (List Key × V)} (hl : Lens H) (h : H a = some (.frz o (.dT kvs))) (n : G a ≠ none) : Wkd Z H G io (Itkt a o kvs) (kvs.map fun p => .tup (p.1.map keyD)) := by
  refine ⟨by rw [List.length_map]; exact hl _ _ h, fun i H1 G1 io1 s gh hi => ?_, fun i H1 G1 io1 v H' d s gh hd y => ?_, fun H1 G1 io1 s gh => ?_⟩
  · rw [List.length_map] at hi
    exact ⟨locked h n s, hi⟩
  · obtain ⟨e, k, w, q, hk, y, hq⟩ := y
    rw [List.getElem?_map, hk] at hd
    cases hd
    exact .seen y hq e (reps_kV Z _ _ k)
  · exact ⟨locked h n s, by rw [List.length_map]; exact Nat.le_refl _⟩
theorem wk_I {a : Addr} {o : Obj} {kvs : List (Key × V)} {ds : List D} (hl : Lens H) (h : H a = some (.frz o (.dK kvs))) (n : G a ≠ none) (r : Reps Z G io (kvs.map (·.2)) ds) : Wkd Z H G io (Iti a o kvs) (((kvs.map fun p => keyD p.1).zip ds).map fun p => .tup [p.1, p.2]) := by
  have hlen : (((kvs.map fun p => keyD p.1).zip ds).map fun p => D.tup [p.1, p.2]).length = kvs.length := by
    have := r.length
    rw [List.length_map] at this
    rw [List.length_map, List.length_zip, List.length_map]
    omega
  refine ⟨by rw [hlen]; exact hl _ _ h, fun i H1 G1 io1 s gh hi => ?_, fun i H1 G1 io1 v H' d s gh hd y => ?_, fun H1 G1 io1 s gh => ?_⟩
  · rw [hlen] at hi
    exact ⟨locked h n s, hi⟩
  · obtain ⟨p, k, w, hk, y, hp, e⟩ := y
    rw [List.getElem?_map] at hd
    obtain ⟨q, hq, hd⟩ := Option.map_eq_some_iff.mp hd
    rw [List.getElem?_zip_eq_some, List.getElem?_map, hk] at hq
    obtain ⟨h1, h2⟩ := hq
    obtain ⟨q1, q2⟩ := q
    have h1 : keyD k = q1 := Option.some.inj h1
    obtain ⟨w', hw, r'⟩ := r.get h2
    rw [List.getElem?_map, hk] at hw
    cases hw
    subst hd h1
    exact .new y hp e (.cons (rep_kV Z _ _ k) (.cons (r'.kp s) .nil))
  · exact ⟨locked h n s, by rw [hlen]; exact Nat.le_refl _⟩

theorem lens_lock (hl : Lens H) {a : Addr} {u : HO} (h : H a = some u) (od : Obj) : Lens (upd H a (.frz od u)) := fun b o hb => by
  by_cases e : b = a
  · rw [e, upd_same] at hb
    cases hb
    exact hl a u h
  · rw [upd_ne e] at hb
    exact hl b o hb
/-- a known dict is no box -/
theorem Rel.nbox (R : Rel Z H G io pl S de σ) {a : Addr} {u : HO} (g : G a = some u) : a ∉ io := fun hm => by
  obtain ⟨n, hl, e⟩ := List.mem_iff_getElem.mp hm
  have h2 : io[n]? = some a := by rw [List.getElem?_eq_getElem hl, e]
  obtain ⟨b, hb, hp, _⟩ := R.boxes n (S[n]'(by rw [← R.bl]; exact hl)) (List.getElem?_eq_getElem _)
  rw [h2] at hb
  cases hb
  rw [(R.plg a (by rw [hp]; exact Option.some_ne_none _)).1] at g
  cases g
theorem ne_some {α : Type} {o : Option α} {u : α} (h : o = some u) : o ≠ none := by rw [h]; exact Option.some_ne_none _
theorem Kp.of (R : Rel Z H G io pl S de σ) (s : Step H G io H' G' io') : Kp H G io H' G' io' := by
  refine ⟨s.gg, fun a o u g h => ?_, fun n a h => ext_get s h⟩
  obtain ⟨w, hw⟩ := Option.ne_none_iff_exists'.mp g
  rcases s.fr a _ h (R.nbox hw) (fun ps e => by cases e) with q | ⟨i, _⟩
  · exact q
  · cases i
theorem Kp.trans (a : Kp H G io H' G' io') {H2 G2 : Hp} {io2 : List Addr} (b : Kp H' G' io' H2 G2 io2) : Kp H G io H2 G2 io2 := ⟨fun x u h => b.gg _ _ (a.gg _ _ h), fun x o u g h => b.kf x o u (by
  obtain ⟨w, hw⟩ := Option.ne_none_iff_exists'.mp g
  rw [a.gg _ _ hw]
  exact Option.some_ne_none _) (a.kf x o u g h), fun n x h => b.ex n x (a.ex n x h)⟩
/-- a known dict is locked -/
theorem Rel.lock (R : Rel Z H G io pl S de σ) {a : Addr} {u : HO} (g : G a = some u) (h : H a = some u) (i : isD u = true) (od : Obj) : Rel Z (upd H a (.frz od u)) G io pl S de σ ∧ Step H G io (upd H a (.frz od u)) G io := by
  have pn : pl a = none := by
    cases q : pl a with
    | none => rfl
    | some p => rw [(R.plg a (by rw [q]; exact Option.some_ne_none _)).1] at g; cases g
  have hk : ∀ b o, b ≠ a → H b = some o → upd H a (.frz od u) b = some o := fun b o n hb => by rw [upd_ne n]; exact hb
  have ne : ∀ b p, pl b = some p → b ≠ a := fun b p hb e => by rw [e, pn] at hb; cases hb
  have no : ∀ b x, H b = some (.own x) → b ≠ a := fun b x hb e => by
    rw [e, h] at hb
    cases hb
    cases i
  refine ⟨⟨fun b o hb => ?_, R.len, fun k e he => ?_, R.bl, fun n d hd => ?_, fun b hb => ?_⟩, ⟨fun _ _ h => h, fun b h => .inl h, fun b o hb _ _ => ?_, ⟨[], by simp, by simp⟩, fun b hb => ?_, fun b xs hb => ?_⟩⟩
  · by_cases e : b = a
    · subst e
      rw [g] at hb
      cases hb
      exact .inr ⟨i, od, upd_same⟩
    · rcases R.gh b o hb with q | ⟨j, o', q⟩
      · exact .inl (hk _ _ e q)
      · exact .inr ⟨j, o', hk _ _ e q⟩
  · obtain ⟨v, hv, r⟩ := R.slots k e he
    exact ⟨v, hv, r.mono (fun _ _ h => h) (fun _ _ h => h) (fun _ _ _ h => h) (fun b p o hp _ hb => hk b o (ne b p hp) hb) fun b dx hb => ⟨hk _ _ (no _ _ hb) hb, fun g => g⟩⟩
  · obtain ⟨b, hb, hp, ow⟩ := R.boxes n d hd
    exact ⟨b, hb, hp, ow.mono (fun _ _ h => h) (fun _ _ h => h) (fun o ho => hk b o (ne b _ hp) ho) fun c dx fs _ hb => ⟨hk _ _ (no _ _ hb) hb, fun g => g⟩⟩
  · obtain ⟨p, hp⟩ := Option.ne_none_iff_exists'.mp hb
    obtain ⟨h1, h2, h3⟩ := R.plg b hb
    rw [upd_ne (ne b p hp)]
    exact ⟨h1, h2, h3⟩
  · by_cases e : b = a
    · subst e
      rw [h] at hb
      cases hb
      exact .inr ⟨i, g, od, upd_same⟩
    · exact .inl (hk _ _ e hb)
  · by_cases e : b = a
    · subst e
      rw [upd_same]
      exact Option.some_ne_none _
    · rw [upd_ne e]
      exact hb
  · by_cases e : b = a
    · subst e
      rw [upd_same] at hb
      cases hb
    · rw [upd_ne e] at hb
      exact .inl hb

section
variable {tg e : Expr} {a : IR}
def iSeq (K : PySem.W.Frag) (tl : TE) : TI := fun σ H R => tl σ H fun x H1 => ∃ a, x = .ref a ∧ (((∃ xs, SqL K H1 a xs) ∧ R (Itl K a) H1) ∨ ((∃ xs, SqT K H1 a xs) ∧ R (Itt K a) H1))
theorem pi_seq {tl : TE} (he : PE X e tl) : PI X tg e (iSeq X.K tl) := by
  refine ⟨fun pn s σ H Rk J q => ?_⟩
  refine thn (he.run pn s σ H _ J q) fun u s1 ⟨x, H1, J1, rx, d, ex, q1⟩ => ?_
  subst ex
  obtain rfl : u = Value.ref d := rx
  have fp : ∀ b ∈ [s1.heap.objs.size], FpOk X pn H1 b := fun b hb => by
    obtain rfl : b = s1.heap.objs.size := by simpa using hb
    exact J1.fpOk (Nat.le_refl _) (J1.hok.fresh (Nat.le_refl _))
  rcases q1 with ⟨⟨xs, hq⟩, q1⟩ | ⟨⟨xs, hq⟩, q1⟩
  · obtain ⟨its, rv, p, hz⟩ := J1.list hq
    exact wpAny_pyIter_list p.isList ⟨s1.heap.objs.size, [s1.heap.objs.size], _, _, H1, rfl, J1.kept (t' := s1.toks) fun b o e => Heap.get?_push_of_some _ e, turn_list d _, ⟨_, Heap.get?_push_size _ rfl, rfl, rfl⟩, fp, q1⟩
  · obtain ⟨its, rv, p, hz⟩ := J1.tuple hq
    exact wpAny_pyIter_tuple (show s1.heap.IsTuple d its.toArray from p) ⟨s1.heap.objs.size, [s1.heap.objs.size], _, _, H1, rfl, J1.kept (t' := s1.toks) fun b o e => Heap.get?_push_of_some _ e, turn_tuple d _, ⟨_, Heap.get?_push_size _ rfl, rfl, rfl⟩, fp, q1⟩
theorem s_iv (hK : X.K = Z.K) (he : PE X e (tE Z T C W a)) : PI X tg e (tI Z T C W (.iv a)) := ⟨fun pn s σ H Rk J q => by
  obtain ⟨G, io, pl, S, de, R, h⟩ := q
  have h := Fin.bnd (show Fin Z H G io de σ W ((ev T C de a S).bnd _) _ from h)
  generalize hr : ev T C de a S = r at h
  have go : ∀ {Q : VK}, Fin Z H G io de σ W r (fun d S' => ∀ H' G' io' pl' v, Step H G io H' G' io' → Rel Z H' G' io' pl' S' de σ → Rep Z G' io' v d → Q v H') → tE Z T C W a σ H Q := fun k => ⟨G, io, pl, S, de, R, by rw [hr]; exact k⟩
  cases r with
  | bad => exact h.elim
  | exc c fs S1 => exact (pi_list he).run pn s σ H Rk J (go (Q := fun _ _ => _) h)
  | ok x S1 =>
    cases x <;> first | exact (h : False).elim | skip
    · rename_i z
      refine (pi_str he).run pn s σ H Rk J (go fun H1 G1 io1 pl1 v s1 R1 r1 => ?_)
      have h : Fin Z H G io de σ W ((if sizeOk z.length = true then ret (z.cps.toList.map fun c => D.str ⟨#[c]⟩) else fail : M (List D)) S1) _ := h
      split at h
      · rename_i hz
        cases r1
        exact ⟨_, rfl, h H1 G1 io1 pl1 _ s1 R1 (wk_s (of_decide_eq_true hz))⟩
      · exact h.elim
    · refine (pi_seq he.len).run pn s σ H Rk J (go fun H1 G1 io1 pl1 v s1 R1 r1 hl => ?_)
      cases r1 with
      | tup g r => exact ⟨_, rfl, .inr ⟨⟨_, SqT.of ((R1.gh _ _ g).same rfl)⟩, h H1 G1 io1 pl1 _ s1 R1 (wk_t hl R1.gh (SqT.of g) r)⟩⟩
    · refine (pi_seq he.len).run pn s σ H Rk J (go fun H1 G1 io1 pl1 v s1 R1 r1 hl => ?_)
      cases r1 with
      | lst g r => exact ⟨_, rfl, .inl ⟨⟨_, SqL.of ((R1.gh _ _ g).same rfl)⟩, h H1 G1 io1 pl1 _ s1 R1 (wk_l hl R1.gh (SqL.of g) r)⟩⟩
    · refine (pi_seq he.len).run pn s σ H Rk J (go fun H1 G1 io1 pl1 v s1 R1 r1 hl => ?_)
      cases r1 with
      | ro g r =>
        rw [← hK] at g
        rcases g with g | g
        · exact ⟨_, rfl, .inl ⟨⟨_, held_l g (Kp.refl (io := io1)) R1.gh⟩, h H1 G1 io1 pl1 _ s1 R1 (wk_l hl R1.gh g r)⟩⟩
        · exact ⟨_, rfl, .inr ⟨⟨_, held_t g (Kp.refl (io := io1)) R1.gh⟩, h H1 G1 io1 pl1 _ s1 R1 (wk_t hl R1.gh g r)⟩⟩
    · refine (pi_keys he.len.lock).run pn s σ H Rk J (go fun H1 G1 io1 pl1 v s1 R1 r1 hl => ?_)
      cases r1 with
      | dK g r =>
        have nb := ne_some g
        rcases R1.gh _ _ g with q | ⟨_, o, q⟩
        · refine .inr ⟨_, _, rfl, q, trivial, fun od => ?_⟩
          obtain ⟨R2, s2⟩ := R1.lock g q rfl od
          exact ⟨_, od, rfl, .inl ⟨_, upd_same, h _ G1 io1 pl1 _ (s1.trans s2) R2 (wk_K (lens_lock hl q od) upd_same nb)⟩⟩
        · exact .inl ⟨_, o, rfl, .inl ⟨_, q, h H1 G1 io1 pl1 _ s1 R1 (wk_K hl q nb)⟩⟩
      | dT _ g r =>
        have nb := ne_some g
        rcases R1.gh _ _ g with q | ⟨_, o, q⟩
        · refine .inr ⟨_, _, rfl, q, trivial, fun od => ?_⟩
          obtain ⟨R2, s2⟩ := R1.lock g q rfl od
          exact ⟨_, od, rfl, .inr ⟨_, upd_same, h _ G1 io1 pl1 _ (s1.trans s2) R2 (wk_T (lens_lock hl q od) upd_same nb)⟩⟩
        · exact .inl ⟨_, o, rfl, .inr ⟨_, q, h H1 G1 io1 pl1 _ s1 R1 (wk_T hl q nb)⟩⟩⟩
theorem s_ir1 {p pos : Pos} (hg : Gl X "range") (hm : X.mg "range" = none) (ha : PE X e (tE Z T C W a)) (hs : starEach [e] X.env = [(false, eval e X.env)]) : PI X tg (.Call (.Name "range" p) [e] [] pos) (tI Z T C W (.ir1 a)) := ⟨fun pn s σ H Rk J q => (pi_range1 hg hm (pa_cons ha pa_nil hs) hs).run pn s σ H Rk J (by
  obtain ⟨G, io, pl, S, de, R, h⟩ := q
  refine ⟨G, io, pl, S, de, R, (Fin.bnd (show Fin Z H G io de σ W ((ev T C de a S).bnd _) _ from h)).imp fun x S1 k H1 G1 io1 pl1 v s1 R1 r => ?_⟩
  cases r <;> first | exact (k : False).elim | skip
  rename_i n
  have k : Fin Z H G io de σ W ((if n ≤ 16777216 ∧ -(2 ^ 62) ≤ n then ret ((List.range n.toNat).map fun i => D.int (i : Nat)) else fail : M (List D)) S1) _ := k
  split at k
  · rename_i hz
    have e : ((List.range n.toNat).map fun i => D.int (i : Nat)) = (List.range n.toNat).map fun i => D.int (0 + (i : Nat)) := by simp
    rw [e] at k
    exact ⟨n, rfl, hz.2, by omega, k H1 G1 io1 pl1 _ s1 R1 (wk_r (by rw [PySem.sizeLine_eq]; omega))⟩
  · exact k.elim)⟩
theorem s_ir2 {b : IR} {f : Expr} {p pos : Pos} (hg : Gl X "range") (hm : X.mg "range" = none) (ha : PE X e (tE Z T C W a)) (hb : PE X f (tE Z T C W b)) (hs : starEach [e, f] X.env = [(false, eval e X.env), (false, eval f X.env)]) (hs2 : starEach [f] X.env = [(false, eval f X.env)]) : PI X tg (.Call (.Name "range" p) [e, f] [] pos) (tI Z T C W (.ir2 a b)) := ⟨fun pn s σ H Rk J q => (pi_range2 hg hm (pa_cons ha (pa_cons hb pa_nil hs2) (by rw [hs, hs2])) hs hs2).run pn s σ H Rk J (by
  obtain ⟨G, io, pl, S, de, R, h⟩ := q
  refine ⟨G, io, pl, S, de, R, (Fin.bnd (show Fin Z H G io de σ W ((ev T C de a S).bnd _) _ from h)).imp fun x S1 k H1 G1 io1 pl1 v s1 R1 r => ?_⟩
  refine ⟨G1, io1, pl1, S1, de, R1, (Fin.bnd (show Fin Z H G io de σ W ((ev T C de b S1).bnd _) _ from k)).at s1 fun y S2 k2 H2 G2 io2 pl2 u s2 R2 r2 => ?_⟩
  cases r <;> first | exact (k2 : False).elim | skip
  cases r2 <;> first | exact (k2 : False).elim | skip
  rename_i m n
  have k2 : Fin Z H G io de σ W ((if n ≤ 8388608 ∧ -8388608 ≤ n ∧ m ≤ 8388608 ∧ -8388608 ≤ m then ret ((List.range (n - m).toNat).map fun i => D.int (m + (i : Nat))) else fail : M (List D)) S2) _ := k2
  split at k2
  · rename_i hz
    exact ⟨m, n, rfl, ⟨by omega, by omega, by omega, by omega⟩, k2 H2 G2 io2 pl2 _ (s1.trans s2) R2 (wk_r (by rw [PySem.sizeLine_eq]; omega))⟩
  · exact k2.elim)⟩
theorem s_items {elts : List Expr} {kk : Nat} {tpos apos cpos : Pos} (he : PE X e (tE Z T C W a)) (hbase : attributeBase e "items" X.env (eval e X.env) = eval e X.env) (hline : (apos.endLine == cpos.line) = true) : PI X (.Tuple elts kk tpos) (.Call (.Attribute e "items" apos) [] [] cpos) (tI Z T C W (.items a)) := ⟨fun pn s σ H Rk J q => (pi_items he.len.lock hbase hline).run pn s σ H Rk J (by
  obtain ⟨G, io, pl, S, de, R, h⟩ := q
  refine ⟨G, io, pl, S, de, R, (Fin.bnd (show Fin Z H G io de σ W ((ev T C de a S).bnd _) _ from h)).imp fun x S1 k H1 G1 io1 pl1 v s1 R1 r hl => ?_⟩
  cases r <;> first | exact (k : False).elim | skip
  · rename_i kvs ws g r
    have k : Fin Z H G io de σ W ((if (kvs.map fun p => keyD p.1).all (fun k => (dKey k).isSome) = true then ret (((kvs.map fun p => keyD p.1).zip ws).map fun p => D.tup [p.1, p.2]) else fail : M (List D)) S1) _ := k
    rw [if_pos (by rw [List.all_map, List.all_eq_true]; intro p _; show (dKey (keyD p.1)).isSome = true; rw [dKey_keyD]; rfl)] at k
    have nb := ne_some g
    rcases R1.gh _ _ g with q | ⟨_, o, q⟩
    · refine .inr ⟨_, _, rfl, q, trivial, fun od => ?_⟩
      obtain ⟨R2, s2⟩ := R1.lock g q rfl od
      exact ⟨_, od, _, rfl, upd_same, k _ G1 io1 pl1 _ (s1.trans s2) R2 (wk_I (lens_lock hl q od) upd_same nb r)⟩
    · exact .inl ⟨_, o, _, rfl, q, k H1 G1 io1 pl1 _ s1 R1 (wk_I hl q nb r)⟩
  · rename_i kvs ws n g r
    exfalso
    have k : Fin Z H G io de σ W ((if (kvs.map fun p => D.tup (p.1.map keyD)).all (fun k => (dKey k).isSome) = true then ret (((kvs.map fun p => D.tup (p.1.map keyD)).zip ws).map fun p => D.tup [p.1, p.2]) else fail : M (List D)) S1) _ := k
    rw [if_neg (by
      intro q
      cases kvs with
      | nil => exact n rfl
      | cons p kvs =>
        rw [List.map_cons, List.all_cons] at q
        cases (Bool.and_eq_true_iff.mp q).1)] at k
    exact k)⟩
end
end
end Y
/-! Y9: zip, enumerate; targets; list comprehensions. -/
namespace Y
open PySem L2

section
variable {Z : Zc} {T : Tb} {C : Calls} {W : WX} {X : Cx} {H G H' G' : Hp} {io io' : List Addr} {pl pl' : Plc} {S S' : Store} {de : Env} {σ : L2.St}
theorem wk_z {K : PySem.W.Frag} (hl : Lens H) {a b : Addr} {vs ws : List V} {ds es : List D} (gh : GH G H) (g : G a = some (.lst vs)) (g2 : G b = some (.lst ws)) (r : Reps Z G io vs ds) (r2 : Reps Z G io ws es) : Wkd Z H G io (Itz K a b) ((ds.zip es).map fun p => .tup [p.1, p.2]) := by
  have held : ∀ {a : Addr} {vs : List V} {H1 G1 io1}, G a = some (.lst vs) → Kp H G io H1 G1 io1 → GH G1 H1 → SqL K H1 a vs := fun g s gh => SqL.of ((gh _ _ (s.gg _ _ g)).same rfl)
  have hlen : ((ds.zip es).map fun p => D.tup [p.1, p.2]).length = min vs.length ws.length := by
    rw [List.length_map, List.length_zip, r.length, r2.length]
  refine ⟨?_, fun i H1 G1 io1 s gh hi => ?_, fun i H1 G1 io1 v H' d s gh hd y => ?_, fun H1 G1 io1 s gh => ?_⟩
  · rw [hlen]
    exact Nat.le_trans (Nat.min_le_left _ _) (hl a _ ((gh _ _ g).same rfl))
  · rw [hlen] at hi
    have h1 : i < vs.length := by omega
    have h2 : i < ws.length := by omega
    exact ⟨vs, ws, vs[i], ws[i], held g s gh, held g2 s gh, List.getElem?_eq_getElem h1, List.getElem?_eq_getElem h2⟩
  · obtain ⟨p, x, y', hv, hp, e, hx, hy⟩ := y
    rw [List.getElem?_map] at hd
    obtain ⟨⟨q1, q2⟩, hq, hd⟩ := Option.map_eq_some_iff.mp hd
    rw [List.getElem?_zip_eq_some] at hq
    obtain ⟨w1, e1, r1⟩ := r.get hq.1
    obtain ⟨w2, e2, r2⟩ := r2.get hq.2
    rw [hx _ (held g s gh)] at e1
    rw [hy _ (held g2 s gh)] at e2
    cases e1
    cases e2
    subst hd
    exact .new hv hp e (.cons (r1.kp s) (.cons (r2.kp s) .nil))
  · exact ⟨vs, ws, held g s gh, held g2 s gh, by rw [hlen]; omega⟩
theorem wk_zt {K : PySem.W.Frag} (hl : Lens H) {a b : Addr} {vs ws : List V} {ds es : List D} (gh : GH G H) (g : G a = some (.tup vs)) (g2 : G b = some (.tup ws)) (r : Reps Z G io vs ds) (r2 : Reps Z G io ws es) : Wkd Z H G io (RZ.ItzT K a b) ((ds.zip es).map fun p => .tup [p.1, p.2]) := by
  have held : ∀ {a : Addr} {vs : List V} {H1 G1 io1}, G a = some (.tup vs) → Kp H G io H1 G1 io1 → GH G1 H1 → SqT K H1 a vs := fun g s gh => SqT.of ((gh _ _ (s.gg _ _ g)).same rfl)
  have hlen : ((ds.zip es).map fun p => D.tup [p.1, p.2]).length = min vs.length ws.length := by
    rw [List.length_map, List.length_zip, r.length, r2.length]
  refine ⟨?_, fun i H1 G1 io1 s gh hi => ?_, fun i H1 G1 io1 v H' d s gh hd y => ?_, fun H1 G1 io1 s gh => ?_⟩
  · rw [hlen]
    exact Nat.le_trans (Nat.min_le_left _ _) (hl a _ ((gh _ _ g).same rfl))
  · rw [hlen] at hi
    have h1 : i < vs.length := by omega
    have h2 : i < ws.length := by omega
    exact ⟨vs, ws, vs[i], ws[i], held g s gh, held g2 s gh, List.getElem?_eq_getElem h1, List.getElem?_eq_getElem h2⟩
  · obtain ⟨p, x, y', hv, hp, e, hx, hy⟩ := y
    rw [List.getElem?_map] at hd
    obtain ⟨⟨q1, q2⟩, hq, hd⟩ := Option.map_eq_some_iff.mp hd
    rw [List.getElem?_zip_eq_some] at hq
    obtain ⟨w1, e1, r1⟩ := r.get hq.1
    obtain ⟨w2, e2, r2⟩ := r2.get hq.2
    rw [hx _ (held g s gh)] at e1
    rw [hy _ (held g2 s gh)] at e2
    cases e1
    cases e2
    subst hd
    exact .new hv hp e (.cons (r1.kp s) (.cons (r2.kp s) .nil))
  · exact ⟨vs, ws, held g s gh, held g2 s gh, by rw [hlen]; omega⟩
theorem wk_e {K : PySem.W.Frag} (hl : Lens H) {a : Addr} {vs : List V} {ds : List D} (gh : GH G H) (g : G a = some (.lst vs)) (r : Reps Z G io vs ds) : Wkd Z H G io (Ite K a) (ds.zipIdx.map fun p => .tup [.int (p.2 : Nat), p.1]) := by
  have held : ∀ {H1 G1 io1}, Kp H G io H1 G1 io1 → GH G1 H1 → SqL K H1 a vs := fun s gh => SqL.of ((gh _ _ (s.gg _ _ g)).same rfl)
  have hlen : (ds.zipIdx.map fun p => D.tup [.int (p.2 : Nat), p.1]).length = vs.length := by
    rw [List.length_map, List.length_zipIdx, r.length]
  refine ⟨?_, fun i H1 G1 io1 s gh hi => ?_, fun i H1 G1 io1 v H' d s gh hd y => ?_, fun H1 G1 io1 s gh => ?_⟩
  · rw [hlen]
    exact hl a _ ((gh _ _ g).same rfl)
  · rw [hlen] at hi
    exact ⟨vs, vs[i], held s gh, List.getElem?_eq_getElem hi⟩
  · obtain ⟨p, x, hv, hp, e, hx⟩ := y
    rw [List.getElem?_map, List.getElem?_zipIdx] at hd
    obtain ⟨⟨q1, q2⟩, hq, hd⟩ := Option.map_eq_some_iff.mp hd
    obtain ⟨d', hd', hq⟩ := Option.map_eq_some_iff.mp hq
    cases hq
    obtain ⟨w1, e1, r1⟩ := r.get hd'
    rw [hx _ (held s gh)] at e1
    cases e1
    subst hd
    rw [Nat.zero_add]
    exact .new hv hp e (.cons (.int _) (.cons (r1.kp s) .nil))
  · exact ⟨vs, held s gh, by rw [hlen]; exact Nat.le_refl _⟩
theorem _root_.L2.PA.len {es : List Expr} {t : TA} (h : PA X es t) : PA X es fun σ H Q => t σ H fun vs H1 => Lens H1 → Q vs H1 := ⟨fun po pn s σ H Q J q => thn (h.run po pn s σ H _ J q) fun us s1 ⟨vs, H1, J1, r, q1⟩ => ⟨vs, H1, J1, r, q1 (lens_of J1)⟩⟩
theorem s_zip {a b : IR} {e f : Expr} {elts : List Expr} {kk : Nat} {p pos tpos : Pos} (hg : Gl X "zip") (hm : X.mg "zip" = none) (ha : PE X e (tE Z T C W a)) (hb : PE X f (tE Z T C W b))
    (hs : starEach [e, f] X.env = (false, eval e X.env) :: starEach [f] X.env) (hs2 : starEach [f] X.env = (false, eval f X.env) :: starEach [] X.env) (hpl : (backTo pos (starEach [f] X.env)).any (·.1) = false) : PI X (.Tuple elts kk tpos) (.Call (.Name "zip" p) [e, f] [] pos) (tI Z T C W (.zip a b)) := ⟨fun pn s σ H Rk J q => (RZ.pi_zipA hg hm (pa_cons ha (pa_cons hb pa_nil hs2) hs).len hs hpl).run pn s σ H Rk J (by
  obtain ⟨G, io, pl, S, de, R, h⟩ := q
  refine ⟨G, io, pl, S, de, R, (Fin.bnd (show Fin Z H G io de σ W ((ev T C de a S).bnd _) _ from h)).imp fun x S1 k H1 G1 io1 pl1 v s1 R1 r => ?_⟩
  refine ⟨G1, io1, pl1, S1, de, R1, (Fin.bnd (show Fin Z H G io de σ W ((ev T C de b S1).bnd _) _ from k)).at s1 fun y S2 k2 H2 G2 io2 pl2 u s2 R2 r2 hl => ?_⟩
  have q := r.step s2
  clear r
  cases q with
  | tup g r =>
    cases r2 with
    | tup g2 r2 => exact ⟨_, _, _, _, rfl, .inr ⟨SqT.of ((R2.gh _ _ g).same rfl), SqT.of ((R2.gh _ _ g2).same rfl), k2 H2 G2 io2 pl2 _ (s1.trans s2) R2 (wk_zt hl R2.gh g g2 r r2)⟩⟩
    | _ => exact (k2 : False).elim
  | lst g r =>
    cases r2 with
    | lst g2 r2 => exact ⟨_, _, _, _, rfl, .inl ⟨SqL.of ((R2.gh _ _ g).same rfl), SqL.of ((R2.gh _ _ g2).same rfl), k2 H2 G2 io2 pl2 _ (s1.trans s2) R2 (wk_z hl R2.gh g g2 r r2)⟩⟩
    | _ => exact (k2 : False).elim
  | _ => exact (k2 : False).elim)⟩
theorem s_enum {a : IR} {e : Expr} {elts : List Expr} {kk : Nat} {p pos tpos : Pos} (hg : Gl X "enumerate") (hm : X.mg "enumerate" = none) (ha : PE X e (tE Z T C W a)) (hs : starEach [e] X.env = [(false, eval e X.env)]) : PI X (.Tuple elts kk tpos) (.Call (.Name "enumerate" p) [e] [] pos) (tI Z T C W (.enum a)) := ⟨fun pn s σ H Rk J q => (pi_enum hg hm (pa_cons ha pa_nil hs).len hs).run pn s σ H Rk J (by
  obtain ⟨G, io, pl, S, de, R, h⟩ := q
  refine ⟨G, io, pl, S, de, R, (Fin.bnd (show Fin Z H G io de σ W ((ev T C de a S).bnd _) _ from h)).imp fun x S1 k H1 G1 io1 pl1 v s1 R1 r hl => ?_⟩
  cases r <;> first | exact (k : False).elim | skip
  rename_i g r
  exact ⟨_, _, rfl, SqL.of ((R1.gh _ _ g).same rfl), k H1 G1 io1 pl1 _ s1 R1 (wk_e hl R1.gh g r)⟩)⟩

/-! ### targets -/
def gsl : IR → List Nat
  | .gn i => [i]
  | .gt gs => gsl gs
  | .cons h t => gsl h ++ gsl t
  | _ => []
theorem Rel.set (R : Rel Z H G io pl S de σ) {i : Nat} {v : V} {d : D} (r : Rep Z G io v d) (hi : i < σ.length) : Rel Z H G io pl S (de.set i (some (.val d))) (σ.set i (some v)) := by
  refine ⟨R.gh, by simp [R.len], fun k e he => ?_, R.bl, R.boxes, R.plg⟩
  by_cases q : i = k
  · subst q
    rw [List.getElem?_set_self (by rw [R.len]; exact hi)] at he
    cases he
    exact ⟨v, by rw [List.getElem?_set_self hi], r⟩
  · rw [List.getElem?_set_ne q] at he
    obtain ⟨w, hw, r'⟩ := R.slots k e he
    exact ⟨w, by rw [List.getElem?_set_ne q]; exact hw, r'⟩
/-- a target's reading: what is stored is known as d -/
def tG (Z : Zc) (ir : IR) : TG := fun v σ H Q => ∃ G io pl S de d de', Rel Z H G io pl S de σ ∧ Rep Z G io v d ∧ asg ir d de = some de' ∧ ∀ σ', Rel Z H G io pl S de' σ' → σ'.length = σ.length → (∀ j : Nat, j ∉ gsl ir → σ'[j]? = σ[j]?) → Q σ' H
def tGs (Z : Zc) (ir : IR) : TGs := fun vs σ H Q => ∃ G io pl S de ds de', Rel Z H G io pl S de σ ∧ Reps Z G io vs ds ∧ asg.asgs ir ds de = some de' ∧ ∀ σ', Rel Z H G io pl S de' σ' → σ'.length = σ.length → (∀ j : Nat, j ∉ gsl ir → σ'[j]? = σ[j]?) → Q σ' H
theorem _root_.L2.PG.wk {tg : Expr} {t t' : TG} (h : PG X tg t) (w : ∀ v σ H Q, t' v σ H Q → t v σ H Q) : PG X tg t' := ⟨fun pn s σ H v u Q J r q => h.run pn s σ H v u Q J r (w v σ H Q q)⟩
theorem _root_.L2.PGs.wk {tg : List Expr} {t t' : TGs} (h : PGs X tg t) (w : ∀ v σ H Q, t' v σ H Q → t v σ H Q) : PGs X tg t' := ⟨fun pn s σ H v u Q J r q => h.run pn s σ H v u Q J r (w v σ H Q q)⟩
theorem tG_gn {i : Nat} {v : V} {Q : L2.St → Hp → Prop} (q : tG Z (.gn i) v σ H Q) : gName i v σ H Q := by
  obtain ⟨G, io, pl, S, de, d, de', R, r, e, k⟩ := q
  have e : (if i < de.length then some (de.set i (some (.val d))) else none) = some de' := e
  split at e <;> cases e
  rename_i hi
  exact k _ (R.set r (by rw [← R.len]; exact hi)) (by simp) fun j hj => by rw [List.getElem?_set_ne]; intro e; exact hj (by simp [gsl, e])
theorem s_gn {i : Nat} {e : Expr} (h : PG X e (gName i)) : PG X e (tG Z (.gn i)) := h.wk fun v σ H Q q => tG_gn q
theorem s_gnil : PGs X [] (tGs Z .nil) := (pgs_nil (X := X)).wk fun vs σ H Q q => by
  obtain ⟨G, io, pl, S, de, ds, de', R, r, e, k⟩ := q
  cases ds with
  | nil =>
    cases e
    cases r
    exact ⟨rfl, k σ R rfl fun _ _ => rfl⟩
  | cons d ds => cases e
theorem s_gcons {i : Nat} {t : IR} {e : Expr} {es : List Expr} (h1 : PG X e (gName i)) (h2 : PGs X es (tGs Z t)) (hs : (assignEach (e :: es) X.env).map (·.2) = assign e X.env :: (assignEach es X.env).map (·.2) := by rfl) : PGs X (e :: es) (tGs Z (.cons (.gn i) t)) := (pgs_cons h1 h2 hs).wk fun vs σ H Q q => by
  obtain ⟨G, io, pl, S, de, ds, de', R, r, e, k⟩ := q
  cases ds with
  | nil => cases e
  | cons d ds =>
    have e : (if i < de.length then asg.asgs t ds (de.set i (some (.val d))) else none) = some de' := e
    split at e <;> first | (cases e; done) | skip
    rename_i hi
    cases r with
    | cons r rs =>
      refine ⟨_, _, rfl, G, io, pl, S, de.set i (some (.val d)), ds, de', R.set r (by rw [← R.len]; exact hi), rs, e, fun σ' R' hl hs' => k σ' R' (by rw [hl, List.length_set]) fun j hj => ?_⟩
      simp only [gsl, List.mem_append, List.mem_singleton, not_or] at hj
      rw [hs' j hj.2, List.getElem?_set_ne (fun e => hj.1 e.symm)]
theorem s_gt {gs : IR} {es : List Expr} {k : Nat} {n : Nat} {pos : Pos} (hc : X.calm = true) (h : PGs X es (tGs Z gs)) (hK : X.K = Z.K) (hlen : ∀ {ds de de'}, asg.asgs gs ds de = some de' → ds.length = n) (hn : (assignEach es X.env).length = n := by rfl) (hst : (assignEach es X.env).findIdx? (·.1) = none := by rfl) : PG X (.Tuple es k pos) (tG Z (.gt gs)) := (pg_tup hc h hn hst).wk fun v σ H Q q => by
  obtain ⟨G, io, pl, S, de, d, de', R, r, e, k⟩ := q
  cases r <;> first | (cases e; done) | skip
  rename_i g r
  exact ⟨_, _, rfl, SqT.of ((R.gh _ _ g).same rfl), by rw [r.length]; exact hlen e, G, io, pl, S, de, _, de', R, r, e, k⟩
theorem asgs_len : ∀ {gs : IR} {ds : List D} {de de' : Env}, asg.asgs gs ds de = some de' → ds.length = (gsl gs).length
  | .nil, [], _, _, _ => rfl
  | .cons (.gn i) t, d :: ds, de, de', e => by
    have e : (if i < de.length then asg.asgs t ds (de.set i (some (.val d))) else none) = some de' := e
    split at e <;> first | (cases e; done) | skip
    have := asgs_len e
    simp only [gsl, List.length_append, List.length_cons, List.length_nil]
    omega
end
end Y
/-! Y10: list comprehensions. -/
namespace Y
open PySem L2

section
variable {Z : Zc} {T : Tb} {C : Calls} {W : WX} {X : Cx} {H G H' G' H1 G1 : Hp} {io io' io1 : List Addr} {pl pl' : Plc} {S S' : Store} {de : Env} {σ : L2.St}
theorem wipe_get (σ : L2.St) : ∀ (vs : List Nat) (j : Nat), (wipe σ vs)[j]? = if j ∈ vs ∧ j < σ.length then some none else σ[j]?
  | [], j => by simp [wipe]
  | v :: vs, j => by
    unfold wipe
    by_cases e : v = j
    · subst e
      by_cases l : v < σ.length
      · rw [List.getElem?_set_self (by rw [wipe_length]; exact l), if_pos ⟨List.mem_cons_self, l⟩]
      · rw [if_neg (fun z => l z.2), List.getElem?_eq_none (by rw [List.length_set, wipe_length]; omega), List.getElem?_eq_none (by omega)]
    · rw [List.getElem?_set_ne e, wipe_get σ vs j]
      have : (j ∈ v :: vs ∧ j < σ.length) ↔ (j ∈ vs ∧ j < σ.length) := by
        rw [List.mem_cons]
        exact ⟨fun ⟨a, b⟩ => ⟨a.resolve_left fun z => e z.symm, b⟩, fun ⟨a, b⟩ => ⟨.inr a, b⟩⟩
      by_cases c : j ∈ vs ∧ j < σ.length
      · rw [if_pos c, if_pos (this.mpr c)]
      · rw [if_neg c, if_neg fun z => c (this.mp z)]
theorem wipeE_get (de : Env) : ∀ (vs : List Nat) (j : Nat), (wipeE de vs)[j]? = if j ∈ vs ∧ j < de.length then some none else de[j]?
  | [], j => by simp [wipeE]
  | v :: vs, j => by
    have ln : ∀ vs : List Nat, (wipeE de vs).length = de.length := fun vs => by
      induction vs with
      | nil => rfl
      | cons v vs ih => show ((wipeE de vs).set v none).length = _; rw [List.length_set, ih]
    unfold wipeE
    by_cases e : v = j
    · subst e
      by_cases l : v < de.length
      · rw [List.getElem?_set_self (by rw [ln]; exact l), if_pos ⟨List.mem_cons_self, l⟩]
      · rw [if_neg (fun z => l z.2), List.getElem?_eq_none (by rw [List.length_set, ln]; omega), List.getElem?_eq_none (by omega)]
    · rw [List.getElem?_set_ne e, wipeE_get de vs j]
      have : (j ∈ v :: vs ∧ j < de.length) ↔ (j ∈ vs ∧ j < de.length) := by
        rw [List.mem_cons]
        exact ⟨fun ⟨a, b⟩ => ⟨a.resolve_left fun z => e z.symm, b⟩, fun ⟨a, b⟩ => ⟨.inr a, b⟩⟩
      by_cases c : j ∈ vs ∧ j < de.length
      · rw [if_pos c, if_pos (this.mpr c)]
      · rw [if_neg c, if_neg fun z => c (this.mp z)]
theorem wipeE_len (de : Env) : ∀ vs : List Nat, (wipeE de vs).length = de.length
  | [] => rfl
  | v :: vs => by show ((wipeE de vs).set v none).length = _; rw [List.length_set, wipeE_len de vs]
theorem wipe_eq {σ σ2 : L2.St} {vs : List Nat} {gs : List Nat} (hv : ∀ j ∈ gs, j ∈ vs) (hl : σ2.length = (wipe σ vs).length) (h : ∀ j : Nat, j ∉ gs → σ2[j]? = (wipe σ vs)[j]?) : wipe σ2 vs = wipe σ vs := by
  refine List.ext_getElem? fun j => ?_
  rw [wipe_length] at hl
  rw [wipe_get, wipe_get, hl]
  by_cases c : j ∈ vs ∧ j < σ.length
  · rw [if_pos c, if_pos c]
  · rw [if_neg c, if_neg c]
    by_cases g : j ∈ gs
    · have l : ¬ j < σ.length := fun z => c ⟨hv j g, z⟩
      rw [List.getElem?_eq_none (by omega), List.getElem?_eq_none (by omega)]
    · rw [h j g, wipe_get, if_neg c]
theorem Rel.wiped (R : Rel Z H G io pl S de σ) (vs : List Nat) : Rel Z H G io pl S (wipeE de vs) (wipe σ vs) := by
  refine ⟨R.gh, by rw [wipeE_len, wipe_length, R.len], fun k e he => ?_, R.bl, R.boxes, R.plg⟩
  rw [wipeE_get] at he
  by_cases c : k ∈ vs ∧ k < de.length
  · rw [if_pos c] at he
    cases he
  · rw [if_neg c] at he
    obtain ⟨v, hv, r⟩ := R.slots k e he
    refine ⟨v, ?_, r⟩
    rw [wipe_get, if_neg fun z => c ⟨z.1, by rw [R.len]; exact z.2⟩]
    exact hv

/-- the place map without p, that no slot and no box owns -/
theorem Rel.clean (R : Rel Z H G io pl S de σ) {p : Addr} (h1 : ∀ q, pl p = some q → ∃ n, q = Pl.box n) (h2 : p ∉ io) : Rel Z H G io (fun a => if a = p then none else pl a) S de σ := by
  have hs : ∀ a q, (∀ n, q ≠ Pl.box n) → pl a = some q → a ≠ p := fun a q hn h e => by
    rw [e] at h
    obtain ⟨n, hq⟩ := h1 q h
    exact hn n hq
  refine ⟨R.gh, R.len, fun k e he => ?_, R.bl, fun n d hd => ?_, fun a ha => ?_⟩
  · obtain ⟨v, hv, r⟩ := R.slots k e he
    refine ⟨v, hv, r.mono (fun _ _ h => h) (fun _ _ h => h) (fun a q hn h => ?_) (fun _ _ _ _ _ h => h) fun a dx h => ⟨h, fun g => g⟩⟩
    show (if a = p then none else pl a) = some q
    rw [if_neg (hs a q hn h)]
    exact h
  · obtain ⟨a, ha, hp, ow⟩ := R.boxes n d hd
    refine ⟨a, ha, ?_, ow⟩
    show (if a = p then none else pl a) = _
    rw [if_neg fun e => h2 (by rw [← e]; exact List.mem_of_getElem? ha)]
    exact hp
  · have ha : (if a = p then none else pl a) ≠ none := ha
    by_cases e : a = p
    · rw [if_pos e] at ha
      exact absurd rfl ha
    · rw [if_neg e] at ha
      exact R.plg a ha
theorem Own.off {a b : Addr} {d : D} {o : HO} {u : HO} (hb : H b = some u) (hu : ∀ x, u ≠ .own x) (n : a ≠ b) (ow : Own Z H G io a d) : Own Z (upd H b o) G io a d := by
  have hne : ∀ dx x, H dx = some (.own x) → dx ≠ b := fun dx x h e => by
    rw [e, hb] at h
    cases h
    exact hu x rfl
  cases ow with
  | lst h r => exact .lst (by rw [upd_ne n]; exact h) r
  | dK h r => exact .dK (by rw [upd_ne n]; exact h) r
  | dT n' h r => exact .dT n' (by rw [upd_ne n]; exact h) r
  | ins h hx hg r => exact .ins (by rw [upd_ne n]; exact h) (by rw [upd_ne (hne _ _ hx)]; exact hx) hg r
/-- a container that nothing owns is written -/
theorem Rel.write (R : Rel Z H G io pl S de σ) {p : Addr} {u o : HO} (hp : H p = some u) (hu : ∀ x, u ≠ .own x) (ho : ∀ xs, o ≠ .tup xs) (hpl : pl p = none) (hg : G p = none) : Rel Z (upd H p o) G io pl S de σ := by
  have ne : ∀ a q, pl a = some q → a ≠ p := fun a q h e => by
    rw [e, hpl] at h
    cases h
  have hne : ∀ dx x, H dx = some (.own x) → dx ≠ p := fun dx x h e => by
    rw [e, hp] at h
    cases h
    exact hu x rfl
  refine ⟨fun a w h => ?_, R.len, fun k e he => ?_, R.bl, fun n d hd => ?_, fun a ha => ?_⟩
  · have e : a ≠ p := fun e => by
      rw [e, hg] at h
      cases h
    rcases R.gh a w h with q | ⟨i, o', q⟩
    · exact .inl (by rw [upd_ne e]; exact q)
    · exact .inr ⟨i, o', by rw [upd_ne e]; exact q⟩
  · obtain ⟨v, hv, r⟩ := R.slots k e he
    exact ⟨v, hv, r.mono (fun _ _ h => h) (fun _ _ h => h) (fun _ _ _ h => h) (fun a q w hq _ h => by rw [upd_ne (ne a q hq)]; exact h) fun a dx h => ⟨by rw [upd_ne (hne _ _ h)]; exact h, fun g => g⟩⟩
  · obtain ⟨a, ha, hpa, ow⟩ := R.boxes n d hd
    exact ⟨a, ha, hpa, ow.off hp hu (ne a _ hpa)⟩
  · obtain ⟨q, hq⟩ := Option.ne_none_iff_exists'.mp ha
    rw [upd_ne (ne a q hq)]
    exact R.plg a ha
/-- .. a thing that is new since H -/
theorem Step.write (s : Step H G io H' G' io') {p : Addr} {o : HO} (h0 : H p = Option.none) (ho : ∀ xs, o ≠ .tup xs) : Step H G io (upd H' p o) G' io' := by
  refine ⟨s.gg, s.gn, fun a u h hi ht => ?_, s.ext, fun a h => ?_, fun a xs h => ?_⟩
  · have e : a ≠ p := fun e => by
      rw [e, h0] at h
      cases h
    rw [upd_ne e]
    exact s.fr a u h hi ht
  · have e : a ≠ p := fun e => h (by rw [e]; exact h0)
    rw [upd_ne e]
    exact s.al a h
  · by_cases e : a = p
    · rw [e, upd_same] at h
      cases h
      exact absurd rfl (ho xs)
    · rw [upd_ne e] at h
      exact s.tp a xs h
/-- a list that nothing owns stays as it is -/
theorem Step.keepL (s : Step H G io H' G' io') {p : Addr} {xs : List V} (h : H p = some (.lst xs)) (g : G p = Option.none) (n : p ∉ io) : H' p = some (.lst xs) ∧ G' p = Option.none ∧ p ∉ io' := by
  refine ⟨?_, ?_, fun hm => ?_⟩
  · rcases s.fr p _ h n (by simp) with q | ⟨i, _⟩
    · exact q
    · cases i
  · cases q : G' p with
    | none => rfl
    | some o =>
      rcases s.gn p (by rw [q]; exact Option.some_ne_none o) with z | z | ⟨ys, z⟩
      · exact absurd g z
      · rw [h] at z; cases z
      · rw [h] at z; cases z
  · obtain ⟨m, e, hn⟩ := s.ext
    rw [e] at hm
    rcases List.mem_append.mp hm with z | z
    · exact n z
    · rw [hn p z] at h
      cases h
theorem Rel.nio (R : Rel Z H G io pl S de σ) {p : Addr} (h : pl p = none) : p ∉ io := fun hm => by
  obtain ⟨n, hl, e⟩ := List.mem_iff_getElem.mp hm
  have h2 : io[n]? = some p := by rw [List.getElem?_eq_getElem hl, e]
  obtain ⟨b, hb, hp, _⟩ := R.boxes n (S[n]'(by rw [← R.bl]; exact hl)) (List.getElem?_eq_getElem _)
  rw [h2] at hb
  cases hb
  rw [h] at hp
  cases hp
/-- back in an earlier state's slots, p (that nothing owned) still of nobody -/
theorem Rel.backN (R : Rel Z H G io pl S de σ) (s : Step H G io H' G' io') {de' : Env} {σ' : L2.St} (R' : Rel Z H' G' io' pl' S' de' σ') {p : Addr} (hp : pl p = none) (hn : p ∉ io') : ∃ pl2, Rel Z H' G' io' pl2 S' de σ ∧ pl2 p = none := by
  obtain ⟨pl2, R2, iff⟩ := R.back s R'
  refine ⟨_, R2.clean (p := p) (fun q hq => ?_) hn, if_pos rfl⟩
  cases q with
  | box n => exact ⟨n, rfl⟩
  | slot i => exact absurd ((iff p _ fun n => by simp).mp hq) (by rw [hp]; simp)
  | fld i => exact absurd ((iff p _ fun n => by simp).mp hq) (by rw [hp]; simp)
theorem Fin.hush {α : Type} {r : Res α} {K : α → Store → Prop} (h : Fin Z H G io de σ W r.hush K) : ∃ a S', r = .ok a S' ∧ K a S' := by
  cases r with
  | ok a S' => exact ⟨a, S', rfl, h⟩
  | exc c fs S' => exact h.elim
  | bad => exact h.elim

/-- one turn -/
def stepE (T : Tb) (C : Calls) (de : Env) (vs : List Nat) (g c e : IR) (d : D) : M (Option D) := tryL (asg g d (wipeE de vs)) fun d1 => bnd (hush (evt T C d1 c)) fun k => if k = true then bnd (hush (ev T C d1 e)) fun v => ret (some v) else ret none
theorem tN_lc {W' : WX} {vs : List Nat} {g it c e : IR} {wi : TI} {gg : TG} {tt : TT} {te : TE} {Q : VK} (hwi : ∀ σ H R, tI Z T C W it σ H R → wi σ H R) (hg : ∀ v σ H Q, tG Z g v σ H Q → gg v σ H Q) (ht : ∀ σ H Q, tT Z T C W' c σ H Q → tt σ H Q) (he : ∀ σ H Q, tE Z T C W' e σ H Q → te σ H Q)
    (hv : ∀ j ∈ gsl g, j ∈ vs) (q : tN Z T C W (.lc vs g it c e) σ H Q) : tLc wi gg tt te vs σ H Q := by
  obtain ⟨G, io, pl, S, de, R, h⟩ := q
  refine hwi σ H _ ⟨G, io, pl, S, de, R, (Fin.bnd (show Fin Z H G io de σ W ((evi T C de it S).bnd _) _ from h)).imp fun items S1 k H1 G1 io1 pl1 J s1 R1 wk D hD => ?_⟩
  have k : Fin Z H G io de σ W ((comp items (stepE T C de vs g c e) S1).bnd _) _ := k
  have k := k.bnd
  have gD1 : G1 D = none := by
    cases q : G1 D with
    | none => rfl
    | some u => exact absurd hD (R1.gh D u q).ne
  have h0 := s1.none hD
  refine ⟨fun i m H2 => m = items.length - i ∧ i ≤ items.length ∧ ∃ G2 io2 pl2 S2 acc dacc, Step H1 G1 io1 H2 G2 io2 ∧ Rel Z H2 G2 io2 pl2 S2 de σ ∧ H2 D = some (.lst acc) ∧ Reps Z G2 io2 acc dacc ∧ pl2 D = none ∧ G2 D = none ∧ acc.length ≤ i ∧
    Fin Z H G io de σ W (comp (items.drop i) (stepE T C de vs g c e) S2) (fun ds S' => ∀ H' G' io' pl' p, Step H G io H' G' io' → Rel Z H' G' io' pl' S' de σ → Own Z H' G' io' p (.lst (dacc ++ ds)) → pl' p = none → G' p = none → H p = none → isFresh (.lst (dacc ++ ds)) = true → Q (.ref p) H'),
    ⟨items.length, by simp, Nat.zero_le _, G1, io1, pl1, S1, [], [], ?_⟩, ?_⟩
  · obtain ⟨R', s', n, gn⟩ := R1.laid hD (.lst [])
    exact ⟨s', R', upd_same, .nil, n, gn, Nat.le_refl _, by rw [List.drop_zero]; exact k⟩
  rintro i m H2 ⟨rfl, hi, G2, io2, pl2, S2, acc, dacc, s2, R2, hH, ra, hpl, hg2, hl, k2⟩
  by_cases hlt : i < items.length
  · refine .inr ⟨wk.go i H2 G2 io2 (.of R1 s2) R2.gh hlt, fun H3 => ∃ G2 io2 pl2 S2 acc dacc, Step H1 G1 io1 H3 G2 io2 ∧ Rel Z H3 G2 io2 pl2 S2 de σ ∧ H3 D = some (.lst acc) ∧ Reps Z G2 io2 acc dacc ∧ pl2 D = none ∧ G2 D = none ∧ acc.length ≤ i + 1 ∧
        Fin Z H G io de σ W (comp (items.drop (i + 1)) (stepE T C de vs g c e) S2) (fun ds S' => ∀ H' G' io' pl' p, Step H G io H' G' io' → Rel Z H' G' io' pl' S' de σ → Own Z H' G' io' p (.lst (dacc ++ ds)) → pl' p = none → G' p = none → H p = none → isFresh (.lst (dacc ++ ds)) = true → Q (.ref p) H'),
      fun H3 hx => ⟨_, by omega, rfl, hlt, hx⟩, fun x H3 y => ?_⟩
    obtain ⟨d, hd⟩ : ∃ d, items[i]? = some d := ⟨_, List.getElem?_eq_getElem hlt⟩
    obtain ⟨G3, R3, s3, r3⟩ := (wk.yld i H2 G2 io2 x H3 d (.of R1 s2) R2.gh hd y).rel R2
    have eq : items.drop i = d :: items.drop (i + 1) := by
      rw [List.drop_eq_getElem_cons hlt]
      congr 1
      exact Option.some.inj ((List.getElem?_eq_getElem hlt).symm.trans hd)
    rw [eq] at k2
    have k2 := Fin.bnd (show Fin Z H G io de σ W ((stepE T C de vs g c e d S2).bnd _) _ from k2)
    obtain ⟨d1, ha, k2⟩ := (show Fin Z H G io de σ W (tryL (asg g d (wipeE de vs)) _ S2) _ from k2).tryL
    have k2 := Fin.bnd (show Fin Z H G io de σ W ((evt T C d1 c S2).hush.bnd _) _ from k2)
    obtain ⟨b, S4, hb, k4⟩ := k2.hush
    refine hg x _ H3 _ ⟨G3, io2, pl2, S2, wipeE de vs, d, d1, R3.wiped vs, r3, ha, fun σ2 Rg hsl hsa => ⟨wipe_eq hv hsl hsa, ?_⟩⟩
    refine ht σ2 H3 _ ⟨G3, io2, pl2, S2, d1, Rg, ?_⟩
    rw [hb]
    show ∀ H' G' io' pl', Step H3 G3 io2 H' G' io' → Rel Z H' G' io' pl' S4 d1 σ2 → _
    intro H4 G4 io4 pl4 s4 R4
    have s24 := s3.trans s4
    have nD := R2.nio hpl
    obtain ⟨hH4, hg4, nD4⟩ := s24.keepL hH hg2 nD
    cases b with
    | false =>
      rw [if_neg (by simp)]
      obtain ⟨pl5, R5, hp5⟩ := R2.backN s24 R4 hpl nD4
      refine ⟨G4, io4, pl5, S4, acc, dacc, s2.trans s24, R5, hH4, ra.step s24, hp5, hg4, by omega, ?_⟩
      have k4 := Fin.bnd (show Fin Z H G io de σ W ((comp (items.drop (i + 1)) (stepE T C de vs g c e) S4).bnd _) _ from k4)
      exact k4
    | true =>
      rw [if_pos rfl]
      have k4 := Fin.bnd (show Fin Z H G io de σ W ((ev T C d1 e S4).hush.bnd _) _ from k4)
      obtain ⟨v, S5, hv5, k5⟩ := k4.hush
      refine he σ2 H4 _ ⟨G4, io4, pl4, S4, d1, R4, ?_⟩
      rw [hv5]
      show ∀ H' G' io' pl' v', Step H4 G4 io4 H' G' io' → Rel Z H' G' io' pl' S5 d1 σ2 → Rep Z G' io' v' v → _
      intro H5 G5 io5 pl5 y5 s5 R5 r5
      obtain ⟨hH5, hg5, nD5⟩ := s5.keepL hH4 hg4 nD4
      obtain ⟨pl6, R6, hp6⟩ := R2.backN (s24.trans s5) R5 hpl nD5
      have hz := wk.len
      refine ⟨acc, hH5, by omega, G5, io5, pl6, S5, acc ++ [y5], dacc ++ [v], ((s2.trans s24).trans s5).write hD (by simp), R6.write hH5 (by simp) (by simp) hp6 hg5, upd_same, (ra.step (s24.trans s5)).append (.cons r5 .nil), hp6, hg5, by rw [List.length_append]; simp; omega, ?_⟩
      have k5 := Fin.bnd (show Fin Z H G io de σ W ((comp (items.drop (i + 1)) (stepE T C de vs g c e) S5).bnd _) _ from k5)
      refine k5.imp fun ds S6 k6 => ?_
      have k6 : ∀ H' G' io' pl' p, Step H G io H' G' io' → Rel Z H' G' io' pl' S6 de σ → Own Z H' G' io' p (.lst (dacc ++ v :: ds)) → pl' p = none → G' p = none → H p = none → isFresh (.lst (dacc ++ v :: ds)) = true → Q (.ref p) H' := k6
      rw [List.append_assoc]
      exact k6
  · have e : i = items.length := by omega
    subst e
    refine .inl ⟨wk.stop H2 G2 io2 (.of R1 s2) R2.gh, ?_⟩
    rw [List.drop_length] at k2
    have k2 : ∀ H' G' io' pl' p, Step H G io H' G' io' → Rel Z H' G' io' pl' S2 de σ → Own Z H' G' io' p (.lst (dacc ++ [])) → pl' p = none → G' p = none → H p = none → isFresh (.lst (dacc ++ [])) = true → Q (.ref p) H' := k2
    rw [List.append_nil] at k2
    exact k2 H2 G2 io2 pl2 D (s1.trans s2) R2 (.lst hH ra) hpl hg2 h0 rfl
end
end Y
/-! Y11: in, dicts, boxes, calls. -/
namespace Y
open PySem L2

section
variable {Z : Zc} {T : Tb} {C : Calls} {W : WX} {X : Cx} {H G H' G' H1 G1 : Hp} {io io' io1 : List Addr} {pl pl' : Plc} {S S' : Store} {de : Env} {σ : L2.St}
/-! ### in -/
theorem isK1_T (ks : List Key) : isK1 (.tup (ks.map keyD)) = false := rfl
theorem isKT_K (k : Key) : isKT (keyD k) = false := by cases k <;> rfl
/-- a dict's look-up, the kinds alike -/
theorem dget_same {ks vs : List D} {v y : V} {k : Ky} {x : D} (t : Top Z H G io v (.dct ks vs)) (gh : ∀ a u, G a = some u → Held H a u) (r : Rep Z G io y x) (hk : x.ky = some k) (hs : sameK k ks = true) : ∃ a o, v = .ref a ∧ DGet H a y o ∧ o.isSome = (dfind k ks vs).isSome := by
  generalize e : D.dct ks vs = m at t
  cases t <;> first | (cases e; done) | skip
  · rename_i a kvs ds hH rs
    cases e
    cases k with
    | one k =>
      obtain ⟨rfl, rfl⟩ := rep_key r hk
      refine ⟨a, _, rfl, .inl ⟨kvs, k, hH.rd, rfl, rfl⟩, ?_⟩
      rcases dfind_K k rs with ⟨w, d', h1, h2, h3⟩ | ⟨h1, h2⟩ <;> (rw [h1, h2]; rfl)
    | tup k =>
      exfalso
      have hs : (!(kvs.map fun p => keyD p.1).isEmpty && (kvs.map fun p => keyD p.1).all isKT) = true := hs
      cases kvs with
      | nil => cases hs
      | cons p kvs =>
        rw [List.map_cons, List.all_cons, isKT_K] at hs
        cases hs
  · rename_i a kvs ds hne hH rs
    cases e
    cases k with
    | tup k =>
      obtain ⟨b, rfl, hb, rfl⟩ := rep_keyT r hk
      refine ⟨a, _, rfl, .inr ⟨kvs, k, b, hH.rd, rfl, (gh _ _ hb).same rfl, rfl⟩, ?_⟩
      rcases dfind_T k rs with ⟨w, d', h1, h2, h3⟩ | ⟨h1, h2⟩ <;> (rw [h1, h2]; rfl)
    | one k =>
      exfalso
      have hs : (kvs.map fun p => D.tup (p.1.map keyD)).all isK1 = true := hs
      cases kvs with
      | nil => exact hne rfl
      | cons p kvs => cases hs
theorem Top.rep_tup (R : Rel Z H G io pl S de σ) {v : V} {d : D} (t : Top Z H G io v d) (k : Ky) (hk : d.ky = some k) : ∃ G', Rel Z H G' io pl S de σ ∧ Step H G io H G' io ∧ Rep Z G' io v d := by
  cases t <;> first | (cases hk; done) | skip
  · exact ⟨G, R, .refl, .int _⟩
  · exact ⟨G, R, .refl, .str _⟩
  · rename_i h r
    obtain ⟨G', R', s, hg⟩ := R.seen h
    exact ⟨G', R', s, .tup hg (r.step s)⟩
theorem Top.step_same {v : V} {d : D} (t : Top Z H G io v d) (s : Step H G io H G' io) : Top Z H G' io v d := by
  cases t with
  | non => exact .non
  | bl b => exact .bl b
  | int i => exact .int i
  | str s => exact .str s
  | ty n => exact .ty n
  | cls c => exact .cls c
  | tup h r => exact .tup h (r.step s)
  | lst h r => exact .lst h (r.step s)
  | ro h r => exact .ro h (r.step s)
  | dK h r => exact .dK h (r.step s)
  | dT n h r => exact .dT n h (r.step s)
  | ins h r => exact .ins h (r.step s)
theorem isin_core {neg : Bool} {o : O2} (ho : ∀ x c, p2 o x c = (p2.pIn x c).map fun r => .bl (if neg = true then !r else r)) {rD rL rT : R2} (hD : ∀ x y H Q, (∃ d ds, Dp Z.K H x d ∧ Dp Z.K H y (.list ds) ∧ SeqAt.shaped d = true ∧ SeqAt.shaped (.list ds) = true ∧ Q (.bl (if neg = true then !(ds.any fun z => PyData.eqv z d) else ds.any fun z => PyData.eqv z d)) H) → rD x y H Q)
    (hL : ∀ x y H Q, rIn Z.K neg x y H Q → rL x y H Q) (hT : ∀ x y H Q, (∃ a o, y = .ref a ∧ DGet H a x o ∧ Q (.bl (if neg = true then !o.isSome else o.isSome)) H) → rT x y H Q) : P2ok Z o (fun x y H Q => rD x y H Q ∨ (rL x y H Q ∨ rT x y H Q)) := by
  intro H G io pl S de σ v1 v2 d1 d2 d Q R t1 t2 e k
  rw [ho] at e
  obtain ⟨b, e1, e2⟩ := Option.map_eq_some_iff.mp e
  subst e2
  cases d2 <;> first | (cases e1; done) | skip
  · rename_i ds
    have e1 : (if (d1.flat && ds.all D.flat) = true then some (ds.any fun z => PyData.eqv z.py d1.py) else none) = some b := e1
    split at e1 <;> cases e1
    rename_i hz
    obtain ⟨f1, f2⟩ := Bool.and_eq_true_iff.mp hz
    cases t2 with
    | tup h r =>
      have r1 := t1.flat f1
      refine .inr (.inl (hL _ _ _ _ ⟨_, _, rfl, .inr (SqT.of h), flat_v r1 f1, flat_vs r f2, ?_⟩))
      rw [flat_in r1 r f1 f2]
      exact k.here R (.bl _)
  · rename_i ds
    have e1 : (if (d1.shaped && (D.lst ds).shaped) = true then some (ds.any fun z => PyData.eqv z.py d1.py) else none) = some b := e1
    split at e1 <;> cases e1
    rename_i hz
    obtain ⟨f1, f2⟩ := Bool.and_eq_true_iff.mp hz
    refine .inl (hD _ _ _ _ ⟨d1.py, D.pys ds, R.dpT t1 (shaped_ok f1).1, R.dpT t2 (shaped_ok f2).1, (shaped_ok f1).2, (shaped_ok f2).2, ?_⟩)
    rw [any_py]
    exact k.here R (.bl _)
  · rename_i ds
    have e1 : (if (d1.flat && ds.all D.flat) = true then some (ds.any fun z => PyData.eqv z.py d1.py) else none) = some b := e1
    split at e1 <;> cases e1
    rename_i hz
    obtain ⟨f1, f2⟩ := Bool.and_eq_true_iff.mp hz
    cases t2 with
    | ro h r =>
      have r1 := t1.flat f1
      refine .inr (.inl (hL _ _ _ _ ⟨_, _, rfl, h, flat_v r1 f1, flat_vs r f2, ?_⟩))
      rw [flat_in r1 r f1 f2]
      exact k.here R (.bl _)
  · rename_i ks vs
    have e1 : (match d1.ky with | some k => if sameK k ks then some (dfind k ks vs).isSome else none | none => none) = some b := e1
    cases hk : d1.ky with
    | none => rw [hk] at e1; cases e1
    | some kk =>
      rw [hk] at e1
      have e1 : (if sameK kk ks = true then some (dfind kk ks vs).isSome else none) = some b := e1
      clear e
      have hs : sameK kk ks = true := by
        cases q : sameK kk ks with
        | true => rfl
        | false => rw [q, if_neg (by simp)] at e1; cases e1
      rw [if_pos hs] at e1
      cases e1
      obtain ⟨G', R', s, r1⟩ := t1.rep_tup R kk hk
      obtain ⟨a, o, ev, dg, ho⟩ := dget_same (t2.step_same s) R'.gh r1 hk hs
      refine .inr (.inr (hT _ _ _ _ ⟨a, o, ev, dg, ?_⟩))
      rw [ho]
      exact k _ _ _ _ _ s R' (.bl _)
theorem ok_isin : P2ok Z .isin (rInA Z.K) := isin_core (neg := false) (fun x c => rfl) (fun x y H Q q => q) (fun x y H Q q => q) fun x y H Q q => q
theorem ok_nin : P2ok Z .nin (rNinA Z.K) := isin_core (neg := true) (fun x c => rfl) (fun x y H Q q => q) (fun x y H Q q => q) fun x y H Q q => q

/-! ### a key is put -/
section
variable {κ : Type} [DecidableEq κ] {rd : κ → D} {kyc : κ → Ky}
theorem dfind_g (h : ∀ k, (rd k).ky = some (kyc k)) (inj : ∀ a b, kyc a = kyc b → a = b) {kvs : List (κ × V)} {ds : List D} (k : κ) (r : Reps Z G io (kvs.map (·.2)) ds) : (dfind (kyc k) (kvs.map fun p => rd p.1) ds).isSome = (kvs.any fun p => decide (p.1 = k)) := by
  induction kvs generalizing ds with
  | nil => cases r; rfl
  | cons p kvs ih =>
    rw [List.map_cons] at r
    cases r with
    | cons hq t =>
      rename_i d ds
      rw [List.any_cons]
      show (if (rd p.1).ky = some (kyc k) then some d else dfind (kyc k) (kvs.map fun p => rd p.1) ds).isSome = _
      by_cases e : p.1 = k
      · rw [if_pos (by rw [h, e]), decide_eq_true e]
        rfl
      · rw [if_neg (by rw [h]; intro z; exact e (inj _ _ (Option.some.inj z))), decide_eq_false e, Bool.false_or]
        exact ih t
theorem put_g (h : ∀ k, (rd k).ky = some (kyc k)) (inj : ∀ a b, kyc a = kyc b → a = b) {kvs : List (κ × V)} {ds : List D} {k : κ} {v : V} {d : D} (r : Reps Z G io (kvs.map (·.2)) ds) (rv : Rep Z G io v d) :
    ∃ ds', (if (dfind (kyc k) (kvs.map fun p => rd p.1) ds).isSome = true then D.dct (kvs.map fun p => rd p.1) (dputV (kyc k) d (kvs.map fun p => rd p.1) ds) else .dct ((kvs.map fun p => rd p.1) ++ [rd k]) (ds ++ [d])) = .dct ((putK kvs k v).map fun p => rd p.1) ds' ∧ Reps Z G io ((putK kvs k v).map (·.2)) ds' := by
  rw [dfind_g h inj k r]
  unfold putK
  by_cases c : (kvs.any fun kv => decide (kv.1 = k)) = true
  · rw [if_pos c, if_pos c]
    refine ⟨dputV (kyc k) d (kvs.map fun p => rd p.1) ds, ?_, ?_⟩
    · congr 1
      rw [List.map_map]
      refine List.map_congr_left fun p _ => ?_
      show rd p.1 = rd (if p.1 = k then (p.1, v) else p).1
      split <;> rfl
    · clear c
      induction kvs generalizing ds with
      | nil => cases r; exact .nil
      | cons p kvs ih =>
        rw [List.map_cons] at r
        cases r with
        | cons hq t =>
          rename_i d0 ds
          show Reps Z G io (((if p.1 = k then (p.1, v) else p) :: kvs.map fun kv => if kv.1 = k then (kv.1, v) else kv).map (·.2)) (if (rd p.1).ky = some (kyc k) then d :: dputV (kyc k) d (kvs.map fun p => rd p.1) ds else d0 :: dputV (kyc k) d (kvs.map fun p => rd p.1) ds)
          by_cases e : p.1 = k
          · rw [if_pos e, if_pos (by rw [h, e])]
            exact .cons rv (ih t)
          · rw [if_neg e, if_neg (by rw [h]; intro z; exact e (inj _ _ (Option.some.inj z)))]
            exact .cons hq (ih t)
  · rw [if_neg c, if_neg c]
    refine ⟨ds ++ [d], ?_, ?_⟩
    · rw [List.map_append]
      rfl
    · rw [List.map_append]
      exact r.append (.cons rv .nil)
end
theorem one_inj (a b : Key) (h : Ky.one a = .one b) : a = b := by cases h; rfl
theorem tup_inj (a b : List Key) (h : Ky.tup a = .tup b) : a = b := by cases h; rfl

theorem fill_K : ∀ {more : List (Key × V)} {es : List D} {kvs : List (Key × V)} {ds : List D} {d : D}, Reps Z G io (kvs.map (·.2)) ds → Reps Z G io (more.map (·.2)) es → dfill (kvs.map fun p => keyD p.1) ds ((more.zip es).map fun p => .tup [keyD p.1.1, p.2]) = some d → ∃ ds', d = .dct ((mergeK kvs more).map fun p => keyD p.1) ds' ∧ Reps Z G io ((mergeK kvs more).map (·.2)) ds'
  | [], es, kvs, ds, d, r, q, e => by
    cases e
    exact ⟨ds, rfl, r⟩
  | p :: more, es, kvs, ds, d, r, q, e => by
    rw [List.map_cons] at q
    cases q with
    | cons h t =>
      rename_i x es
      have e : (match (keyD p.1).ky with | some (.one y) => if (dfind (.one y) (kvs.map fun p => keyD p.1) ds).isSome then dfill (kvs.map fun p => keyD p.1) (dputV (.one y) x (kvs.map fun p => keyD p.1) ds) ((more.zip es).map fun p => .tup [keyD p.1.1, p.2]) else dfill ((kvs.map fun p => keyD p.1) ++ [keyD p.1]) (ds ++ [x]) ((more.zip es).map fun p => .tup [keyD p.1.1, p.2]) | _ => none) = some d := e
      rw [ky_keyD] at e
      obtain ⟨ds', e1, r1⟩ := put_g (rd := keyD) (kyc := Ky.one) (k := p.1) (v := p.2) ky_keyD one_inj r h
      have e2 : dfill ((putK kvs p.1 p.2).map fun p => keyD p.1) ds' ((more.zip es).map fun p => .tup [keyD p.1.1, p.2]) = some d := by
        by_cases c : (dfind (.one p.1) (kvs.map fun p => keyD p.1) ds).isSome = true
        · rw [if_pos c] at e1
          have e : (if (dfind (.one p.1) (kvs.map fun p => keyD p.1) ds).isSome = true then dfill (kvs.map fun p => keyD p.1) (dputV (.one p.1) x (kvs.map fun p => keyD p.1) ds) ((more.zip es).map fun p => .tup [keyD p.1.1, p.2]) else dfill ((kvs.map fun p => keyD p.1) ++ [keyD p.1]) (ds ++ [x]) ((more.zip es).map fun p => .tup [keyD p.1.1, p.2])) = some d := e
          rw [if_pos c] at e
          have z1 : (kvs.map fun p => keyD p.1) = (putK kvs p.1 p.2).map fun p => keyD p.1 := D.dct.inj e1 |>.1
          have z2 := D.dct.inj e1 |>.2
          rw [← z2, ← z1]
          exact e
        · rw [if_neg c] at e1
          have e : (if (dfind (.one p.1) (kvs.map fun p => keyD p.1) ds).isSome = true then dfill (kvs.map fun p => keyD p.1) (dputV (.one p.1) x (kvs.map fun p => keyD p.1) ds) ((more.zip es).map fun p => .tup [keyD p.1.1, p.2]) else dfill ((kvs.map fun p => keyD p.1) ++ [keyD p.1]) (ds ++ [x]) ((more.zip es).map fun p => .tup [keyD p.1.1, p.2])) = some d := e
          rw [if_neg c] at e
          have z1 : (kvs.map fun p => keyD p.1) ++ [keyD p.1] = (putK kvs p.1 p.2).map fun p => keyD p.1 := D.dct.inj e1 |>.1
          have z2 := D.dct.inj e1 |>.2
          rw [← z2, ← z1]
          exact e
      exact fill_K (more := more) r1 t e2
theorem ky_one {k : D} {y : Key} (q : k.ky = some (.one y)) : k = keyD y := by
  cases k <;> first | (cases q; done) | skip
  · cases q; rfl
  · cases q; rfl
  · rename_i l
    have q : (dKeys l).map Ky.tup = some (.one y) := q
    cases q2 : dKeys l <;> rw [q2] at q <;> cases q
/-- what dfill takes: pairs with one key each -/
theorem fill_pairs : ∀ {ds ks vs : List D} {d : D}, dfill ks vs ds = some d → ∃ (ls : List Key) (es : List D), ls.length = es.length ∧ ds = (ls.zip es).map fun p => D.tup [keyD p.1, p.2]
  | [], ks, vs, d, e => ⟨[], [], rfl, rfl⟩
  | x :: r, ks, vs, d, e => by
    have : ∃ k v, x = .tup [k, v] := by
      unfold dfill at e
      split at e <;> first | (cases e; done) | skip
      · rename_i h; cases h
      · rename_i k v r' h
        cases h
        exact ⟨k, v, rfl⟩
    obtain ⟨k, v, rfl⟩ := this
    have e : (match k.ky with | some (.one y) => if (dfind (.one y) ks vs).isSome then dfill ks (dputV (.one y) v ks vs) r else dfill (ks ++ [k]) (vs ++ [v]) r | _ => none) = some d := e
    have : ∃ y, k.ky = some (.one y) := by
      cases q : k.ky with
      | none => rw [q] at e; cases e
      | some z =>
        cases z with
        | one y => exact ⟨y, rfl⟩
        | tup y => rw [q] at e; cases e
    obtain ⟨y, q⟩ := this
    rw [q] at e
    have e : (if (dfind (.one y) ks vs).isSome = true then dfill ks (dputV (.one y) v ks vs) r else dfill (ks ++ [k]) (vs ++ [v]) r) = some d := e
    have ek : k = keyD y := ky_one q
    subst ek
    have : ∃ (ls : List Key) (es : List D), ls.length = es.length ∧ r = (ls.zip es).map fun p => D.tup [keyD p.1, p.2] := by
      split at e
      · exact fill_pairs e
      · exact fill_pairs e
    obtain ⟨ls, es, hl, rfl⟩ := this
    exact ⟨y :: ls, v :: es, by simp [hl], rfl⟩
theorem NGo.dK {ks vs : List D} {kvs : List (Key × V)} {Q : VK} (k : NGo Z H G io S de σ (.dct (kvs.map fun p => keyD p.1) vs) Q) (R : Rel Z H G io pl S de σ) (r : Reps Z G io (kvs.map (·.2)) vs) {p : Addr} (hp : H p = none) : Q (.ref p) (upd H p (.dK kvs)) := by
  obtain ⟨R', s', n, g⟩ := R.laid hp (.dK kvs)
  exact k _ _ _ _ _ s' R' (.dK upd_same r) n g hp rfl

/-! ### dicts made -/
theorem Step.keepO (s : Step H G io H' G' io') {p : Addr} {o : HO} (h : H p = some o) (ho : ∀ ps, o ≠ .tbl ps) (ho2 : ∀ xs, o ≠ .tup xs) (g : G p = Option.none) (n : p ∉ io) : H' p = some o ∧ G' p = Option.none ∧ p ∉ io' := by
  refine ⟨?_, ?_, fun hm => ?_⟩
  · rcases s.fr p _ h n ho with q | ⟨_, q, _⟩
    · exact q
    · rw [g] at q; cases q
  · cases q : G' p with
    | none => rfl
    | some u =>
      rcases s.gn p (by rw [q]; exact Option.some_ne_none u) with z | z | ⟨ys, z⟩
      · exact absurd g z
      · rw [h] at z; cases z
      · rw [h] at z
        exact absurd (Option.some.inj z) (ho2 ys)
  · obtain ⟨m, e, hn⟩ := s.ext
    rw [e] at hm
    rcases List.mem_append.mp hm with z | z
    · exact n z
    · rw [hn p z] at h
      cases h
def tPs (Z : Zc) (T : Tb) (C : Calls) (W : WX) : IR → List (TE × TE)
  | .cons k (.cons v r) => (tE Z T C W k, tE Z T C W v) :: tPs Z T C W r
  | _ => []
def evenI : IR → Bool
  | .cons _ (.cons _ r) => evenI r
  | .nil => true
  | _ => false
def flat2 (ps : List (V × V)) : List V := ps.flatMap fun p => [p.1, p.2]
theorem pairs_go : ∀ (a : IR), evenI a = true → ∀ {H G : Hp} {io : List Addr} {pl : Plc} {S : Store} {K : List D → Store → Prop} {Q : List (V × V) → Hp → Prop}, Rel Z H G io pl S de σ → Fin Z H G io de σ W (evl T C de a S) K → (∀ H' G' io' pl' ps ds S', Step H G io H' G' io' → Rel Z H' G' io' pl' S' de σ → Reps Z G' io' (flat2 ps) ds → K ds S' → Q ps H') → tPairs (tPs Z T C W a) σ H Q
  | .nil, _, H, G, io, pl, S, K, Q, R, h, k => k H G io pl [] [] S .refl R .nil h
  | .cons a (.cons b r), ev, H, G, io, pl, S, K, Q, R, h, k => by
    refine ⟨G, io, pl, S, de, R, (Fin.bnd (show Fin Z H G io de σ W ((Y.ev T C de a S).bnd _) _ from h)).imp fun x S1 k1 H1 G1 io1 pl1 v s1 R1 r1 => ?_⟩
    have k1 := Fin.bnd (show Fin Z H G io de σ W ((evl T C de (.cons b r) S1).bnd _) _ from k1)
    refine ⟨G1, io1, pl1, S1, de, R1, (Fin.bnd (show Fin Z H G io de σ W ((Y.ev T C de b S1).bnd _) _ from k1)).at s1 fun y S2 k2 H2 G2 io2 pl2 w s2 R2 r2 => ?_⟩
    have k2 := Fin.bnd (show Fin Z H G io de σ W ((evl T C de r S2).bnd _) _ from k2)
    refine pairs_go r ev R2 (k2.at (s1.trans s2) fun _ _ z => z) fun H3 G3 io3 pl3 ps ds S3 s3 R3 rs k3 => ?_
    exact k H3 G3 io3 pl3 ((v, w) :: ps) (x :: y :: ds) S3 ((s1.trans s2).trans s3) R3 (.cons (r1.step (s2.trans s3)) (.cons (r2.step s3) rs)) k3
theorem pairs_split : ∀ {ls : List Key} {es ds : List D} {ps : List (V × V)}, ls.length = es.length → Reps Z G io (flat2 ps) ds → pairUp ds = (ls.zip es).map (fun p => D.tup [keyD p.1, p.2]) → ∃ kvs : List (Key × V), ps = kvs.map (fun kv => (kV kv.1, kv.2)) ∧ kvs.map (·.1) = ls ∧ Reps Z G io (kvs.map (·.2)) es
  | ls, es, ds, [], hl, r, e => by
    cases r
    cases ls with
    | cons l ls =>
      cases es with
      | nil => simp at hl
      | cons x es => cases e
    | nil =>
      cases es with
      | nil => exact ⟨[], rfl, rfl, .nil⟩
      | cons x es => simp at hl
  | ls, es, ds, p :: ps, hl, r, e => by
    have r : Reps Z G io (p.1 :: p.2 :: flat2 ps) ds := r
    cases r with
    | @cons _ d1 _ _ h1 t =>
      cases t with
      | @cons _ d2 _ ds h2 t =>
        cases ls with
        | nil => cases e
        | cons l ls =>
          cases es with
          | nil => simp at hl
          | cons x es =>
            have e : D.tup [d1, d2] :: pairUp ds = .tup [keyD l, x] :: (ls.zip es).map (fun p => D.tup [keyD p.1, p.2]) := e
            obtain ⟨e1, e2⟩ := List.cons.inj e
            have e3 := D.tup.inj e1
            cases e3
            obtain ⟨kvs, q1, q2, q3⟩ := pairs_split (by simpa using hl) t e2
            refine ⟨(l, p.2) :: kvs, ?_, by rw [List.map_cons, q2], .cons h2 q3⟩
            rw [List.map_cons, ← q1]
            have h3 := (rep_key h1 (ky_keyD l)).1
            obtain ⟨p1, p2⟩ := p
            have h3 : p1 = kV l := h3
            subst h3
            rfl
theorem zip_keys {kvs : List (Key × V)} {ls : List Key} {es : List D} (h : kvs.map (·.1) = ls) : (kvs.zip es).map (fun p => D.tup [keyD p.1.1, p.2]) = (ls.zip es).map (fun p => D.tup [keyD p.1, p.2]) := by
  subst h
  rw [List.zip_map_left, List.map_map]
  rfl
theorem n_dct {a : IR} {keys : List (Option Expr)} {values : List Expr} {pos : Pos} (h : PPs X pos keys values (tPs Z T C W a)) (he : evenI a = true) (h0 : keys ≠ []) (hall : keys.all (·.isSome) = true := by rfl) (hl : keys.length = values.length := by rfl) (h15 : keys.length ≤ 15 := by decide) : PE X (.Dict keys values pos) (tN Z T C W (.dct a)) := (pe_disp h hall hl h0 h15).wk fun σ H Q q => by
  obtain ⟨G, io, pl, S, de, R, h⟩ := q
  intro p hp
  obtain ⟨R1, s1, pn, gn⟩ := R.laid hp (.dK [])
  have h := Fin.bnd (show Fin Z H G io de σ W ((evl T C de a S).bnd _) _ from h)
  refine pairs_go a he R1 (h.at s1 fun _ _ z => z) fun H2 G2 io2 pl2 ps ds S2 s2 R2 rs k => ?_
  have k : Fin Z H G io de σ W ((if ds.length ≤ 30 ∧ ds.length % 2 = 0 then fun S => lift (dfill [] [] (pairUp ds)) S else fail : M D) S2) _ := k
  split at k
  · rename_i hz
    obtain ⟨d, e, k⟩ := k.lift
    obtain ⟨ls, es, hl, ep⟩ := fill_pairs e
    obtain ⟨kvs, rfl, q2, q3⟩ := pairs_split hl rs ep
    rw [ep, ← zip_keys q2] at e
    obtain ⟨ds', rfl, rr⟩ := fill_K (kvs := []) (ds := []) .nil q3 e
    obtain ⟨z1, z2, z3⟩ := s2.keepO (p := p) upd_same (by simp) (by simp) gn (R1.nio pn)
    have lz : kvs.length ≤ 15 := by
      have l1 := rs.length
      have l2 : ∀ kvs : List (Key × V), (flat2 (kvs.map fun kv => (kV kv.1, kv.2))).length = 2 * kvs.length := fun kvs => by
        induction kvs with
        | nil => rfl
        | cons q kvs ih =>
          show _ = 2 * (kvs.length + 1)
          have : (flat2 ((q :: kvs).map fun kv => (kV kv.1, kv.2))).length = (flat2 (kvs.map fun kv => (kV kv.1, kv.2))).length + 2 := rfl
          rw [this, ih]
          omega
      rw [l2] at l1
      omega
    refine ⟨z1, kvs, rfl, lz, ?_⟩
    obtain ⟨pl3, R3, hp3⟩ := R1.backN s2 R2 pn z3
    exact k _ G2 io2 pl3 p ((s1.trans s2).write hp (by simp)) (R3.write z1 (by simp) (by simp) hp3 z2) (.dK upd_same rr) hp3 z2 hp rfl
  · exact k.elim
theorem n_dct0 {pos : Pos} : PE X (.Dict [] [] pos) (tN Z T C W (.dct .nil)) := (pe_dnewK (X := X)).wk fun σ H Q q => by
  obtain ⟨G, io, pl, S, de, R, h⟩ := q
  intro p hp
  obtain ⟨R1, s1, pn, gn⟩ := R.laid hp (.dK [])
  exact h _ G io pl p s1 R1 (.dK (kvs := []) upd_same .nil) pn gn hp rfl
def rDictA (K : PySem.W.Frag) : List V → Hp → VK → Prop := fun xs H Q => (∃ (a : Addr) (ps : List Addr) (kvs : List (Key × V)), xs = [.ref a] ∧ SqL K H a (ps.map V.ref) ∧ Paired (fun p kv => SqT K H p [kV kv.1, kv.2]) ps kvs ∧
    ∀ p, H p = none → Q (.ref p) (upd H p (.dK (mergeK [] kvs)))) ∨ (∃ (a : Addr) (kvs : List (Key × V)), xs = [.ref a] ∧ Rd H a (.dK kvs) ∧ ∀ p, H p = none → Q (.ref p) (upd H p (.dK kvs)))
theorem call_dictA (hcalm : X.calm = true) : CallR X (.type "dict") (rDictA X.K) := (call_dictP hcalm).or call_dictD
theorem tups_of (gh : GH G H) {K : PySem.W.Frag} : ∀ {ls : List Key} {es : List D} {vs : List V}, ls.length = es.length → Reps Z G io vs ((ls.zip es).map fun p => D.tup [keyD p.1, p.2]) → ∃ (ps : List Addr) (kvs : List (Key × V)), vs = ps.map V.ref ∧ Paired (fun p kv => SqT K H p [kV kv.1, kv.2]) ps kvs ∧ kvs.map (·.1) = ls ∧ Reps Z G io (kvs.map (·.2)) es
  | [], [], vs, _, r => by
    cases r
    exact ⟨[], [], rfl, .nil, rfl, .nil⟩
  | [], _ :: _, _, h, _ => by simp at h
  | _ :: _, [], _, h, _ => by simp at h
  | l :: ls, e :: es, vs, h, r => by
    have r : Reps Z G io vs (D.tup [keyD l, e] :: (ls.zip es).map fun p => D.tup [keyD p.1, p.2]) := r
    cases r with
    | cons q t =>
      obtain ⟨ps, kvs, rfl, h2, h3, h4⟩ := tups_of gh (by simpa using h) t
      cases q with
      | tup g rr =>
        cases rr with
        | cons a1 b =>
          cases b with
          | cons a2 b =>
            cases b
            have e1 := (rep_key a1 (ky_keyD l)).1
            subst e1
            exact ⟨_ :: ps, (l, _) :: kvs, rfl, .cons (SqT.of ((gh _ _ g).same rfl)) h2, by rw [List.map_cons, h3], .cons a2 h4⟩
theorem ok_dict : PNok Z .dict (rDictA Z.K) := by
  intro H G io pl S de σ vs ds d Q R t e k
  match ds, t, e with
  | [.lst xs], t, e =>
    obtain ⟨v, rfl, tt⟩ := t.one rfl
    have e : dfill [] [] xs = some d := e
    obtain ⟨ls, es, hl, ep⟩ := fill_pairs e
    subst ep
    cases tt with
    | lst h r =>
      obtain ⟨ps, kvs, rfl, hp, h3, h4⟩ := tups_of (K := Z.K) R.gh hl r
      rw [← zip_keys h3] at e
      obtain ⟨ds', rfl, rr⟩ := fill_K (kvs := []) (ds := []) .nil h4 e
      exact .inl ⟨_, ps, kvs, rfl, SqL.of h, hp, fun p hp => k.dK (ks := []) R rr hp⟩
  | [.dct ks ws], t, e =>
    obtain ⟨v, rfl, tt⟩ := t.one rfl
    have e : (if ks.all isK1 = true then some (D.dct ks ws) else none) = some d := e
    split at e <;> first | (cases e; done) | skip
    rename_i hz
    generalize em : D.dct ks ws = m at tt
    cases tt with
    | @dK a kvs ds h r =>
      cases em
      cases e
      exact .inr ⟨_, _, rfl, h.rd, fun p hp => k.dK (ks := []) R r hp⟩
    | @dT a kvs ds hne h r =>
      cases em
      cases kvs with
      | nil => exact absurd rfl hne
      | cons p kvs => cases hz
    | _ => cases em

/-! ### boxes -/
/-- a new container of one's own goes into the store -/
theorem Own.boxed (R : Rel Z H' G' io' pl' S' de σ) (s : Step H G io H' G' io') {p : Addr} {d : D} (ow : Own Z H' G' io' p d) (n : pl' p = none) (g : G' p = none) (h0 : H p = none) (f : isFresh d = true) : ∃ pl2, Rel Z H' G' (io' ++ [p]) pl2 (S' ++ [d]) de σ ∧ Step H G io H' G' (io' ++ [p]) ∧ (io' ++ [p])[S'.length]? = some p := by
  have hi : ∀ (k : Nat) (a : Addr), io'[k]? = some a → (io' ++ [p])[k]? = some a := fun k a h => by
    rw [List.getElem?_append_left (List.getElem?_eq_some_iff.mp h).1]
    exact h
  have ip : (io' ++ [p])[S'.length]? = some p := by
    rw [← R.bl, List.getElem?_append_right (Nat.le_refl _), Nat.sub_self]
    rfl
  let q : Plc := fun a => if a = p then some (.box S'.length) else pl' a
  have qn : ∀ a x, pl' a = some x → q a = some x := fun a x h => by
    show (if a = p then some (Pl.box S'.length) else pl' a) = some x
    rw [if_neg fun e => by rw [e, n] at h; cases h]
    exact h
  have ht : H' p ≠ none ∧ ∀ xs, H' p ≠ some (.tup xs) := by
    cases ow with
    | lst h r => rw [h]; simp
    | dK h r => rw [h]; simp
    | dT _ h r => rw [h]; simp
    | ins h hx hg r => cases f
  refine ⟨q, ⟨R.gh, R.len, fun k e he => ?_, by rw [List.length_append, List.length_append, R.bl]; rfl, fun k d' hd => ?_, fun a ha => ?_⟩, ⟨s.gg, s.gn, s.fr, ?_, s.al, s.tp⟩, ip⟩
  · obtain ⟨v, hv, r⟩ := R.slots k e he
    exact ⟨v, hv, r.mono (fun _ _ h => h) hi (fun a x _ h => qn a x h) (fun _ _ _ _ _ h => h) fun a dx h => ⟨h, fun g => g⟩⟩
  · by_cases c : k < S'.length
    · rw [List.getElem?_append_left c] at hd
      obtain ⟨a, ha, hpa, o⟩ := R.boxes k d' hd
      exact ⟨a, hi _ _ ha, qn _ _ hpa, o.mono (fun _ _ h => h) hi (fun _ h => h) fun c dx fs _ h => ⟨h, fun g => g⟩⟩
    · rw [List.getElem?_append_right (by omega)] at hd
      have : k = S'.length := by
        have := (List.getElem?_eq_some_iff.mp hd).1
        simp at this
        omega
      subst this
      rw [Nat.sub_self] at hd
      cases hd
      exact ⟨p, ip, if_pos rfl, ow.mono (fun _ _ h => h) hi (fun _ h => h) fun c dx fs _ h => ⟨h, fun g => g⟩⟩
  · by_cases e : a = p
    · subst e
      exact ⟨g, ht⟩
    · have : pl' a ≠ none := fun z => ha (show (if a = p then some (Pl.box S'.length) else pl' a) = none by rw [if_neg e]; exact z)
      exact R.plg a this
  · obtain ⟨m, e, hm⟩ := s.ext
    refine ⟨m ++ [p], by rw [e, List.append_assoc], fun a ha => ?_⟩
    rcases List.mem_append.mp ha with z | z
    · exact hm a z
    · rw [List.mem_singleton.mp z]
      exact h0
theorem s_boxed {a : IR} {e : Expr} (h : PE X e (tN Z T C W a)) : PE X e (tE Z T C W (.boxed a)) := h.wk fun σ H Q q => by
  obtain ⟨G, io, pl, S, de, R, h⟩ := q
  refine ⟨G, io, pl, S, de, R, (Fin.bnd (show Fin Z H G io de σ W ((ev T C de a S).bnd _) _ from h)).imp fun d S1 k H1 G1 io1 pl1 p s1 R1 ow n g h0 f => ?_⟩
  obtain ⟨pl2, R2, s2, ip⟩ := ow.boxed R1 s1 n g h0 f
  have k : ∀ H' G' io' pl' v, Step H G io H' G' io' → Rel Z H' G' io' pl' (S1 ++ [d]) de σ → Rep Z G' io' v (.box S1.length) → Q v H' := k
  exact k H1 G1 _ pl2 _ s2 R2 (.box ip)
/-- what is owned is written: everything else stays -/
theorem Rel.setBox (R : Rel Z H G io pl S de σ) {n : Nat} {a : Addr} {d d' : D} {u o : HO} (hS : S[n]? = some d) (ha : io[n]? = some a) (hp : pl a = some (.box n)) (hu : H a = some u) (hu1 : ∀ x, u ≠ .own x) (hu2 : ∀ xs, o ≠ .tup xs) (ow : Own Z (upd H a o) G io a d') : Rel Z (upd H a o) G io pl (S.set n d') de σ ∧ Step H G io (upd H a o) G io := by
  have ga := (R.plg a (by rw [hp]; exact Option.some_ne_none _)).1
  have ne : ∀ b q, pl b = some q → q ≠ .box n → b ≠ a := fun b q h hq e => by
    rw [e, hp] at h
    cases h
    exact hq rfl
  have hne : ∀ dx x, H dx = some (.own x) → dx ≠ a := fun dx x h e => by
    rw [e, hu] at h
    cases h
    exact hu1 x rfl
  have mem : a ∈ io := List.mem_of_getElem? ha
  refine ⟨⟨fun b w h => ?_, R.len, fun k e he => ?_, by rw [List.length_set]; exact R.bl, fun k dk hd => ?_, fun b hb => ?_⟩, ⟨fun _ _ h => h, fun b h => .inl h, fun b w h hi _ => .inl (by rw [upd_ne fun e => hi (by rw [e]; exact mem)]; exact h), ⟨[], by simp, by simp⟩, fun b h => ?_, fun b xs h => ?_⟩⟩
  · have e : b ≠ a := fun e => by
      rw [e, ga] at h
      cases h
    rcases R.gh b w h with q | ⟨i, o', q⟩
    · exact .inl (by rw [upd_ne e]; exact q)
    · exact .inr ⟨i, o', by rw [upd_ne e]; exact q⟩
  · obtain ⟨v, hv, r⟩ := R.slots k e he
    exact ⟨v, hv, r.mono (fun _ _ h => h) (fun _ _ h => h) (fun _ _ _ h => h) (fun b q w hq hn h => by rw [upd_ne (ne b q hq (hn n))]; exact h) fun b dx h => ⟨by rw [upd_ne (hne _ _ h)]; exact h, fun g => g⟩⟩
  · by_cases e : n = k
    · subst e
      rw [List.getElem?_set_self (List.getElem?_eq_some_iff.mp hS).1] at hd
      cases hd
      exact ⟨a, ha, hp, ow⟩
    · rw [List.getElem?_set_ne e] at hd
      obtain ⟨b, hb, hpb, o'⟩ := R.boxes k dk hd
      exact ⟨b, hb, hpb, o'.off hu hu1 (ne b _ hpb fun z => e (by cases z; rfl))⟩
  · by_cases e : b = a
    · subst e
      exact ⟨ga, by rw [upd_same]; exact Option.some_ne_none _, fun xs h => hu2 xs (by rw [upd_same] at h; exact Option.some.inj h)⟩
    · rw [upd_ne e]
      exact R.plg b hb
  · by_cases e : b = a
    · rw [e, upd_same]
      exact Option.some_ne_none _
    · rw [upd_ne e]
      exact h
  · by_cases e : b = a
    · rw [e, upd_same] at h
      exact absurd (Option.some.inj h) (hu2 xs)
    · rw [upd_ne e] at h
      exact .inl h
theorem Reps.erase {vs : List V} {ds : List D} (r : Reps Z G io vs ds) (k : Nat) : Reps Z G io (vs.eraseIdx k) (ds.eraseIdx k) := by
  induction k generalizing vs ds with
  | zero =>
    cases r with
    | nil => exact .nil
    | cons h t => exact t
  | succ k ih =>
    cases r with
    | nil => exact .nil
    | cons h t => exact .cons h (ih t)
theorem Reps.dropLast {vs : List V} {ds : List D} (r : Reps Z G io vs ds) : Reps Z G io vs.dropLast ds.dropLast := by
  induction ds generalizing vs with
  | nil => cases r; exact .nil
  | cons d ds ih =>
    cases r with
    | cons h t =>
      cases t with
      | nil => exact .nil
      | cons h2 t2 => exact .cons h (ih (.cons h2 t2))
theorem s_bpop0 {a : IR} {e : Expr} {apos cpos : Pos} (hK : X.K = Z.K) (ha : PE X e (tE Z T C W a)) (hbase : attributeBase e "pop" X.env (eval e X.env) = eval e X.env := by rfl) (hline : (apos.endLine == cpos.line) = true := by rfl) : PE X (.Call (.Attribute e "pop" apos) [] [] cpos) (tE Z T C W (.bpop a .nil)) := (pe_bm0 PySem.F.plainAttrs_list PySem.F.slot_list_pop PySem.F.type_list_pop mt_pop ha hbase hline).wk fun σ H Q q => by
  obtain ⟨G, io, pl, S, de, R, h⟩ := q
  refine ⟨G, io, pl, S, de, R, (Fin.bnd (show Fin Z H G io de σ W ((ev T C de a S).bnd _) _ from h)).imp fun x S1 k H1 G1 io1 pl1 v s1 R1 r => ?_⟩
  cases r <;> first | exact (k : False).elim | skip
  rename_i p n hp
  have k := Fin.bnd (show Fin Z H G io de σ W ((isBoxL (.box n) S1).bnd _) _ from k)
  have k : Fin Z H G io de σ W ((match S1[n]? with | some (.lst _) => .ok () S1 | _ => .bad : Res Unit)) _ := k
  cases hS : S1[n]? with
  | none => rw [hS] at k; exact k.elim
  | some d =>
    rw [hS] at k
    cases d <;> first | exact (k : False).elim | skip
    rename_i xs
    have k : Fin Z H G io de σ W (popR (.box n) none S1) _ := k
    unfold popR at k
    dsimp only at k
    rw [hS] at k
    have k : Fin Z H G io de σ W (popLast n xs S1) _ := k
    unfold popLast at k
    cases hy : xs[xs.length - 1]? with
    | none => rw [hy] at k; exact k.elim
    | some y =>
      rw [hy] at k
      obtain ⟨p', hp', hpl, ow⟩ := R1.boxes n _ hS
      rw [hp] at hp'
      cases hp'
      cases ow with
      | lst h r =>
        obtain ⟨w, hw, rw'⟩ := r.get hy
        rw [← r.length] at hw
        obtain ⟨R2, s2⟩ := R1.setBox hS hp hpl h (by simp) (by simp) (.lst upd_same r.dropLast)
        exact ⟨.inl ⟨rfl, _, SqL.of h⟩, _, _, w, rfl, rfl, h, hw, k _ _ _ _ _ (s1.trans s2) R2 (rw'.step s2)⟩
theorem s_bpop1 {a i : IR} {e f : Expr} {apos cpos : Pos} (hK : X.K = Z.K) (ha : PE X e (tE Z T C W a)) (hi : PE X f (tE Z T C W i)) (hbase : attributeBase e "pop" X.env (eval e X.env) = eval e X.env := by rfl)
    (hfew : ((backTo cpos (starEach [f] X.env)).all (fun x => !x.1) && (backToKw cpos (keywordEach [] X.env)).all (fun x => x.1.isSome)
      && decide ([f].length + ([] : List Keyword).length + (if ([] : List Keyword).isEmpty then 0 else 1) < 30)) = true := by rfl)
    (hline : (apos.endLine == cpos.line) = true := by rfl) (hs : starEach [f] X.env = (false, eval f X.env) :: starEach [] X.env := by rfl) (hplain : (backTo cpos (starEach [] X.env)).any (·.1) = false := by rfl) : PE X (.Call (.Attribute e "pop" apos) [f] [] cpos) (tE Z T C W (.bpop a (.cons i .nil))) := (pe_bm PySem.F.plainAttrs_list PySem.F.slot_list_pop PySem.F.type_list_pop mt_popAt ha (pa_cons hi pa_nil hs) hbase hfew hline hs hplain).wk fun σ H Q q => by
  obtain ⟨G, io, pl, S, de, R, h⟩ := q
  refine ⟨G, io, pl, S, de, R, (Fin.bnd (show Fin Z H G io de σ W ((ev T C de a S).bnd _) _ from h)).imp fun x S1 k H1 G1 io1 pl1 v s1 R1 r => ?_⟩
  cases r <;> first | exact (k : False).elim | skip
  rename_i p n hp
  have k := Fin.bnd (show Fin Z H G io de σ W ((isBoxL (.box n) S1).bnd _) _ from k)
  have k : Fin Z H G io de σ W ((match S1[n]? with | some (.lst _) => .ok () S1 | _ => .bad : Res Unit)) _ := k
  cases hS : S1[n]? with
  | none => rw [hS] at k; exact k.elim
  | some d =>
    rw [hS] at k
    cases d <;> first | exact (k : False).elim | skip
    rename_i xs
    have k := Fin.bnd (show Fin Z H G io de σ W ((evo T C de (.cons i .nil) S1).bnd _) _ from k)
    have k := Fin.bnd (show Fin Z H G io de σ W ((ev T C de i S1).bnd _) _ from k)
    obtain ⟨p', hp', hpl, ow⟩ := R1.boxes n _ hS
    rw [hp] at hp'
    cases hp'
    cases ow with
    | lst h r =>
      refine ⟨.inl ⟨rfl, _, SqL.of h⟩, G1, io1, pl1, S1, de, R1, k.at s1 fun y S2 k2 H2 G2 io2 pl2 u s2 R2 r2 => ?_⟩
      cases r2 <;> first | exact (k2 : False).elim | skip
      rename_i j
      have k2 : Fin Z H G io de σ W (popR (.box n) (some j) S2) _ := k2
      unfold popR at k2
      dsimp only at k2
      have hp2 := ext_get s2 hp
      cases hS2 : S2[n]? with
      | none => rw [hS2] at k2; exact k2.elim
      | some d2 =>
        rw [hS2] at k2
        cases d2 <;> first | exact (k2 : False).elim | skip
        rename_i ys
        have k2 : Fin Z H G io de σ W (popAt n ys j S2) _ := k2
        unfold popAt at k2
        split at k2
        · rename_i hz
          cases hq : ixN ys.length j with
          | none => rw [hq] at k2; exact k2.elim
          | some q =>
            rw [hq] at k2
            dsimp only at k2
            cases hy : ys[q]? with
            | none => rw [hy] at k2; exact k2.elim
            | some y =>
              rw [hy] at k2
              obtain ⟨p3, hp3, hpl3, ow3⟩ := R2.boxes n _ hS2
              rw [hp2] at hp3
              cases hp3
              cases ow3 with
              | lst h3 r3 =>
                obtain ⟨w, hw, rw'⟩ := r3.get hy
                obtain ⟨R3, s3⟩ := R2.setBox hS2 hp2 hpl3 h3 (by simp) (by simp) (.lst upd_same (r3.erase q))
                have hq' := (ixN_seq hq).1
                rw [← r3.length] at hq'
                exact ⟨_, _, j, q, w, rfl, rfl, h3, by omega, by omega, hq', hw, k2 _ _ _ _ _ ((s1.trans s2).trans s3) R3 (rw'.step s3)⟩
        · exact k2.elim

/-! ### calls -/
/-- what a def promises -/
def spD (Z : Zc) (C : Calls) (f : Nat) (n : Nat) : Sp := fun vs H Q E => vs.length = n ∧ ∃ G io pl S ds, Rel Z H G io pl S [] [] ∧ Reps Z G io vs ds ∧ Fin Z H G io [] [] (fun cls dd _ H' => E cls dd H') (C f ds S) fun r S' => ∀ H' G' io' pl' v, Step H G io H' G' io' → Rel Z H' G' io' pl' S' [] [] → Rep Z G' io' v r.1 → Q v H'
theorem Rel.bare (R : Rel Z H G io pl S de σ) : Rel Z H G io pl S [] [] := ⟨R.gh, rfl, fun i e h => by simp at h, R.bl, R.boxes, R.plg⟩
theorem call_go {n f : Nat} {E : XK} {Q : VK} {vs : List V} {ds : List D} {K : D × Bool → Store → Prop} (hE : ∀ cls d σ H, W cls d σ H → E cls d H) (R : Rel Z H G io pl S de σ) (r : Reps Z G io vs ds) (hn : vs.length = n) (h : Fin Z H G io de σ W (C f ds S) K)
    (k : ∀ x S', K x S' → ∀ H' G' io' pl' v, Step H G io H' G' io' → Rel Z H' G' io' pl' S' de σ → Rep Z G' io' v x.1 → Q v H') : spD Z C f n vs H Q E := by
  refine ⟨hn, G, io, pl, S, ds, R.bare, r, ?_⟩
  generalize C f ds S = rr at h
  cases rr with
  | bad => exact h.elim
  | exc c fs S' =>
    intro H' G' io' pl' cls dd s R' x
    obtain ⟨pl2, R2, _⟩ := R.back s R'
    exact hE _ _ σ _ (h H' G' io' pl2 cls dd s R2 x)
  | ok x S' =>
    intro H' G' io' pl' v s R' rv
    obtain ⟨pl2, R2, _⟩ := R.back s R'
    exact k x S' h H' G' io' pl2 v s R2 rv
theorem tE_call {f n : Nat} {a : IR} {E : XK} {Q : VK} (hE : ∀ cls d σ H, W cls d σ H → E cls d H) (hn : ∀ {ds S r S'}, C f ds S = .ok r S' → ds.length = n) (hx : ∀ {ds S}, ds.length ≠ n → C f ds S = .bad) (q : tE Z T C W (.call f a) σ H Q) : tCall (spD Z C f n) [] E (tL Z T C W a) σ H Q := by
  obtain ⟨G, io, pl, S, de, R, h⟩ := q
  refine ⟨G, io, pl, S, de, R, (Fin.bnd (show Fin Z H G io de σ W ((evl T C de a S).bnd _) _ from h)).imp fun ds S1 k H1 G1 io1 pl1 vs s1 R1 r => ?_⟩
  show spD Z C f n (vs ++ []) H1 Q E
  rw [List.append_nil]
  have k := Fin.bnd (show Fin Z H G io de σ W ((C f ds S1).bnd _) _ from k)
  have hl : ds.length = n := by
    refine Decidable.byContradiction fun z => ?_
    rw [hx z] at k
    exact k
  exact call_go hE R1 r (by rw [r.length]; exact hl) (k.at s1 fun _ _ z => z) fun x S2 k2 H2 G2 io2 pl2 v s2 R2 rv => k2 H2 G2 io2 pl2 v (s1.trans s2) R2 rv
end
end Y
/-! Y12: statements. -/
namespace Y
open PySem L2

section
variable {bs : List (Hp × Hp × List Addr)} {Z : Zc} {T : Tb} {C : Calls} {W : WX} {X : Cx} {N : Nat} {H G H' G' H1 G1 H0 G0 : Hp} {io io' io1 io0 : List Addr} {pl pl' : Plc} {S S' : Store} {de : Env} {σ : L2.St}
/-- since the entry: one's own containers are new -/
structure Bs (bs : List (Hp × Hp × List Addr)) (H0 G0 : Hp) (io0 : List Addr) (H G : Hp) (io : List Addr) (pl : Plc) : Prop where
  st : Step H0 G0 io0 H G io
  kp : ∀ b ∈ bs, Kp b.1 b.2.1 b.2.2 H G io
  nw : ∀ a p, (∀ n, p ≠ Pl.box n) → pl a = some p → H0 a = none
theorem Bs.next (B : Bs bs H0 G0 io0 H G io pl) (R : Rel Z H G io pl S de σ) (s : Step H G io H' G' io') {de' : Env} {σ' : L2.St} (R' : Rel Z H' G' io' pl' S' de' σ') : ∃ pl2, Rel Z H' G' io' pl2 S' de σ ∧ Bs bs H0 G0 io0 H' G' io' pl2 ∧ ∀ a p, (∀ n, p ≠ Pl.box n) → (pl2 a = some p ↔ pl a = some p) := by
  obtain ⟨pl2, R2, iff⟩ := R.back s R'
  exact ⟨pl2, R2, ⟨B.st.trans s, fun b hb => (B.kp b hb).trans (.of R s), fun a p hn h => B.nw a p hn ((iff a p hn).mp h)⟩, iff⟩
def FinS (bs : List (Hp × Hp × List Addr)) (Z : Zc) (H0 G0 : Hp) (io0 : List Addr) (W : WX) (r : Res Out) (D : Ends) : Prop := match r with
  | .ok (.nx de') S' => ∀ H' G' io' pl' σ', Rel Z H' G' io' pl' S' de' σ' → Bs bs H0 G0 io0 H' G' io' pl' → D.nx σ' H'
  | .ok (.bk de') S' => ∀ H' G' io' pl' σ', Rel Z H' G' io' pl' S' de' σ' → Bs bs H0 G0 io0 H' G' io' pl' → D.bk σ' H'
  | .ok (.ct de') S' => ∀ H' G' io' pl' σ', Rel Z H' G' io' pl' S' de' σ' → Bs bs H0 G0 io0 H' G' io' pl' → D.ct σ' H'
  | .ok (.rtv d _) S' => ∀ H' G' io' pl' de' σ' v, Rel Z H' G' io' pl' S' de' σ' → Bs bs H0 G0 io0 H' G' io' pl' → Rep Z G' io' v d → D.rt v H'
  | .exc c fs S' => ∀ H' G' io' pl' de' σ' cls dd, Rel Z H' G' io' pl' S' de' σ' → Bs bs H0 G0 io0 H' G' io' pl' → ExcR Z H' G' io' cls dd c fs → W cls dd σ' H'
  | .bad => False
def tS (Z : Zc) (T : Tb) (C : Calls) (W : WX) (N : Nat) (ir : IR) : TS := fun D σ H => ∃ bs H0 G0 io0 G io pl S de, Rel Z H G io pl S de σ ∧ Bs bs H0 G0 io0 H G io pl ∧ FinS bs Z H0 G0 io0 W (st T C N de ir S) D
def tSs (Z : Zc) (T : Tb) (C : Calls) (W : WX) (N : Nat) (ir : IR) : TS := fun D σ H => ∃ bs H0 G0 io0 G io pl S de, Rel Z H G io pl S de σ ∧ Bs bs H0 G0 io0 H G io pl ∧ FinS bs Z H0 G0 io0 W (sts T C N de ir S) D
theorem _root_.L2.PS.wk {st : Stmt} {t t' : TS} (h : PS X st t) (w : ∀ D σ H, t' D σ H → t D σ H) : PS X st t' := ⟨fun pn s σ H D J q => h.run pn s σ H D J (w D σ H q)⟩
theorem _root_.L2.PSs.wk {st : List Stmt} {t t' : TS} (h : PSs X st t) (w : ∀ D σ H, t' D σ H → t D σ H) : PSs X st t' := ⟨fun pn s σ H D J q => h.run pn s σ H D J (w D σ H q)⟩
/-- an expression, a test, .. in front -/
theorem FinS.bnd {α : Type} {r : Res α} {f : α → M Out} {D : Ends} (R : Rel Z H G io pl S de σ) (B : Bs bs H0 G0 io0 H G io pl) (h : FinS bs Z H0 G0 io0 W (r.bnd f) D) : Fin Z H G io de σ W r fun a S1 => FinS bs Z H0 G0 io0 W (f a S1) D := by
  cases r with
  | ok a S1 => exact h
  | exc c fs S1 =>
    intro H' G' io' pl' cls dd s R' x
    obtain ⟨pl2, R2, B2, _⟩ := B.next R s R'
    exact h H' G' io' pl2 de σ cls dd R2 B2 x
  | bad => exact h
theorem FinS.tryL {α : Type} {o : Option α} {f : α → M Out} {D : Ends} (h : FinS bs Z H0 G0 io0 W (Y.tryL o f S) D) : ∃ a, o = some a ∧ FinS bs Z H0 G0 io0 W (f a S) D := by
  cases o with
  | none => exact h.elim
  | some a => exact ⟨a, rfl, h⟩

/-! ### values and containers of one's own -/
theorem Rel.claim (R : Rel Z H G io pl S de σ) {p : Addr} {d : D} (ow : Own Z H G io p d) (n : pl p = none) (g : G p = none) (f : isFresh d = true) (q : Pl) : Rel Z H G io (fun a => if a = p then some q else pl a) S de σ := by
  have qn : ∀ a x, pl a = some x → (if a = p then some q else pl a) = some x := fun a x h => by
    rw [if_neg fun e => by rw [e, n] at h; cases h]
    exact h
  have ht : H p ≠ none ∧ ∀ xs, H p ≠ some (.tup xs) := by
    cases ow with
    | lst h r => rw [h]; simp
    | dK h r => rw [h]; simp
    | dT _ h r => rw [h]; simp
    | ins h hx hg r => cases f
  refine ⟨R.gh, R.len, fun k e he => ?_, R.bl, fun k d' hd => ?_, fun a ha => ?_⟩
  · obtain ⟨v, hv, r⟩ := R.slots k e he
    exact ⟨v, hv, r.mono (fun _ _ h => h) (fun _ _ h => h) (fun a x _ h => qn a x h) (fun _ _ _ _ _ h => h) fun a dx h => ⟨h, fun g => g⟩⟩
  · obtain ⟨a, ha, hpa, o⟩ := R.boxes k d' hd
    exact ⟨a, ha, qn _ _ hpa, o⟩
  · by_cases e : a = p
    · subst e
      exact ⟨g, ht⟩
    · have ha : (if a = p then some q else pl a) ≠ none := ha
      rw [if_neg e] at ha
      exact R.plg a ha
theorem Own.later (ow : Own Z H G io a d) (s : Step H G io H' G' io') (f : isFresh d = true) (g : G a = none) (n : a ∉ io) : Own Z H' G' io' a d := by
  cases ow with
  | lst h r => exact .lst (s.keepO h (by simp) (by simp) g n).1 (r.step s)
  | dK h r => exact .dK (s.keepO h (by simp) (by simp) g n).1 (r.step s)
  | dT n' h r => exact .dT n' (s.keepO h (by simp) (by simp) g n).1 (r.step s)
  | ins h hx hg r => cases f
/-- a value, or a container of one's own that will stand in slot i -/
def PV (Z : Zc) (f : Bool) (i : Nat) (H G : Hp) (io : List Addr) (pl : Plc) (v : V) (d : D) : Prop := (f = false ∧ Rep Z G io v d) ∨ (f = true ∧ ∃ p, v = .ref p ∧ pl p = some (.slot i) ∧ Own Z H G io p d ∧ isFresh d = true)
theorem PV.keep {f : Bool} {i : Nat} {v : V} {d : D} (x : PV Z f i H G io pl v d) (R : Rel Z H G io pl S de σ) (s : Step H G io H' G' io') (k : ∀ a p, (∀ n, p ≠ Pl.box n) → pl a = some p → pl' a = some p) : PV Z f i H' G' io' pl' v d := by
  rcases x with ⟨e, r⟩ | ⟨e, p, ev, hp, ow, fr⟩
  · exact .inl ⟨e, r.step s⟩
  · have g := (R.plg p (by rw [hp]; exact Option.some_ne_none _)).1
    have n : p ∉ io := fun hm => by
      obtain ⟨n, hl, e⟩ := List.mem_iff_getElem.mp hm
      have h2 : io[n]? = some p := by rw [List.getElem?_eq_getElem hl, e]
      obtain ⟨b, hb, hpb, _⟩ := R.boxes n (S[n]'(by rw [← R.bl]; exact hl)) (List.getElem?_eq_getElem _)
      rw [h2] at hb
      cases hb
      rw [hp] at hpb
      cases hpb
    exact .inr ⟨e, p, ev, k _ _ (fun n => by simp) hp, ow.later s fr g n, fr⟩
theorem Rel.setPV (R : Rel Z H G io pl S de σ) {f : Bool} {i : Nat} {v : V} {d : D} (x : PV Z f i H G io pl v d) : Rel Z H G io pl S (de.set i (some (slotV f d))) (σ.set i (some v)) := by
  refine ⟨R.gh, by simp [R.len], fun k e he => ?_, R.bl, R.boxes, R.plg⟩
  by_cases q : i = k
  · subst q
    have hi : i < (de.set i (some (slotV f d))).length := (List.getElem?_eq_some_iff.mp he).1
    rw [List.length_set] at hi
    rw [List.getElem?_set_self hi] at he
    cases he
    refine ⟨v, by rw [List.getElem?_set_self (by rw [← R.len]; exact hi)], ?_⟩
    rcases x with ⟨rfl, r⟩ | ⟨rfl, p, ev, hp, ow, fr⟩
    · exact r
    · exact ⟨p, ev, hp, ow⟩
  · rw [List.getElem?_set_ne q] at he
    obtain ⟨w, hw, r'⟩ := R.slots k e he
    exact ⟨w, by rw [List.getElem?_set_ne q]; exact hw, r'⟩
def tF (Z : Zc) (T : Tb) (C : Calls) (W : WX) (f : Bool) (ir : IR) : TE := match f with
  | true => tN Z T C W ir
  | false => tE Z T C W ir
theorem tF_go {f : Bool} {i : Nat} {ir : IR} {Q : VK} (R : Rel Z H G io pl S de σ) (B : Bs bs H0 G0 io0 H G io pl) (h : Fin Z H G io de σ W (ev T C de ir S) fun d S' => ∀ H' G' io' pl' v, Step H G io H' G' io' → Rel Z H' G' io' pl' S' de σ → Bs bs H0 G0 io0 H' G' io' pl' → (∀ a p, (∀ n, p ≠ Pl.box n) → pl a = some p → pl' a = some p) → PV Z f i H' G' io' pl' v d → Q v H') : tF Z T C W f ir σ H Q := by
  cases f with
  | false =>
    refine ⟨G, io, pl, S, de, R, h.imp fun d S1 k H1 G1 io1 pl1 v s1 R1 r => ?_⟩
    obtain ⟨pl2, R2, B2, iff⟩ := B.next R s1 R1
    exact k H1 G1 io1 pl2 v s1 R2 B2 (fun a p hn h => (iff a p hn).mpr h) (.inl ⟨rfl, r⟩)
  | true =>
    refine ⟨G, io, pl, S, de, R, h.imp fun d S1 k H1 G1 io1 pl1 p s1 R1 ow n g h0 fr => ?_⟩
    obtain ⟨pl2, R2, B2, iff⟩ := B.next R s1 R1
    have np : p ∉ io1 := R1.nio n
    have hp : pl p = none := by
      cases q : pl p with
      | none => rfl
      | some u => exact absurd h0 (R.plg p (by rw [q]; exact Option.some_ne_none _)).2.1
    have R3 := R2.clean (p := p) (fun q hq => by
      cases q with
      | box n => exact ⟨n, rfl⟩
      | slot i => exact absurd ((iff p _ fun n => by simp).mp hq) (by rw [hp]; simp)
      | fld i => exact absurd ((iff p _ fun n => by simp).mp hq) (by rw [hp]; simp)) np
    have R4 := R3.claim ow (if_pos rfl) g fr (.slot i)
    refine k H1 G1 io1 _ (.ref p) s1 R4 ⟨B2.st, B2.kp, fun a q hn hq => ?_⟩ (fun a q hn hq => ?_) (.inr ⟨rfl, p, rfl, if_pos rfl, ow, fr⟩)
    · by_cases e : a = p
      · subst e
        exact B.st.none h0
      · have hq : (if a = p then some (Pl.slot i) else if a = p then none else pl2 a) = some q := hq
        rw [if_neg e, if_neg e] at hq
        exact B2.nw a q hn hq
    · have e : a ≠ p := fun e => by
        rw [e, hp] at hq
        cases hq
      show (if a = p then some (Pl.slot i) else if a = p then none else pl2 a) = some q
      rw [if_neg e, if_neg e]
      exact (iff a q hn).mpr hq

/-! ### assignments -/
/-- target = value, known -/
theorem s_asg {stm : Stmt} {e g : IR} {te : TE} {tg : TG} (h : PS X stm (tAsg te tg)) (he : ∀ σ H Q, tE Z T C W e σ H Q → te σ H Q) (hg : ∀ v σ H Q, tG Z g v σ H Q → tg v σ H Q) : PS X stm (tS Z T C W N (.set g e)) := h.wk fun D σ H q => by
  obtain ⟨bs, H0, G0, io0, G, io, pl, S, de, R, B, h⟩ := q
  refine he σ H _ ⟨G, io, pl, S, de, R, (FinS.bnd R B (show FinS bs Z H0 G0 io0 W ((ev T C de e S).bnd _) D from h)).imp fun d S1 k H1 G1 io1 pl1 v s1 R1 r => ?_⟩
  obtain ⟨d1, ha, k⟩ := k.tryL
  obtain ⟨pl2, R2, B2, _⟩ := B.next R s1 R1
  exact hg v σ H1 _ ⟨G1, io1, pl2, S1, de, d, d1, R2, r, ha, fun σ' R' _ _ => k H1 G1 io1 pl2 σ' R' B2⟩
/-- name = a new container -/
theorem s_seto {stm : Stmt} {e : IR} {i : Nat} {te : TE} (h : PS X stm (tAsg te (gName i))) (he : ∀ σ H Q, tN Z T C W e σ H Q → te σ H Q) : PS X stm (tS Z T C W N (.seto i e)) := h.wk fun D σ H q => by
  obtain ⟨bs, H0, G0, io0, G, io, pl, S, de, R, B, h⟩ := q
  have x : tF Z T C W true e σ H fun x H1 => gName i x σ H1 D.nx := tF_go (i := i) R B ((FinS.bnd R B (show FinS bs Z H0 G0 io0 W ((ev T C de e S).bnd _) D from h)).imp fun d S1 k => by
    have k : FinS bs Z H0 G0 io0 W ((if (isFresh d && decide (i < de.length)) = true then ret (.nx (de.set i (some (.own d)))) else fail : M Out) S1) D := k
    split at k
    · exact fun H1 G1 io1 pl1 v s1 R1 B1 _ x => k H1 G1 io1 pl1 _ (R1.setPV x) B1
    · exact k.elim)
  exact he σ H _ x
/-- several names at once -/
def tFs (Z : Zc) (T : Tb) (C : Calls) (W : WX) : List (Nat × Bool) → IR → TA
  | (_, f) :: ts, .cons a t => tCons (tF Z T C W f a) (tFs Z T C W ts t)
  | _, _ => tNil
inductive PVs (Z : Zc) (H G : Hp) (io : List Addr) (pl : Plc) : List (Nat × Bool) → List V → List D → Prop where
  | nil : PVs Z H G io pl [] [] []
  | cons {i : Nat} {f : Bool} {v : V} {d : D} {ts : List (Nat × Bool)} {vs : List V} {ds : List D} (h : PV Z f i H G io pl v d) (t : PVs Z H G io pl ts vs ds) : PVs Z H G io pl ((i, f) :: ts) (v :: vs) (d :: ds)
def parOk : List (Nat × Bool) → IR → Bool
  | [], .nil => true
  | _ :: ts, .cons _ t => parOk ts t
  | _, _ => false
theorem par_go : ∀ (ts : List (Nat × Bool)) (es : IR), parOk ts es = true → ∀ {H G : Hp} {io : List Addr} {pl : Plc} {S : Store} {Q : List V → Hp → Prop}, Rel Z H G io pl S de σ → Bs bs H0 G0 io0 H G io pl →
    Fin Z H G io de σ W (evl T C de es S) (fun ds S' => ∀ H' G' io' pl' vs, Step H G io H' G' io' → Rel Z H' G' io' pl' S' de σ → Bs bs H0 G0 io0 H' G' io' pl' → (∀ a p, (∀ n, p ≠ Pl.box n) → pl a = some p → pl' a = some p) → PVs Z H' G' io' pl' ts vs ds → Q vs H') → tFs Z T C W ts es σ H Q
  | [], .nil, _, H, G, io, pl, S, Q, R, B, h => h H G io pl [] .refl R B (fun _ _ _ h => h) .nil
  | (i, f) :: ts, .cons a t, ok, H, G, io, pl, S, Q, R, B, h => by
    have h := Fin.bnd (show Fin Z H G io de σ W ((ev T C de a S).bnd _) _ from h)
    refine tF_go (i := i) R B (h.imp fun d S1 k H1 G1 io1 pl1 v s1 R1 B1 kp x => ?_)
    have k := Fin.bnd (show Fin Z H G io de σ W ((evl T C de t S1).bnd _) _ from k)
    refine par_go ts t ok R1 B1 (k.at s1 fun ds S2 k2 H2 G2 io2 pl2 vs s2 R2 B2 kp2 xs => ?_)
    exact k2 H2 G2 io2 pl2 (v :: vs) (s1.trans s2) R2 B2 (fun a p hn h => kp2 a p hn (kp a p hn h)) (.cons (x.keep R1 s2 kp2) xs)
theorem s_par2 {stm : Stmt} {i j : Nat} {fi fj : Bool} {es : IR} (h : PS X stm (tPar i j (tFs Z T C W [(i, fi), (j, fj)] es))) (ok : parOk [(i, fi), (j, fj)] es = true := by rfl) : PS X stm (tS Z T C W N (.par [(i, fi), (j, fj)] es)) := h.wk fun D σ H q => by
  obtain ⟨bs, H0, G0, io0, G, io, pl, S, de, R, B, h⟩ := q
  refine par_go _ es ok R B ((FinS.bnd R B (show FinS bs Z H0 G0 io0 W ((evl T C de es S).bnd _) D from h)).imp fun ds S1 k H1 G1 io1 pl1 vs s1 R1 B1 _ xs => ?_)
  obtain ⟨d1, hp, k⟩ := k.tryL
  cases xs with
  | @cons _ _ v d _ _ _ x xs =>
    cases xs with
    | @cons _ _ w e _ _ _ y xs =>
      cases xs
      refine ⟨v, w, rfl, ?_⟩
      have hp : (if ((!fi || isFresh d) && decide (i < de.length)) = true then (if ((!fj || isFresh e) && decide (j < (de.set i (some (slotV fi d))).length)) = true then some ((de.set i (some (slotV fi d))).set j (some (slotV fj e))) else none) else none) = some d1 := hp
      split at hp <;> first | (cases hp; done) | skip
      split at hp <;> cases hp
      exact k H1 G1 io1 pl1 _ ((R1.setPV x).setPV y) B1
theorem s_par3 {stm : Stmt} {i j l : Nat} {fi fj fl : Bool} {es : IR} (h : PS X stm (tPar3 i j l (tFs Z T C W [(i, fi), (j, fj), (l, fl)] es))) (ok : parOk [(i, fi), (j, fj), (l, fl)] es = true := by rfl) : PS X stm (tS Z T C W N (.par [(i, fi), (j, fj), (l, fl)] es)) := h.wk fun D σ H q => by
  obtain ⟨bs, H0, G0, io0, G, io, pl, S, de, R, B, h⟩ := q
  refine par_go _ es ok R B ((FinS.bnd R B (show FinS bs Z H0 G0 io0 W ((evl T C de es S).bnd _) D from h)).imp fun ds S1 k H1 G1 io1 pl1 vs s1 R1 B1 _ xs => ?_)
  obtain ⟨d1, hp, k⟩ := k.tryL
  cases xs with
  | @cons _ _ v d _ _ _ x xs =>
    cases xs with
    | @cons _ _ w e _ _ _ y xs =>
      cases xs with
      | @cons _ _ u c _ _ _ z xs =>
        cases xs
        refine ⟨v, w, u, rfl, ?_⟩
        have hp : (if ((!fi || isFresh d) && decide (i < de.length)) = true then (if ((!fj || isFresh e) && decide (j < (de.set i (some (slotV fi d))).length)) = true then (if ((!fl || isFresh c) && decide (l < ((de.set i (some (slotV fi d))).set j (some (slotV fj e))).length)) = true then some (((de.set i (some (slotV fi d))).set j (some (slotV fj e))).set l (some (slotV fl c))) else none) else none) else none) = some d1 := hp
        split at hp <;> first | (cases hp; done) | skip
        split at hp <;> first | (cases hp; done) | skip
        split at hp <;> cases hp
        exact k H1 G1 io1 pl1 _ (((R1.setPV x).setPV y).setPV z) B1

/-! ### small statements -/
theorem s_xpr {stm : Stmt} {e : IR} {te : TE} (h : PS X stm (tDrop te)) (he : ∀ σ H Q, tE Z T C W e σ H Q → te σ H Q) : PS X stm (tS Z T C W N (.xpr e)) := h.wk fun D σ H q => by
  obtain ⟨bs, H0, G0, io0, G, io, pl, S, de, R, B, h⟩ := q
  refine he σ H _ ⟨G, io, pl, S, de, R, (FinS.bnd R B (show FinS bs Z H0 G0 io0 W ((ev T C de e S).bnd _) D from h)).imp fun d S1 k H1 G1 io1 pl1 v s1 R1 r => ?_⟩
  obtain ⟨pl2, R2, B2, _⟩ := B.next R s1 R1
  exact k H1 G1 io1 pl2 σ R2 B2
theorem s_rt {stm : Stmt} {e : IR} {te : TE} (h : PS X stm (tRet te)) (he : ∀ σ H Q, tE Z T C W e σ H Q → te σ H Q) : PS X stm (tS Z T C W N (.rt e)) := h.wk fun D σ H q => by
  obtain ⟨bs, H0, G0, io0, G, io, pl, S, de, R, B, h⟩ := q
  refine he σ H _ ⟨G, io, pl, S, de, R, (FinS.bnd R B (show FinS bs Z H0 G0 io0 W ((ev T C de e S).bnd _) D from h)).imp fun d S1 k H1 G1 io1 pl1 v s1 R1 r => ?_⟩
  obtain ⟨pl2, R2, B2, _⟩ := B.next R s1 R1
  exact k H1 G1 io1 pl2 de σ v R2 B2 r
theorem s_rtn {stm : Stmt} (h : PS X stm tRetN) : PS X stm (tS Z T C W N .rtn) := h.wk fun D σ H q => by
  obtain ⟨bs, H0, G0, io0, G, io, pl, S, de, R, B, h⟩ := q
  exact h H G io pl de σ .non R B .non
theorem s_pas {stm : Stmt} (h : PS X stm tNext) : PS X stm (tS Z T C W N .pas) := h.wk fun D σ H q => by
  obtain ⟨bs, H0, G0, io0, G, io, pl, S, de, R, B, h⟩ := q
  exact h H G io pl σ R B
theorem s_brk {stm : Stmt} (h : PS X stm tBreak) : PS X stm (tS Z T C W N .brk) := h.wk fun D σ H q => by
  obtain ⟨bs, H0, G0, io0, G, io, pl, S, de, R, B, h⟩ := q
  exact h H G io pl σ R B
theorem s_cnt {stm : Stmt} (h : PS X stm tCont) : PS X stm (tS Z T C W N .cnt) := h.wk fun D σ H q => by
  obtain ⟨bs, H0, G0, io0, G, io, pl, S, de, R, B, h⟩ := q
  exact h H G io pl σ R B
theorem s_never {stm : Stmt} : PS X stm (tS Z T C W N .never) := (ps_never (X := X)).wk fun D σ H q => by
  obtain ⟨bs, H0, G0, io0, G, io, pl, S, de, R, B, h⟩ := q
  exact h.elim
theorem s_cond {stm : Stmt} {c a b : IR} {tc : TT} {t u : TS} (h : PS X stm (tIfS tc t u)) (hc : ∀ σ H Q, tT Z T C W c σ H Q → tc σ H Q) (ha : ∀ D σ H, tSs Z T C W N a D σ H → t D σ H) (hb : ∀ D σ H, tSs Z T C W N b D σ H → u D σ H) : PS X stm (tS Z T C W N (.cond c a b)) := h.wk fun D σ H q => by
  obtain ⟨bs, H0, G0, io0, G, io, pl, S, de, R, B, h⟩ := q
  refine hc σ H _ ⟨G, io, pl, S, de, R, (FinS.bnd R B (show FinS bs Z H0 G0 io0 W ((evt T C de c S).bnd _) D from h)).imp fun k S1 kk H1 G1 io1 pl1 s1 R1 => ?_⟩
  obtain ⟨pl2, R2, B2, _⟩ := B.next R s1 R1
  cases k with
  | true => exact ha D σ H1 ⟨bs, H0, G0, io0, G1, io1, pl2, S1, de, R2, B2, kk⟩
  | false => exact hb D σ H1 ⟨bs, H0, G0, io0, G1, io1, pl2, S1, de, R2, B2, kk⟩

/-! ### blocks -/
theorem FinS.mono {r : Res Out} {D D' : Ends} (h : FinS bs Z H0 G0 io0 W r D) (k1 : ∀ σ H, D.nx σ H → D'.nx σ H) (k2 : ∀ σ H, D.bk σ H → D'.bk σ H) (k3 : ∀ σ H, D.ct σ H → D'.ct σ H) (k4 : ∀ v H, D.rt v H → D'.rt v H) : FinS bs Z H0 G0 io0 W r D' := by
  cases r with
  | bad => exact h
  | exc c fs S1 => exact h
  | ok o S1 =>
    cases o with
    | nx de => exact fun H' G' io' pl' σ' R' B' => k1 _ _ (h H' G' io' pl' σ' R' B')
    | bk de => exact fun H' G' io' pl' σ' R' B' => k2 _ _ (h H' G' io' pl' σ' R' B')
    | ct de => exact fun H' G' io' pl' σ' R' B' => k3 _ _ (h H' G' io' pl' σ' R' B')
    | rtv d f => exact fun H' G' io' pl' de' σ' v R' B' r => k4 _ _ (h H' G' io' pl' de' σ' v R' B' r)
theorem ss_nil : PSs X [] (tSs Z T C W N .nil) := (pss_nil (X := X)).wk fun D σ H q => by
  obtain ⟨bs, H0, G0, io0, G, io, pl, S, de, R, B, h⟩ := q
  exact h H G io pl σ R B
/-- a statement, then the rest -/
theorem seq_go {h t : IR} {r : Res Out} {D : Ends} (q : FinS bs Z H0 G0 io0 W (r.bnd fun o => match o with | .nx d1 => sts T C N d1 t | o => ret o) D) : FinS bs Z H0 G0 io0 W r { D with nx := tSs Z T C W N t D } := by
  cases r with
  | bad => exact q
  | exc c fs S1 => exact q
  | ok o S1 =>
    cases o with
    | nx de => exact fun H' G' io' pl' σ' R' B' => ⟨bs, H0, G0, io0, G', io', pl', S1, de, R', B', q⟩
    | bk de => exact q
    | ct de => exact q
    | rtv d f => exact q
theorem ss_cons {stm : Stmt} {rest : List Stmt} {h t : IR} (h1 : PS X stm (tS Z T C W N h)) (h2 : PSs X rest (tSs Z T C W N t)) : PSs X (stm :: rest) (tSs Z T C W N (.cons h t)) := (pss_cons h1 h2).wk fun D σ H q => by
  obtain ⟨bs, H0, G0, io0, G, io, pl, S, de, R, B, q⟩ := q
  exact ⟨bs, H0, G0, io0, G, io, pl, S, de, R, B, seq_go (h := h) q⟩
/-- slot i's container, of nobody -/
theorem Rel.unslot (R : Rel Z H G io pl S de σ) {i : Nat} {d : D} (hi : de[i]? = some (some (.own d))) : ∃ p, σ[i]? = some (some (.ref p)) ∧ Own Z H G io p d ∧ pl p = some (.slot i) ∧ G p = none ∧ Rel Z H G io (fun a => if a = p then none else pl a) S (de.set i none) σ := by
  obtain ⟨v, hv, p, rfl, hp, ow⟩ := R.slots i _ hi
  have g := (R.plg p (by rw [hp]; exact Option.some_ne_none _)).1
  refine ⟨p, hv, ow, hp, g, R.gh, by rw [List.length_set]; exact R.len, fun k e he => ?_, R.bl, fun n d' hd => ?_, fun a ha => ?_⟩
  · by_cases q : i = k
    · subst q
      rw [List.getElem?_set_self (List.getElem?_eq_some_iff.mp hi).1] at he
      cases he
    · rw [List.getElem?_set_ne q] at he
      obtain ⟨w, hw, r⟩ := R.slots k e he
      refine ⟨w, hw, ?_⟩
      have keep : ∀ a x, pl a = some x → x ≠ .slot i → (if a = p then none else pl a) = some x := fun a x h hx => by
        rw [if_neg fun e => hx (by rw [e, hp] at h; exact (Option.some.inj h).symm)]
        exact h
      cases e with
      | val d => exact r
      | own d =>
        obtain ⟨a, e, h, o⟩ := r
        exact ⟨a, e, keep _ _ h fun z => q (by cases z; rfl), o⟩
      | obj c ns fs =>
        obtain ⟨a, dx, fvs, e, h, h1, h2, h3, h4, h5, hf⟩ := r
        refine ⟨a, dx, fvs, e, keep _ _ h fun z => q (by cases z; rfl), h1, h2, h3, h4, h5, fun j f pp z1 z2 => ?_⟩
        rcases hf j f pp z1 z2 with ⟨z, r⟩ | ⟨z, b, e, h, o⟩
        · exact .inl ⟨z, r⟩
        · exact .inr ⟨z, b, e, keep _ _ h (by simp), o⟩
  · obtain ⟨a, ha, hpa, o⟩ := R.boxes n d' hd
    refine ⟨a, ha, ?_, o⟩
    show (if a = p then none else pl a) = _
    rw [if_neg fun e => by rw [e, hp] at hpa; cases hpa]
    exact hpa
  · have ha : (if a = p then none else pl a) ≠ none := ha
    by_cases e : a = p
    · rw [if_pos e] at ha
      exact absurd rfl ha
    · rw [if_neg e] at ha
      exact R.plg a ha
theorem Rel.rePV {i : Nat} (R : Rel Z H G io pl S (de.set i none) σ) {f : Bool} {v : V} {d : D} (hv : σ[i]? = some (some v)) (x : PV Z f i H G io pl v d) : Rel Z H G io pl S (de.set i (some (slotV f d))) σ := by
  refine ⟨R.gh, by have := R.len; rw [List.length_set] at this ⊢; exact this, fun k e he => ?_, R.bl, R.boxes, R.plg⟩
  by_cases q : i = k
  · subst q
    have hi : i < (de.set i (some (slotV f d))).length := (List.getElem?_eq_some_iff.mp he).1
    rw [List.length_set] at hi
    rw [List.getElem?_set_self hi] at he
    cases he
    refine ⟨v, hv, ?_⟩
    rcases x with ⟨rfl, r⟩ | ⟨rfl, p, ev, hp, ow, fr⟩
    · exact r
    · exact ⟨p, ev, hp, ow⟩
  · rw [List.getElem?_set_ne q] at he
    exact R.slots k e (by rw [List.getElem?_set_ne q]; exact he)
theorem Kp.write (k : Kp H1 G1 io1 H G io) {p : Addr} {o : HO} (g : G p = none) : Kp H1 G1 io1 (upd H p o) G io := ⟨k.gg, fun a o' u h1 h2 => by
  have e : a ≠ p := fun e => by
    obtain ⟨w, hw⟩ := Option.ne_none_iff_exists'.mp h1
    have := k.gg a w hw
    rw [e, g] at this
    cases this
  rw [upd_ne e]
  exact k.kf a o' u h1 h2, k.ex⟩
theorem Kp.more (k : Kp H1 G1 io1 H G io) (gg : ∀ a u, G a = some u → G' a = some u) : Kp H1 G1 io1 H G' io := ⟨fun a u h => gg a u (k.gg a u h), k.kf, k.ex⟩
/-- slot i's container is written -/
theorem Rel.setSlot (R : Rel Z H G io pl S de σ) (B : Bs bs H0 G0 io0 H G io pl) {i : Nat} {d d' : D} (hi : de[i]? = some (some (.own d))) {p : Addr} (hv : σ[i]? = some (some (.ref p))) {u o : HO} (hu : H p = some u) (hu1 : ∀ x, u ≠ .own x) (hu2 : ∀ xs, o ≠ .tup xs) (ow : Own Z (upd H p o) G io p d') (f : isFresh d' = true) :
    ∃ pl2, Rel Z (upd H p o) G io pl2 S (de.set i (some (.own d'))) σ ∧ Bs bs H0 G0 io0 (upd H p o) G io pl2 := by
  obtain ⟨p', hv', ow', hp, g, R1⟩ := R.unslot hi
  rw [hv] at hv'
  cases hv'
  have R2 := R1.write hu hu1 hu2 (if_pos rfl) g
  have R3 := R2.claim ow (if_pos rfl) g f (.slot i)
  have h0 : H0 p = none := B.nw p _ (fun n => by simp) hp
  refine ⟨_, R3.rePV (f := true) hv (.inr ⟨rfl, p, rfl, if_pos rfl, ow, f⟩), B.st.write h0 hu2, fun b hb => (B.kp b hb).write g, fun a q hn hq => ?_⟩
  by_cases e : a = p
  · rw [e]; exact h0
  · have hq : (if a = p then some (Pl.slot i) else if a = p then none else pl a) = some q := hq
    rw [if_neg e, if_neg e] at hq
    exact B.nw a q hn hq
/-- a container of one's own becomes a value -/
theorem ss_free {sts' : List Stmt} {i : Nat} {t : IR} (h2 : PSs X sts' (tSs Z T C W N t)) : PSs X sts' (tSs Z T C W N (.cons (.free i) t)) := h2.wk fun D σ H q => by
  obtain ⟨bs, H0, G0, io0, G, io, pl, S, de, R, B, q⟩ := q
  have q : FinS bs Z H0 G0 io0 W (((match de[i]? with | some (some (.own d)) => if isFresh d = true then ret (.nx (de.set i (some (.val d)))) else fail | _ => fail : M Out) S).bnd fun o => match o with | .nx d1 => sts T C N d1 t | o => ret o) D := q
  cases hd : de[i]? with
  | none => rw [hd] at q; exact q.elim
  | some o =>
    rw [hd] at q
    cases o with
    | none => exact q.elim
    | some e =>
      cases e with
      | val d => exact q.elim
      | obj c ns fs => exact q.elim
      | own d =>
        have q : FinS bs Z H0 G0 io0 W (((if isFresh d = true then ret (.nx (de.set i (some (.val d)))) else fail : M Out) S).bnd fun o => match o with | .nx d1 => sts T C N d1 t | o => ret o) D := q
        split at q
        · rename_i f
          obtain ⟨p, hv, ow, hp, g, R1⟩ := R.unslot hd
          have h0 : H0 p = none := B.nw p _ (fun n => by simp) hp
          obtain ⟨G2, R2, s2, r2, gg⟩ := ow.known R1 (H := H0) (G := G0) (io := io0) B.st (if_pos rfl) g h0 f
          refine ⟨bs, H0, G0, io0, G2, io, _, S, de.set i (some (.val d)), R2.rePV (f := false) hv (.inl ⟨rfl, r2⟩), ⟨s2, fun b hb => (B.kp b hb).more gg, fun a q hn hq => ?_⟩, q⟩
          by_cases e : a = p
          · rw [e]; exact h0
          · have hq : (if a = p then none else pl a) = some q := hq
            rw [if_neg e] at hq
            exact B.nw a q hn hq
        · exact q.elim

/-! ### writes -/
theorem own_at {o : Option (Option EV)} {α : Type} {f : D → Res Out} {D0 : Ends} (q : FinS bs Z H0 G0 io0 W (match o with | some (some (.own d)) => f d | _ => .bad) D0) : ∃ d, o = some (some (.own d)) ∧ FinS bs Z H0 G0 io0 W (f d) D0 := by
  cases o with
  | none => exact q.elim
  | some o =>
    cases o with
    | none => exact q.elim
    | some e =>
      cases e with
      | val d => exact q.elim
      | obj c ns fs => exact q.elim
      | own d => exact ⟨d, rfl, q⟩
theorem s_app {stm : Stmt} {e : IR} {i : Nat} (h : PS X stm (tDrop (tBM X.K "list" rAppend (tVar i) (tCons (tE Z T C W e) tNil)))) : PS X stm (tS Z T C W N (.app i e)) := h.wk fun D σ H q => by
  obtain ⟨bs, H0, G0, io0, G, io, pl, S, de, R, B, q⟩ := q
  have q : FinS bs Z H0 G0 io0 W ((match de[i]? with | some (some (.own (.lst xs))) => bnd (ev T C de e) fun d => if decide (xs.length < sizeLine) then ret (.nx (de.set i (some (.own (.lst (xs ++ [d])))))) else fail | _ => fail : M Out) S) D := q
  cases hd : de[i]? with
  | none => rw [hd] at q; exact q.elim
  | some o =>
    rw [hd] at q
    cases o with
    | none => exact q.elim
    | some ee =>
      cases ee with
      | val d => exact q.elim
      | obj c ns fs => exact q.elim
      | own d =>
        cases d <;> first | exact (q : False).elim | skip
        rename_i xs
        have q := FinS.bnd R B (show FinS bs Z H0 G0 io0 W ((ev T C de e S).bnd _) D from q)
        obtain ⟨v, hv, p, rfl, hp, ow⟩ := R.slots i _ hd
        cases ow with
        | lst hH r =>
          refine ⟨.ref p, hv, .inl ⟨rfl, _, SqL.of hH⟩, G, io, pl, S, de, R, q.imp fun d S1 k H1 G1 io1 pl1 w s1 R1 r1 => ?_⟩
          have k : FinS bs Z H0 G0 io0 W ((if decide (xs.length < sizeLine) = true then ret (.nx (de.set i (some (.own (.lst (xs ++ [d])))))) else fail : M Out) S1) D := k
          split at k
          · rename_i hz
            obtain ⟨pl2, R2, B2, _⟩ := B.next R s1 R1
            obtain ⟨v2, hv2, p2, e2, hp2, ow2⟩ := R2.slots i _ hd
            rw [hv] at hv2
            cases hv2
            cases e2
            cases ow2 with
            | lst hH2 r2 =>
              obtain ⟨pl3, R3, B3⟩ := R2.setSlot B2 hd hv hH2 (by simp) (by simp) (.lst upd_same (r2.append (.cons r1 .nil))) rfl
              exact ⟨p, _, w, rfl, rfl, hH2, by rw [r2.length]; exact of_decide_eq_true hz, k _ _ _ _ _ R3 B3⟩
          · exact k.elim
theorem dput_ok (gh : GH G H) {a : Addr} {ks vs : List D} {y v : V} {q x d' : D} (ow : Own Z H G io a (.dct ks vs)) (rq : Rep Z G io y q) (rv : Rep Z G io v x) (e : dput q x ks vs = some d') :
    ∃ u o, H a = some u ∧ (∀ z, u ≠ .own z) ∧ (∀ xs, o ≠ .tup xs) ∧ DPut H a y v (upd H a o) ∧ Own Z (upd H a o) G io a d' ∧ isFresh d' = true := by
  have e : (match q.ky with | some z => if (sameK z ks && decide (ks.length < sizeLine)) = true then some (if (dfind z ks vs).isSome = true then D.dct ks (dputV z x ks vs) else .dct (ks ++ [q]) (vs ++ [x])) else none | none => none) = some d' := e
  cases hk : q.ky with
  | none => rw [hk] at e; cases e
  | some z =>
    rw [hk] at e
    have e : (if (sameK z ks && decide (ks.length < sizeLine)) = true then some (if (dfind z ks vs).isSome = true then D.dct ks (dputV z x ks vs) else .dct (ks ++ [q]) (vs ++ [x])) else none) = some d' := e
    split at e <;> first | (cases e; done) | skip
    rename_i hz
    obtain ⟨hs, hl⟩ := Bool.and_eq_true_iff.mp hz
    have hl := of_decide_eq_true hl
    have e := Option.some.inj e
    generalize em : D.dct ks vs = m at ow
    cases ow with
    | lst h r => cases em
    | ins h hx hg r => cases em
    | @dK kvs _ h r =>
      cases em
      cases z with
      | one k =>
        obtain ⟨rfl, rfl⟩ := rep_key rq hk
        obtain ⟨ds', e1, r1⟩ := put_g (rd := keyD) (kyc := Ky.one) (k := k) (v := v) ky_keyD one_inj r rv
        rw [e1] at e
        subst e
        rw [List.length_map] at hl
        exact ⟨_, _, h, by simp, by simp, DPut.k h hl, .dK upd_same r1, rfl⟩
      | tup k =>
        exfalso
        have hs : (!(kvs.map fun p => keyD p.1).isEmpty && (kvs.map fun p => keyD p.1).all isKT) = true := hs
        cases kvs with
        | nil => cases hs
        | cons p kvs =>
          rw [List.map_cons, List.all_cons, isKT_K] at hs
          cases hs
    | @dT kvs _ hne h r =>
      cases em
      cases z with
      | tup k =>
        obtain ⟨b, rfl, hb, rfl⟩ := rep_keyT rq hk
        obtain ⟨ds', e1, r1⟩ := put_g (rd := fun l : List Key => D.tup (l.map keyD)) (kyc := Ky.tup) (k := k) (v := v) ky_tup tup_inj r rv
        rw [e1] at e
        subst e
        rw [List.length_map] at hl
        refine ⟨_, _, h, by simp, by simp, DPut.t h ((gh _ _ hb).same rfl) hl, .dT ?_ upd_same r1, rfl⟩
        unfold putK
        cases kvs with
        | nil => exact absurd rfl hne
        | cons p kvs =>
          split <;> simp
      | one k =>
        exfalso
        have hs : (kvs.map fun p => D.tup (p.1.map keyD)).all isK1 = true := hs
        cases kvs with
        | nil => exact hne rfl
        | cons p kvs => cases hs
theorem s_bset {stm : Stmt} {a k v : IR} (h : PS X stm (sDPut (tE Z T C W a) (tE Z T C W k) (tE Z T C W v))) : PS X stm (tS Z T C W N (.bset a k v)) := h.wk fun D σ H q => by
  obtain ⟨bs, H0, G0, io0, G, io, pl, S, de, R, B, q⟩ := q
  refine ⟨G, io, pl, S, de, R, (FinS.bnd R B (show FinS bs Z H0 G0 io0 W ((ev T C de v S).bnd _) D from q)).imp fun y S1 k1 H1 G1 io1 pl1 vy s1 R1 r1 => ?_⟩
  obtain ⟨pl1', R1', B1, _⟩ := B.next R s1 R1
  refine ⟨G1, io1, pl1', S1, de, R1', (FinS.bnd R1' B1 (show FinS bs Z H0 G0 io0 W ((ev T C de a S1).bnd _) D from k1)).imp fun x S2 k2 H2 G2 io2 pl2 vx s2 R2 r2 => ?_⟩
  obtain ⟨pl2', R2', B2, _⟩ := B1.next R1' s2 R2
  refine ⟨G2, io2, pl2', S2, de, R2', (FinS.bnd R2' B2 (show FinS bs Z H0 G0 io0 W ((ev T C de k S2).bnd _) D from k2)).imp fun q S3 k3 H3 G3 io3 pl3 vq s3 R3 r3 => ?_⟩
  obtain ⟨pl3', R3', B3, _⟩ := B2.next R2' s3 R3
  cases r2 <;> first | exact (k3 : False).elim | skip
  rename_i p n hp
  have k3 : FinS bs Z H0 G0 io0 W (match S3[n]? with | some (.dct ks vs) => tryL (dput q y ks vs) (fun d => fun S => .ok (.nx de) (S.set n d)) S3 | _ => .bad) D := k3
  have hp3 := ext_get s3 hp
  cases hS : S3[n]? with
  | none => rw [hS] at k3; exact k3.elim
  | some d =>
    rw [hS] at k3
    cases d <;> first | exact (k3 : False).elim | skip
    rename_i ks vs
    obtain ⟨d', e, k3⟩ := FinS.tryL k3
    obtain ⟨p', hp', hpl, ow⟩ := R3'.boxes n _ hS
    rw [hp3] at hp'
    cases hp'
    obtain ⟨u, o, hu, hu1, hu2, dp, ow', fr⟩ := dput_ok R3'.gh ow r3 (r1.step (s2.trans s3)) e
    obtain ⟨R4, s4⟩ := R3'.setBox hS hp3 hpl hu hu1 hu2 ow'
    obtain ⟨pl5, R5, B5, _⟩ := B3.next R3' s4 R4.bare
    exact ⟨p, _, rfl, dp, k3 _ _ _ _ _ R4 ⟨B5.st, B5.kp, B3.nw⟩⟩
theorem s_oset {stm : Stmt} {i : Nat} {k v : IR} (h : PS X stm (sDPut (tVar i) (tE Z T C W k) (tE Z T C W v))) : PS X stm (tS Z T C W N (.oset i k v)) := h.wk fun D σ H q => by
  obtain ⟨bs, H0, G0, io0, G, io, pl, S, de, R, B, q⟩ := q
  have q : FinS bs Z H0 G0 io0 W ((match de[i]? with | some (some (.own (.dct ks vs))) => bnd (ev T C de v) fun y => bnd (ev T C de k) fun q => tryL (dput q y ks vs) fun d => ret (.nx (de.set i (some (.own d)))) | _ => fail : M Out) S) D := q
  cases hd : de[i]? with
  | none => rw [hd] at q; exact q.elim
  | some o =>
    rw [hd] at q
    cases o with
    | none => exact q.elim
    | some ee =>
      cases ee with
      | val d => exact q.elim
      | obj c ns fs => exact q.elim
      | own d =>
        cases d <;> first | exact (q : False).elim | skip
        rename_i ks vs
        refine ⟨G, io, pl, S, de, R, (FinS.bnd R B (show FinS bs Z H0 G0 io0 W ((ev T C de v S).bnd _) D from q)).imp fun y S1 k1 H1 G1 io1 pl1 vy s1 R1 r1 => ?_⟩
        obtain ⟨pl1', R1', B1, _⟩ := B.next R s1 R1
        obtain ⟨vv, hv, p, rfl, _, _⟩ := R1'.slots i _ hd
        refine ⟨_, hv, G1, io1, pl1', S1, de, R1', (FinS.bnd R1' B1 (show FinS bs Z H0 G0 io0 W ((ev T C de k S1).bnd _) D from k1)).imp fun q S2 k2 H2 G2 io2 pl2 vq s2 R2 r2 => ?_⟩
        obtain ⟨pl2', R2', B2, _⟩ := B1.next R1' s2 R2
        obtain ⟨d', e, k2⟩ := FinS.tryL k2
        obtain ⟨vv, hv2, p2, e2, _, ow⟩ := R2'.slots i _ hd
        rw [hv] at hv2
        cases hv2
        cases e2
        obtain ⟨u, o, hu, hu1, hu2, dp, ow', fr⟩ := dput_ok R2'.gh ow r2 (r1.step s2) e
        obtain ⟨pl3, R3, B3⟩ := R2'.setSlot B2 hd hv hu hu1 hu2 ow' fr
        exact ⟨p, _, rfl, dp, k2 _ _ _ _ _ R3 B3⟩

/-! ### loops -/
theorem s_forl {stm : Stmt} {g it b : IR} {wi : TI} {gg : TG} {tb : TS} (h : PS X stm (tFor wi gg tb)) (hwi : ∀ σ H R, tI Z T C W it σ H R → wi σ H R) (hg : ∀ v σ H Q, tG Z g v σ H Q → gg v σ H Q) (hb : ∀ D σ H, tSs Z T C W N b D σ H → tb D σ H) : PS X stm (tS Z T C W N (.forl g it b)) := h.wk fun D σ H q => by
  obtain ⟨bs, H0, G0, io0, G, io, pl, S, de, R, B, q⟩ := q
  refine hwi σ H _ ⟨G, io, pl, S, de, R, (FinS.bnd R B (show FinS bs Z H0 G0 io0 W ((evi T C de it S).bnd _) D from q)).imp fun items S1 k H1 G1 io1 pl1 J s1 R1 wk => ?_⟩
  obtain ⟨pl1', R1', B1, _⟩ := B.next R s1 R1
  refine ⟨fun i m σ2 H2 => m = items.length - i ∧ i ≤ items.length ∧ ∃ G2 io2 pl2 S2 de2, Rel Z H2 G2 io2 pl2 S2 de2 σ2 ∧ Bs ((H1, G1, io1) :: bs) H0 G0 io0 H2 G2 io2 pl2 ∧
    FinS bs Z H0 G0 io0 W (loop (items.drop i) de2 g (fun d1 => sts T C N d1 b) S2) D, ⟨items.length, by simp, Nat.zero_le _, G1, io1, pl1', S1, de, R1', ⟨B1.st, fun b hb => ?_, B1.nw⟩, by rw [List.drop_zero]; exact k⟩, ?_⟩
  · rcases List.mem_cons.mp hb with e | hb
    · rw [e]
      exact .refl
    · exact B1.kp b hb
  rintro i m σ2 H2 ⟨rfl, hi, G2, io2, pl2, S2, de2, R2, B2, k2⟩
  have kp := B2.kp (H1, G1, io1) List.mem_cons_self
  by_cases hlt : i < items.length
  · refine .inr ⟨wk.go i H2 G2 io2 kp R2.gh hlt, fun σ3 H3 => ∃ G2 io2 pl2 S2 de2, Rel Z H3 G2 io2 pl2 S2 de2 σ3 ∧ Bs ((H1, G1, io1) :: bs) H0 G0 io0 H3 G2 io2 pl2 ∧
      FinS bs Z H0 G0 io0 W (loop (items.drop (i + 1)) de2 g (fun d1 => sts T C N d1 b) S2) D, fun σ3 H3 hx => ⟨_, by omega, rfl, hlt, hx⟩, fun x H3 y => ?_⟩
    obtain ⟨d, hd⟩ : ∃ d, items[i]? = some d := ⟨_, List.getElem?_eq_getElem hlt⟩
    obtain ⟨G3, R3, s3, r3⟩ := (wk.yld i H2 G2 io2 x H3 d kp R2.gh hd y).rel R2
    have eq : items.drop i = d :: items.drop (i + 1) := by
      rw [List.drop_eq_getElem_cons hlt]
      congr 1
      exact Option.some.inj ((List.getElem?_eq_getElem hlt).symm.trans hd)
    rw [eq] at k2
    obtain ⟨d1, ha, k2⟩ := FinS.tryL (show FinS bs Z H0 G0 io0 W (tryL (asg g d de2) _ S2) D from k2)
    obtain ⟨pl3, R3', B3, _⟩ := B2.next R2 s3 R3
    refine hg x σ2 H3 _ ⟨G3, io2, pl3, S2, de2, d, d1, R3', r3, ha, fun σ' R' _ _ => hb _ σ' H3 ⟨(H1, G1, io1) :: bs, H0, G0, io0, G3, io2, pl3, S2, d1, R', B3, ?_⟩⟩
    have k3 : FinS bs Z H0 G0 io0 W ((sts T C N d1 b S2).bnd fun o => match o with
      | .nx d2 => loop (items.drop (i + 1)) d2 g (fun d1 => sts T C N d1 b)
      | .ct d2 => loop (items.drop (i + 1)) d2 g (fun d1 => sts T C N d1 b)
      | .bk d2 => ret (.nx d2)
      | .rtv d f => ret (.rtv d f)) D := k2
    have tail : ∀ {H G : Hp} {io : List Addr} {pl : Plc}, Bs ((H1, G1, io1) :: bs) H0 G0 io0 H G io pl → Bs bs H0 G0 io0 H G io pl := fun B => ⟨B.st, fun b hb => B.kp b (List.mem_cons_of_mem _ hb), B.nw⟩
    generalize sts T C N d1 b S2 = r at k3
    cases r with
    | bad => exact k3.elim
    | exc c fs S4 => exact fun H' G' io' pl' de' σ' cls dd R' B' x => k3 H' G' io' pl' de' σ' cls dd R' (tail B') x
    | ok o S4 =>
      cases o with
      | nx d2 => exact fun H' G' io' pl' σ' R' B' => ⟨G', io', pl', S4, d2, R', B', k3⟩
      | ct d2 => exact fun H' G' io' pl' σ' R' B' => ⟨G', io', pl', S4, d2, R', B', k3⟩
      | bk d2 => exact fun H' G' io' pl' σ' R' B' => k3 H' G' io' pl' σ' R' (tail B')
      | rtv d f => exact fun H' G' io' pl' de' σ' v R' B' rv => k3 H' G' io' pl' de' σ' v R' (tail B') rv
  · have e : i = items.length := by omega
    subst e
    rw [List.drop_length] at k2
    exact .inl ⟨wk.stop H2 G2 io2 kp R2.gh, k2 H2 G2 io2 pl2 σ2 R2 ⟨B2.st, fun b hb => B2.kp b (List.mem_cons_of_mem _ hb), B2.nw⟩⟩
theorem s_whl {stm : Stmt} {c b : IR} {tc : TT} {tb : TS} (h : PS X stm (tWhile tc tb)) (hc : ∀ σ H Q, tT Z T C W c σ H Q → tc σ H Q) (hb : ∀ D σ H, tSs Z T C W N b D σ H → tb D σ H) : PS X stm (tS Z T C W N (.whl c b)) := h.wk fun D σ H q => by
  obtain ⟨bs, H0, G0, io0, G, io, pl, S, de, R, B, q⟩ := q
  refine ⟨fun m σ2 H2 => ∃ G2 io2 pl2 S2 de2, Rel Z H2 G2 io2 pl2 S2 de2 σ2 ∧ Bs bs H0 G0 io0 H2 G2 io2 pl2 ∧ FinS bs Z H0 G0 io0 W (wloop m (fun d1 => evt T C d1 c) (fun d1 => sts T C N d1 b) de2 S2) D, ⟨N, G, io, pl, S, de, R, B, q⟩, ?_⟩
  rintro m σ2 H2 ⟨G2, io2, pl2, S2, de2, R2, B2, k2⟩
  cases m with
  | zero => exact k2.elim
  | succ m =>
    refine hc σ2 H2 _ ⟨G2, io2, pl2, S2, de2, R2, (FinS.bnd R2 B2 (show FinS bs Z H0 G0 io0 W ((evt T C de2 c S2).bnd _) D from k2)).imp fun k S3 k3 H3 G3 io3 pl3 s3 R3 => ?_⟩
    obtain ⟨pl3', R3', B3, _⟩ := B2.next R2 s3 R3
    cases k with
    | false => exact k3 H3 G3 io3 pl3' σ2 R3' B3
    | true =>
      rw [if_pos rfl]
      refine ⟨fun σ2 H2 => ∃ G2 io2 pl2 S2 de2, Rel Z H2 G2 io2 pl2 S2 de2 σ2 ∧ Bs bs H0 G0 io0 H2 G2 io2 pl2 ∧ FinS bs Z H0 G0 io0 W (wloop m (fun d1 => evt T C d1 c) (fun d1 => sts T C N d1 b) de2 S2) D, fun σ' H' hx => ⟨m, Nat.lt_succ_self m, hx⟩, hb _ σ2 H3 ⟨bs, H0, G0, io0, G3, io3, pl3', S3, de2, R3', B3, ?_⟩⟩
      have k3 : FinS bs Z H0 G0 io0 W ((sts T C N de2 b S3).bnd fun o => match o with
        | .nx d2 => wloop m (fun d1 => evt T C d1 c) (fun d1 => sts T C N d1 b) d2
        | .ct d2 => wloop m (fun d1 => evt T C d1 c) (fun d1 => sts T C N d1 b) d2
        | .bk d2 => ret (.nx d2)
        | .rtv d f => ret (.rtv d f)) D := k3
      generalize sts T C N de2 b S3 = r at k3
      cases r with
      | bad => exact k3.elim
      | exc c fs S4 => exact k3
      | ok o S4 =>
        cases o with
        | nx d2 => exact fun H' G' io' pl' σ' R' B' => ⟨G', io', pl', S4, d2, R', B', k3⟩
        | ct d2 => exact fun H' G' io' pl' σ' R' B' => ⟨G', io', pl', S4, d2, R', B', k3⟩
        | bk d2 => exact k3
        | rtv d f => exact k3

/-! ### a def's body -/
theorem Rel.boxOnly (R : Rel Z H G io pl S [] []) : Rel Z H G io (fun a => match pl a with | some (.box n) => some (.box n) | _ => none) S [] [] := by
  refine ⟨R.gh, rfl, fun i e h => by simp at h, R.bl, fun n d hd => ?_, fun a ha => ?_⟩
  · obtain ⟨a, h1, h2, h3⟩ := R.boxes n d hd
    exact ⟨a, h1, by show (match pl a with | some (.box n) => some (Pl.box n) | _ => none) = _; rw [h2], h3⟩
  · refine R.plg a fun e => ha ?_
    show (match pl a with | some (.box n) => some (Pl.box n) | _ => none) = none
    rw [e]
theorem start_rel {vs : List V} {ds : List D} {Nn : List Str} (R : Rel Z H G io pl S [] []) (r : Reps Z G io vs ds) : Rel Z H G io pl S (ds.map (fun d => some (.val d)) ++ List.replicate (Nn.length - ds.length) none) (start Nn vs) := by
  have hl := r.length
  refine ⟨R.gh, by unfold L2.start; simp [hl], fun k e he => ?_, R.bl, R.boxes, R.plg⟩
  by_cases c : k < ds.length
  · rw [List.getElem?_append_left (by rw [List.length_map]; exact c), List.getElem?_map] at he
    obtain ⟨d, hd, ee⟩ := Option.map_eq_some_iff.mp he
    cases ee
    obtain ⟨v, hv, rv⟩ := r.get hd
    refine ⟨v, ?_, rv⟩
    unfold L2.start
    rw [List.getElem?_append_left (by rw [List.length_map]; omega), List.getElem?_map, hv]
    rfl
  · rw [List.getElem?_append_right (by rw [List.length_map]; omega), List.getElem?_replicate] at he
    split at he <;> cases he
/-- the body's run at the parameters -/
theorem body_go {f n : Nat} {fe : Fe} {body : List Stmt} {Nn : List Str} {vs : List V} {Q : VK} {E : XK} {C' : Calls} (hE : ∀ cls d σ H, E cls d H → W cls d σ H) (hE2 : ∀ cls d σ H, W cls d σ H → E cls d H) (hC : ∀ ds, C' f ds = run1 T N C fe ds) (hs : fe.slots = Nn.length) (ha : fe.arity = n) (q : spD Z C' f n vs H Q E) : tSs Z T C W N fe.body { nx := fun _ H' => Q .non H', rt := Q } (start Nn vs) H := by
  obtain ⟨hl, G, io, pl, S, ds, R, r, h⟩ := q
  rw [hC] at h
  have h : Fin Z H G io [] [] (fun cls dd _ H' => E cls dd H') ((if ds.length = fe.arity then
    bnd (sts T C N (ds.map (fun d => some (.val d)) ++ List.replicate (fe.slots - ds.length) none) fe.body) fun o => match o with
      | .nx _ => ret (.non, false)
      | .rtv d f => ret (d, f)
      | _ => fail
    else fail : M (D × Bool)) S) _ := h
  split at h
  · refine ⟨[], H, G, io, G, io, _, S, _, start_rel R.boxOnly r, ⟨.refl, fun b hb => by simp at hb, fun a p hn hp => ?_⟩, ?_⟩
    · exfalso
      have hp : (match pl a with | some (.box n) => some (Pl.box n) | _ => none) = some p := hp
      split at hp
      · cases hp
        exact hn _ rfl
      · cases hp
    · rw [← hs]
      have h : Fin Z H G io [] [] (fun cls dd _ H' => E cls dd H') ((sts T C N (ds.map (fun d => some (.val d)) ++ List.replicate (fe.slots - ds.length) none) fe.body S).bnd fun o => match o with
        | .nx _ => ret (.non, false)
        | .rtv d f => ret (d, f)
        | _ => fail) _ := h
      generalize sts T C N (ds.map (fun d => some (.val d)) ++ List.replicate (fe.slots - ds.length) none) fe.body S = rr at h
      cases rr with
      | bad => exact h.elim
      | exc c fs S1 => exact fun H' G' io' pl' de' σ' cls dd R' B' x => hE _ _ _ _ (h H' G' io' pl' cls dd B'.st R'.bare x)
      | ok o S1 =>
        cases o with
        | nx d2 => exact fun H' G' io' pl' σ' R' B' => h H' G' io' pl' .non B'.st R'.bare .non
        | ct d2 => exact h.elim
        | bk d2 => exact h.elim
        | rtv d f => exact fun H' G' io' pl' de' σ' v R' B' rv => h H' G' io' pl' v B'.st R'.bare rv
  · exact h.elim
end
end Y
/-! Y13: contexts, the rules in the form the printed proofs use. -/
namespace Y
open PySem L2

/-- what is fixed for a law -/
structure Wd where
  Z : Zc
  P : Program
  w : World
  mg : Str → Option Value
  base : Heap
  names : List Str
  pars : List (List Str)
  frees : List Str
  fad : Nat → Addr
  fdd : Nat → FuncData
structure WdOk (A : Wd) : Prop where
  gl : ∀ (i : Nat) (x : Str), A.names[i]? = some x → A.mg x = some (.ref (A.fad i)) ∧ PySem.W.keepIn A.Z.K (.ref (A.fad i)) = true
  fr : ∀ (i : Nat) (x : Str), A.frees[i]? = some x → A.mg x = none
  bn : ∀ (i : Nat) (ps : List Str), A.pars[i]? = some ps → Binds A.Z.K (A.fdd i) ps []
def WE (E : XK) : WX := fun cls d _ H => E cls d H
def lvl (A : Wd) (T : Tb) (N k : Nat) : Prop := ∀ (i : Nat) (ps : List Str), A.pars[i]? = some ps → FnOk A.P A.w A.Z.K A.mg A.base CX0 k (A.fad i) (A.fdd i) ps (spD A.Z (callF T N k) i ps.length)
/-- a def's or a block's context -/
structure Cxo (A : Wd) (k : Nat) (Nn : List Str) (sc : Scope) (fc : Str → Bool) (X : Cx) : Prop where
  cN : X.N = Nn
  nd : Nn.Nodup
  csc : X.env.scope = sc
  ckind : sc.kind = .function
  cK : X.K = A.Z.K
  cP : X.prog = A.P
  cw : X.w = A.w
  cmg : X.mg = A.mg
  cbase : X.base = A.base
  calm : X.calm = true
  cfn : ∀ x, fc x = true → X.fn x = true
  room : Room k X.A
  own : PassesOwn (model X.prog X.w) X.A X.env X.xe
def lkB (k : NameKind) (sc : Scope) (x : Str) : Bool := decide (sc.names.lookup x = some k)
def visB (Nn : List Str) (sc : Scope) (i : Nat) (x : Str) : Bool := decide (Nn[i]? = some x) && (lkB .local sc x || lkB .cell sc x || lkB .free sc x) && (!(x == ("__debug__" : Str))) && (!(x == ("__classdict__" : Str)))
def locB (Nn : List Str) (sc : Scope) (fc : Str → Bool) (i : Nat) (x : Str) : Bool := decide (Nn[i]? = some x) && (lkB .local sc x || (lkB .cell sc x && fc x))
def gloB (sc : Scope) (l : List Str) (i : Nat) (x : Str) : Bool := lkB .globalImplicit sc x && decide (l[i]? = some x) && (!(x == ("__debug__" : Str))) && (!(x == ("__name__" : Str)))

section
variable {A : Wd} {T : Tb} {N k : Nat} {Nn : List Str} {sc : Scope} {fc : Str → Bool} {X : Cx} {E : XK} {W : WX} {C : Calls}
theorem lkB_ok {k : NameKind} {x : Str} (h : lkB k sc x = true) : sc.names.lookup x = some k := of_decide_eq_true h
theorem Cxo.var (c : Cxo A k Nn sc fc X) {i : Nat} {x : Str} {pos : Pos} (h : visB Nn sc i x = true) : PE X (.Name x pos) (tVar i) := by
  unfold visB at h
  simp only [Bool.and_eq_true, Bool.or_eq_true, Bool.not_eq_true', decide_eq_true_eq] at h
  obtain ⟨⟨⟨h1, h2⟩, h3⟩, h4⟩ := h
  refine pe_var (by rw [c.cN]; exact h1) ?_ h3 h4
  rw [c.csc]
  rcases h2 with (h2 | h2) | h2
  · exact .inl (lkB_ok h2)
  · exact .inr (.inl (lkB_ok h2))
  · exact .inr (.inr (lkB_ok h2))
theorem Cxo.loc (c : Cxo A k Nn sc fc X) {i : Nat} {x : Str} (h : locB Nn sc fc i x = true) : X.N[i]? = some x ∧ Loc X.env.scope x ∧ (X.fn x = true ∨ X.env.scope.names.lookup x = some .local) := by
  unfold locB at h
  simp only [Bool.and_eq_true, Bool.or_eq_true, decide_eq_true_eq] at h
  obtain ⟨h1, h2⟩ := h
  refine ⟨by rw [c.cN]; exact h1, ?_, ?_⟩
  · rw [c.csc]
    rcases h2 with h2 | h2
    · exact .inl (lkB_ok h2)
    · exact .inr (lkB_ok h2.1)
  · rw [c.csc]
    rcases h2 with h2 | h2
    · exact .inr (lkB_ok h2)
    · exact .inl (c.cfn x h2.2)
theorem Cxo.ndx (c : Cxo A k Nn sc fc X) : X.N.Nodup := by rw [c.cN]; exact c.nd
theorem Cxo.gn (c : Cxo A k Nn sc fc X) {i : Nat} {x : Str} {pos : Pos} (h : locB Nn sc fc i x = true) : PG X (.Name x pos) (gName i) := pg_name c.ndx (c.loc h).1 (c.loc h).2.1 (c.loc h).2.2
theorem Cxo.u80 (c : Cxo A k Nn sc fc X) : X.A.units + 80 < cLine := by have := c.room.un; omega
theorem Cxo.u65 (c : Cxo A k Nn sc fc X) : X.A.units + 65 < cLine := by have := c.room.un; omega
theorem Cxo.u64 (c : Cxo A k Nn sc fc X) : X.A.units + 64 < cLine := by have := c.room.un; omega
theorem Cxo.u1 (c : Cxo A k Nn sc fc X) : X.A.units + 1 < cLine := by have := c.room.un; omega
theorem Cxo.gl (c : Cxo A k Nn sc fc X) {x : Str} (h : lkB .globalImplicit sc x = true) : Gl X x := by
  show X.env.scope.names.lookup x = _
  rw [c.csc]
  exact lkB_ok h
structure GloR (X : Cx) (x : Str) : Prop where
  gl : Gl X x
  db : (x == ("__debug__" : Str)) = false
  nm : x ≠ "__name__"
theorem Cxo.glo (c : Cxo A k Nn sc fc X) {l : List Str} {i : Nat} {x : Str} (h : gloB sc l i x = true) : GloR X x ∧ l[i]? = some x := by
  unfold gloB at h
  simp only [Bool.and_eq_true, Bool.not_eq_true', decide_eq_true_eq] at h
  obtain ⟨⟨⟨h1, h2⟩, h3⟩, h4⟩ := h
  exact ⟨⟨c.gl h1, h3, fun e => by rw [e] at h4; simp at h4⟩, h2⟩

/-- the block of a comprehension -/
theorem Cxo.blk (c : Cxo A k Nn sc fc X) {scope : Scope} (hk : scope.kind = .function) (s : Shared) (H : Hp) (Ca : Addr) (cl : List (Str × Addr)) (fp : List Addr) : Cxo A k Nn (relS scope sc) (fun x => scope.names.lookup x == some .cell) (X.blk s H scope (compEnvC scope cl Ca X.env) fp) := by
  refine ⟨c.cN, c.nd, ?_, hk, c.cK, c.cP, c.cw, c.cmg, c.cbase, c.calm, fun x h => h, c.room, ?_⟩
  · show (compEnvC scope cl Ca X.env).scope = relS scope sc
    rw [← c.csc]
    rfl
  · exact PassesOwn.never

theorem pass00 {E : XK} : Passes CX0 X E := fun _ _ _ _ _ _ _ h => h.elim
/-! ### calls of defs -/
theorem callF_len (T : Tb) (N : Nat) {i n : Nat} (h : ∀ fe, T.fns[i]? = some fe → fe.arity = n) : ∀ (k : Nat) {ds : List D} {S : Store}, ds.length ≠ n → callF T N k i ds S = .bad
  | 0, _, _, _ => rfl
  | k + 1, ds, S, hl => by
    show (match T.fns[i]? with | some fe => run1 T N (callF T N k) fe ds | none => fail : M (D × Bool)) S = .bad
    cases q : T.fns[i]? with
    | none => rfl
    | some fe =>
      show run1 T N (callF T N k) fe ds S = .bad
      unfold run1
      rw [if_neg (by rw [h fe q]; exact hl)]
def arB (T : Tb) (i n : Nat) : Bool := match T.fns[i]? with
  | some fe => decide (fe.arity = n)
  | none => true
theorem arB_ok {i n : Nat} (h : arB T i n = true) : ∀ fe, T.fns[i]? = some fe → fe.arity = n := fun fe e => by
  unfold arB at h
  rw [e] at h
  exact of_decide_eq_true h
theorem FnOk.at {P P' : Program} {w w' : World} {K K' : PySem.W.Frag} {mg mg' : Str → Option Value} {base base' : Heap} {f : Addr} {fd : FuncData} {ps : List Str} {sp : Sp} (h : FnOk P w K mg base CX0 k f fd ps sp) (e1 : P' = P) (e2 : w' = w) (e3 : K' = K) (e4 : mg' = mg) (e5 : base' = base) : FnOk P' w' K' mg' base' CX0 k f fd ps sp := by
  subst e1 e2 e3 e4 e5
  exact h
theorem Cxo.call (c : Cxo A k Nn sc fc X) (ok : WdOk A) (L : lvl A T N k) {i : Nat} {x : Str} {ps : List Str} {a : IR} {e : Expr} {es : List Expr} {p pos : Pos} (h : gloB sc A.names i x = true) (hp : A.pars[i]? = some ps) (har : arB T i ps.length = true) (ha : PA X (e :: es) (tL A.Z T (callF T N k) (WE E) a))
    (he : starEach (e :: es) X.env = (false, eval e X.env) :: starEach es X.env := by rfl) (hpl : (backTo pos (starEach es X.env)).any (·.1) = false := by rfl) : PE X (.Call (.Name x p) (e :: es) [] pos) (tE A.Z T (callF T N k) (WE E) (.call i a)) := by
  obtain ⟨g, hn⟩ := c.glo h
  have F := FnOk.at (L i ps hp) c.cP c.cw c.cK c.cmg c.cbase
  refine (pe_call (E := E) F c.room g.gl (by rw [c.cmg]; exact (ok.gl i x hn).1) (by rw [c.cK]; exact (ok.gl i x hn).2) (by rw [c.cK]; exact ok.bn i ps hp) .nil pass00 ha g.db he hpl).wk fun σ H Q q => ?_
  exact tE_call (fun _ _ _ _ z => z) (fun e => by
    refine Decidable.byContradiction fun z => ?_
    rw [callF_len T N (arB_ok har) k z] at e
    cases e) (fun z => callF_len T N (arB_ok har) k z) q

/-! ### keywords -/
def permL {α : Type} (perm : List Nat) (us ws : List α) : List α := perm.filterMap fun i => (us ++ ws)[i]?
theorem vals_get {vs : List V} {us : List Value} (r : Vals vs us) (i : Nat) : (vs[i]? = none ∧ us[i]? = none) ∨ ∃ v u, vs[i]? = some v ∧ us[i]? = some u ∧ RelV v u := by
  cases h : vs[i]? with
  | none =>
    have := List.getElem?_eq_none_iff.mp h
    exact .inl ⟨rfl, List.getElem?_eq_none_iff.mpr (by rw [← r.length]; exact this)⟩
  | some v =>
    obtain ⟨u, hu, rv⟩ := r.get h
    exact .inr ⟨v, u, rfl, hu, rv⟩
theorem permL_vals {vs zs : List V} {us ws : List Value} (r1 : Vals vs us) (r2 : Vals zs ws) : ∀ perm : List Nat, Vals (permL perm vs zs) (permL perm us ws)
  | [] => .nil
  | i :: perm => by
    have ih := permL_vals r1 r2 perm
    unfold permL at ih ⊢
    rw [List.filterMap_cons, List.filterMap_cons]
    rcases vals_get (r1.append r2) i with ⟨h1, h2⟩ | ⟨v, u, h1, h2, rv⟩
    · rw [h1, h2]; exact ih
    · rw [h1, h2]; exact .cons rv ih
theorem permL_reps {Z : Zc} {G : Hp} {io : List Addr} {vs zs : List V} {ds es : List D} (r1 : Reps Z G io vs ds) (r2 : Reps Z G io zs es) : ∀ {perm : List Nat} {as : List D}, perm.mapM (fun i => (ds ++ es)[i]?) = some as → Reps Z G io (permL perm vs zs) as
  | [], as, h => by
    cases h
    exact .nil
  | i :: perm, as, h => by
    rw [List.mapM_cons] at h
    cases hd : (ds ++ es)[i]? with
    | none => rw [hd] at h; cases h
    | some d =>
      rw [hd] at h
      cases hr : perm.mapM (fun i => (ds ++ es)[i]?) with
      | none => rw [hr] at h; cases h
      | some l =>
        rw [hr] at h
        cases h
        obtain ⟨v, hv, rv⟩ := (r1.append r2).get hd
        unfold permL
        rw [List.filterMap_cons, hv]
        exact .cons rv (permL_reps r1 r2 hr)
theorem kbN {K : PySem.W.Frag} {x qual : Str} {params : Arguments} {body : List Stmt} {scope : Scope} {kws : List (Str × V)} {f : Addr} {fd : FuncData} {ps ks : List Str} (F : FunD K x qual params body scope [] kws f fd) (n : Nat) (perm : List Nat)
    (h : ∀ (kV doc pm : Value) (an : Option Addr) (cdv ct : Value) (us ws : List Value), us.length = n → ws.length = ks.length → bindArgs (PySem.W.fnOf x qual params body scope .none kV doc pm an cdv ct) ⟨us, ks.zip ws⟩ = pure (ps.zip (permL perm us ws))) : KBn K fd ps n ks (permL perm) (permL perm) := by
  obtain ⟨oc, od, dV, kV, doc, pm, an, cdv, ct, osl, rfl, lk, hcd, hD, hK⟩ := F.ex
  rcases hD with ⟨_, rfl⟩ | ⟨e, _⟩
  · exact ⟨fun s us ws _ l1 l2 => .of_eq (h kV doc pm an cdv ct us ws l1 l2), fun r1 r2 => permL_vals r1 r2 perm⟩
  · exact absurd rfl e
def lenI : IR → Nat
  | .cons _ t => lenI t + 1
  | _ => 0
theorem evl_len {Z : Zc} {H G : Hp} {io : List Addr} {de : Env} {σ : L2.St} : ∀ (a : IR) {S : Store} {K : List D → Store → Prop}, Fin Z H G io de σ W (evl T C de a S) K → Fin Z H G io de σ W (evl T C de a S) fun ds S' => ds.length = lenI a ∧ K ds S' := by
  intro a
  induction a with
  | nil => exact fun {S K} h => ⟨rfl, h⟩
  | cons a t _ ih =>
    intro S K h
    have h := Fin.bnd (show Fin Z H G io de σ W ((ev T C de a S).bnd _) _ from h)
    show Fin Z H G io de σ W ((ev T C de a S).bnd fun d => bnd (evl T C de t) fun ds => ret (d :: ds)) _
    cases hr : ev T C de a S with
    | bad => rw [hr] at h; exact h.elim
    | exc c fs S' => rw [hr] at h; exact h
    | ok d S1 =>
      rw [hr] at h
      have h := ih (Fin.bnd (show Fin Z H G io de σ W ((evl T C de t S1).bnd _) _ from h))
      show Fin Z H G io de σ W ((evl T C de t S1).bnd fun ds => ret (d :: ds)) _
      cases hr2 : evl T C de t S1 with
      | bad => rw [hr2] at h; exact h.elim
      | exc c fs S' => rw [hr2] at h; exact h
      | ok ds S2 =>
        rw [hr2] at h
        exact ⟨congrArg Nat.succ h.1, h.2⟩
  | _ => exact fun {S K} h => h.elim
theorem pe_callN0 {CX : CXT} {k : Nat} {f : Addr} {fd : FuncData} {ps ks : List Str} {sp : Sp} {x : Str} {p pos : Pos} {kws : List Keyword} {tk : TA} {g : List Value → List Value → List Value} {gV : List V → List V → List V} (F : FnOk X.prog X.w X.K X.mg X.base CX k f fd ps sp) (hr : Room k X.A) (hg : Gl X x) (hm : X.mg x = some (.ref f)) (hk : PySem.W.keepIn X.K (.ref f) = true) (hb : KBn X.K fd ps 0 ks g gV) (hx : Passes CX X E)
    (hkw : PK X kws tk) (hdb : (x == ("__debug__" : Str)) = false) (hall : (backToKw pos (keywordEach kws X.env)).all (·.1.isSome) = true := by rfl) (hks : (backToKw pos (keywordEach kws X.env)).filterMap (·.1) = ks := by rfl)
    (hpl : ((backTo pos (starEach [] X.env)).any (·.1) || (backToKw pos (keywordEach kws X.env)).any (·.1.isNone)) = false := by rfl) :
    PE X (.Call (.Name x p) [] kws pos) (tCallN 0 ks.length sp gV E tNil tk) := by
  refine ⟨fun pins s σ H Q I h => ?_⟩
  refine wpAny_Call_Name_kw (ld_glob I hg hm ?_ hdb)
  refine PySem.W.callWith_KW0 (h₀ := X.base) I.ok.mod.kin hk hall ?_ hpl
  refine thn (hkw.run pos pins s σ H _ I h) fun ws s2 ⟨zs, H2, I2, rz, l1, l2, q2⟩ => ⟨I2.kIn, ?_⟩
  rw [hks]
  exact run_fnN F hr hb hx I2 .nil rz l1 l2 q2
theorem _root_.L2.PK.wk {kws : List Keyword} {t t' : TA} (h : PK X kws t) (w : ∀ σ H Q, t' σ H Q → t σ H Q) : PK X kws t' := ⟨fun po pn s σ H Q J q => h.run po pn s σ H Q J (w σ H Q q)⟩
theorem s_knil {Z : Zc} : PK X [] (tL Z T C W .nil) := (pk_nil (X := X)).wk fun σ H Q q => by
  obtain ⟨G, io, pl, S, de, R, h⟩ := q
  exact h H G io pl [] .refl R .nil
theorem s_kcons {Z : Zc} {a t : IR} {e : Expr} {nm : Option Str} {kpos : Pos} {kws : List Keyword} (ha : PE X e (tE Z T C W a)) (hr : PK X kws (tL Z T C W t)) : PK X (⟨nm, e, kpos⟩ :: kws) (tL Z T C W (.cons a t)) := (pk_cons ha hr).wk fun σ H Q q => by
  obtain ⟨G, io, pl, S, de, R, h⟩ := q
  refine ⟨G, io, pl, S, de, R, (Fin.bnd (show Fin Z H G io de σ W ((ev T C de a S).bnd _) _ from h)).imp fun x S1 k H1 G1 io1 pl1 v s1 R1 r => ?_⟩
  refine ⟨G1, io1, pl1, S1, de, R1, (Fin.bnd (show Fin Z H G io de σ W ((evl T C de t S1).bnd _) _ from k)).at s1 fun xs S2 k2 H2 G2 io2 pl2 vs s2 R2 rs => ?_⟩
  exact k2 H2 G2 io2 pl2 (v :: vs) (s1.trans s2) R2 (.cons (r.step s2) rs)
theorem tE_callk {Z : Zc} {f n m : Nat} {a kw : IR} {perm : List Nat} {Q : VK} {σ : L2.St} {H : Hp} {np : Nat} (hE : ∀ cls d σ H, W cls d σ H → E cls d H) (hx : ∀ {ds S}, ds.length ≠ np → C f ds S = .bad) (h1 : lenI a = n) (h2 : lenI kw = m) (q : tE Z T C W (.callk f a kw perm) σ H Q) : tCallN n m (spD Z C f np) (permL perm) E (tL Z T C W a) (tL Z T C W kw) σ H Q := by
  obtain ⟨G, io, pl, S, de, R, h⟩ := q
  refine ⟨G, io, pl, S, de, R, (evl_len a (Fin.bnd (show Fin Z H G io de σ W ((evl T C de a S).bnd _) _ from h))).imp fun ds S1 ⟨l1, k⟩ H1 G1 io1 pl1 vs s1 R1 r => ?_⟩
  refine ⟨G1, io1, pl1, S1, de, R1, (evl_len kw (Fin.bnd (show Fin Z H G io de σ W ((evl T C de kw S1).bnd _) _ from k))).at s1 fun es S2 ⟨l2, k2⟩ H2 G2 io2 pl2 zs s2 R2 r2 => ?_⟩
  obtain ⟨as, hp, k2⟩ := k2.tryL
  have k2 := Fin.bnd (show Fin Z H G io de σ W ((C f as S2).bnd _) _ from k2)
  have hl : as.length = np := by
    refine Decidable.byContradiction fun z => ?_
    rw [hx z] at k2
    exact k2
  have rs := permL_reps (r.step s2) r2 hp
  exact ⟨by rw [r.length, l1, h1], by rw [r2.length, l2, h2], call_go hE R2 rs (by rw [rs.length]; exact hl) (k2.at (s1.trans s2) fun _ _ z => z) fun x S3 k3 H3 G3 io3 pl3 v s3 R3 rv => k3 H3 G3 io3 pl3 v ((s1.trans s2).trans s3) R3 rv⟩
theorem Cxo.callk (c : Cxo A k Nn sc fc X) (ok : WdOk A) (L : lvl A T N k) {i n : Nat} {perm : List Nat} {x : Str} {ps ks : List Str} {a kw : IR} {e : Expr} {es : List Expr} {kws : List Keyword} {p pos : Pos} (hb : KBn A.Z.K (A.fdd i) ps n ks (permL perm) (permL perm)) (h : gloB sc A.names i x = true) (hp : A.pars[i]? = some ps) (har : arB T i ps.length = true) (ha : PA X (e :: es) (tL A.Z T (callF T N k) (WE E) a)) (hkw : PK X kws (tL A.Z T (callF T N k) (WE E) kw)) (h1 : lenI a = n := by rfl) (h2 : lenI kw = ks.length := by rfl)
    (hall : (backToKw pos (keywordEach kws X.env)).all (·.1.isSome) = true := by rfl) (hks : (backToKw pos (keywordEach kws X.env)).filterMap (·.1) = ks := by rfl)
    (he : starEach (e :: es) X.env = (false, eval e X.env) :: starEach es X.env := by rfl)
    (hpl : ((backTo pos (starEach (e :: es) X.env)).any (·.1) || (backToKw pos (keywordEach kws X.env)).any (·.1.isNone)) = false := by rfl) : PE X (.Call (.Name x p) (e :: es) kws pos) (tE A.Z T (callF T N k) (WE E) (.callk i a kw perm)) := by
  obtain ⟨g, hn⟩ := c.glo h
  have F := FnOk.at (L i ps hp) c.cP c.cw c.cK c.cmg c.cbase
  refine (pe_callN (E := E) F c.room g.gl (by rw [c.cmg]; exact (ok.gl i x hn).1) (by rw [c.cK]; exact (ok.gl i x hn).2) (by rw [c.cK]; exact hb) pass00 ha hkw hall hks g.db he hpl).wk fun σ H Q q => ?_
  exact tE_callk (fun _ _ _ _ z => z) (fun z => callF_len T N (arB_ok har) k z) h1 h2 q
theorem Cxo.callk0 (c : Cxo A k Nn sc fc X) (ok : WdOk A) (L : lvl A T N k) {i : Nat} {perm : List Nat} {x : Str} {ps ks : List Str} {kw : IR} {kws : List Keyword} {p pos : Pos} (hb : KBn A.Z.K (A.fdd i) ps 0 ks (permL perm) (permL perm)) (h : gloB sc A.names i x = true) (hp : A.pars[i]? = some ps) (har : arB T i ps.length = true) (hkw : PK X kws (tL A.Z T (callF T N k) (WE E) kw)) (h2 : lenI kw = ks.length := by rfl)
    (hall : (backToKw pos (keywordEach kws X.env)).all (·.1.isSome) = true := by rfl) (hks : (backToKw pos (keywordEach kws X.env)).filterMap (·.1) = ks := by rfl)
    (hpl : ((backTo pos (starEach [] X.env)).any (·.1) || (backToKw pos (keywordEach kws X.env)).any (·.1.isNone)) = false := by rfl) : PE X (.Call (.Name x p) [] kws pos) (tE A.Z T (callF T N k) (WE E) (.callk i .nil kw perm)) := by
  obtain ⟨g, hn⟩ := c.glo h
  have F := FnOk.at (L i ps hp) c.cP c.cw c.cK c.cmg c.cbase
  refine (pe_callN0 (E := E) F c.room g.gl (by rw [c.cmg]; exact (ok.gl i x hn).1) (by rw [c.cK]; exact (ok.gl i x hn).2) (by rw [c.cK]; exact hb) pass00 hkw g.db hall hks hpl).wk fun σ H Q q => ?_
  have := tE_callk (E := E) (n := 0) (m := ks.length) (fun _ _ _ _ z => z) (fun z => callF_len T N (arB_ok har) k z) rfl h2 q
  obtain ⟨G, io, pl, S, de, R, h⟩ := this
  exact h H G io pl [] .refl R .nil
end
end Y
/-! Y14: the rules by contexts. -/
namespace Y
open PySem L2

section
variable {A : Wd} {T : Tb} {N k : Nat} {Nn : List Str} {sc : Scope} {fc : Str → Bool} {X : Cx} {E : XK} {W : WX} {C : Calls}
/-! ### built-ins -/
theorem Cxo.bfn (c : Cxo A k Nn sc fc X) (ok : WdOk A) {x : Str} {id : String} {r : List V → Hp → VK → Prop} (hr : CallR X (.builtin id) r) (hv : bootBuiltins x = some (.builtin id)) {i : Nat} (h : gloB sc A.frees i x = true) {e : Expr} {es : List Expr} {p pos : Pos} {t : TA} (ha : PA X (e :: es) t)
    (he : starEach (e :: es) X.env = (false, eval e X.env) :: starEach es X.env := by rfl) (hpl : (backTo pos (starEach es X.env)).any (·.1) = false := by rfl) : PE X (.Call (.Name x p) (e :: es) [] pos) (tCB r t) := by
  obtain ⟨g, hn⟩ := c.glo h
  exact pe_callB hr g.gl (by rw [c.cmg]; exact ok.fr i x hn) hv ha g.nm g.db he hpl
theorem Cxo.bty (c : Cxo A k Nn sc fc X) (ok : WdOk A) {x : Str} {id : String} {r : List V → Hp → VK → Prop} (hr : CallR X (.type id) r) (hv : bootBuiltins x = some (.type id)) {i : Nat} (h : gloB sc A.frees i x = true) {e : Expr} {es : List Expr} {p pos : Pos} {t : TA} (ha : PA X (e :: es) t)
    (he : starEach (e :: es) X.env = (false, eval e X.env) :: starEach es X.env := by rfl) (hpl : (backTo pos (starEach es X.env)).any (·.1) = false := by rfl) : PE X (.Call (.Name x p) (e :: es) [] pos) (tCB r t) := by
  obtain ⟨g, hn⟩ := c.glo h
  exact pe_callTy hr g.gl (by rw [c.cmg]; exact ok.fr i x hn) hv ha g.nm g.db he hpl
theorem bo_len : bootBuiltins "len" = some (.builtin "len") := by decide +kernel
theorem bo_all : bootBuiltins "all" = some (.builtin "all") := by decide +kernel
theorem bo_any : bootBuiltins "any" = some (.builtin "any") := by decide +kernel
theorem bo_sorted : bootBuiltins "sorted" = some (.builtin "sorted") := by decide +kernel
theorem bo_abs : bootBuiltins "abs" = some (.builtin "abs") := by decide +kernel
theorem bo_max : bootBuiltins "max" = some (.builtin "max") := by decide +kernel
theorem bo_min : bootBuiltins "min" = some (.builtin "min") := by decide +kernel
theorem bo_list : bootBuiltins "list" = some (.type "list") := by decide +kernel
theorem bo_tuple : bootBuiltins "tuple" = some (.type "tuple") := by decide +kernel
theorem bo_dict : bootBuiltins "dict" = some (.type "dict") := by decide +kernel
theorem bo_int : bootBuiltins "int" = some (.type "int") := by decide +kernel
section
variable {i : Nat} {e : Expr} {es : List Expr} {p pos : Pos} {a : IR}
theorem Cxo.len (c : Cxo A k Nn sc fc X) (ok : WdOk A) (h : gloB sc A.frees i "len" = true) (ha : PA X (e :: es) (tLO A.Z T C W a)) (he : starEach (e :: es) X.env = (false, eval e X.env) :: starEach es X.env := by rfl) (hpl : (backTo pos (starEach es X.env)).any (·.1) = false := by rfl) : PE X (.Call (.Name "len" p) (e :: es) [] pos) (tE A.Z T C W (.bi .len a)) := s_bi ok_len (c.bfn ok (by have := call_lenA (X := X); rw [c.cK] at this; exact this) bo_len h ha he hpl)
theorem Cxo.all (c : Cxo A k Nn sc fc X) (ok : WdOk A) (h : gloB sc A.frees i "all" = true) (ha : PA X (e :: es) (tLO A.Z T C W a)) (he : starEach (e :: es) X.env = (false, eval e X.env) :: starEach es X.env := by rfl) (hpl : (backTo pos (starEach es X.env)).any (·.1) = false := by rfl) : PE X (.Call (.Name "all" p) (e :: es) [] pos) (tE A.Z T C W (.bi .all a)) := s_bi ok_all (c.bfn ok (by have := cr_all c.calm; rw [c.cK] at this; exact this) bo_all h ha he hpl)
theorem Cxo.any (c : Cxo A k Nn sc fc X) (ok : WdOk A) (h : gloB sc A.frees i "any" = true) (ha : PA X (e :: es) (tLO A.Z T C W a)) (he : starEach (e :: es) X.env = (false, eval e X.env) :: starEach es X.env := by rfl) (hpl : (backTo pos (starEach es X.env)).any (·.1) = false := by rfl) : PE X (.Call (.Name "any" p) (e :: es) [] pos) (tE A.Z T C W (.bi .any a)) := s_bi ok_any (c.bfn ok (by have := cr_any c.calm; rw [c.cK] at this; exact this) bo_any h ha he hpl)
theorem Cxo.abs (c : Cxo A k Nn sc fc X) (ok : WdOk A) (h : gloB sc A.frees i "abs" = true) (ha : PA X (e :: es) (tLO A.Z T C W a)) (he : starEach (e :: es) X.env = (false, eval e X.env) :: starEach es X.env := by rfl) (hpl : (backTo pos (starEach es X.env)).any (·.1) = false := by rfl) : PE X (.Call (.Name "abs" p) (e :: es) [] pos) (tE A.Z T C W (.bi .abs a)) := s_bi ok_abs (c.bfn ok call_abs bo_abs h ha he hpl)
theorem Cxo.max2 (c : Cxo A k Nn sc fc X) (ok : WdOk A) (h : gloB sc A.frees i "max" = true) (ha : PA X (e :: es) (tLO A.Z T C W a)) (he : starEach (e :: es) X.env = (false, eval e X.env) :: starEach es X.env := by rfl) (hpl : (backTo pos (starEach es X.env)).any (·.1) = false := by rfl) : PE X (.Call (.Name "max" p) (e :: es) [] pos) (tE A.Z T C W (.bi .max2 a)) := s_bi ok_max2 (c.bfn ok (call_max2 c.calm) bo_max h ha he hpl)
theorem Cxo.min2 (c : Cxo A k Nn sc fc X) (ok : WdOk A) (h : gloB sc A.frees i "min" = true) (ha : PA X (e :: es) (tLO A.Z T C W a)) (he : starEach (e :: es) X.env = (false, eval e X.env) :: starEach es X.env := by rfl) (hpl : (backTo pos (starEach es X.env)).any (·.1) = false := by rfl) : PE X (.Call (.Name "min" p) (e :: es) [] pos) (tE A.Z T C W (.bi .min2 a)) := s_bi ok_min2 (c.bfn ok (call_min2 c.calm) bo_min h ha he hpl)
theorem Cxo.maxl (c : Cxo A k Nn sc fc X) (ok : WdOk A) (h : gloB sc A.frees i "max" = true) (ha : PA X (e :: es) (tLO A.Z T C W a)) (he : starEach (e :: es) X.env = (false, eval e X.env) :: starEach es X.env := by rfl) (hpl : (backTo pos (starEach es X.env)).any (·.1) = false := by rfl) : PE X (.Call (.Name "max" p) (e :: es) [] pos) (tE A.Z T C W (.bi .maxl a)) := s_bi ok_maxl (c.bfn ok (by have := cr_max c.calm; rw [c.cK] at this; exact this) bo_max h ha he hpl)
theorem Cxo.minl (c : Cxo A k Nn sc fc X) (ok : WdOk A) (h : gloB sc A.frees i "min" = true) (ha : PA X (e :: es) (tLO A.Z T C W a)) (he : starEach (e :: es) X.env = (false, eval e X.env) :: starEach es X.env := by rfl) (hpl : (backTo pos (starEach es X.env)).any (·.1) = false := by rfl) : PE X (.Call (.Name "min" p) (e :: es) [] pos) (tE A.Z T C W (.bi .minl a)) := s_bi ok_minl (c.bfn ok (by have := cr_min c.calm; rw [c.cK] at this; exact this) bo_min h ha he hpl)
theorem Cxo.sorted (c : Cxo A k Nn sc fc X) (ok : WdOk A) (h : gloB sc A.frees i "sorted" = true) (ha : PA X (e :: es) (tLO A.Z T C W a)) (he : starEach (e :: es) X.env = (false, eval e X.env) :: starEach es X.env := by rfl) (hpl : (backTo pos (starEach es X.env)).any (·.1) = false := by rfl) : PE X (.Call (.Name "sorted" p) (e :: es) [] pos) (tN A.Z T C W (.bi .sorted a)) := n_bi ok_sorted (c.bfn ok (by have := cr_sortedD c.u80; rw [c.cK] at this; exact this) bo_sorted h ha he hpl)
theorem Cxo.list (c : Cxo A k Nn sc fc X) (ok : WdOk A) (h : gloB sc A.frees i "list" = true) (ha : PA X (e :: es) (tLO A.Z T C W a)) (he : starEach (e :: es) X.env = (false, eval e X.env) :: starEach es X.env := by rfl) (hpl : (backTo pos (starEach es X.env)).any (·.1) = false := by rfl) : PE X (.Call (.Name "list" p) (e :: es) [] pos) (tN A.Z T C W (.bi .list a)) := n_bi ok_list (c.bty ok (by have := call_list_of (X := X); rw [c.cK] at this; exact this) bo_list h ha he hpl)
theorem Cxo.tuple (c : Cxo A k Nn sc fc X) (ok : WdOk A) (h : gloB sc A.frees i "tuple" = true) (ha : PA X (e :: es) (tLO A.Z T C W a)) (he : starEach (e :: es) X.env = (false, eval e X.env) :: starEach es X.env := by rfl) (hpl : (backTo pos (starEach es X.env)).any (·.1) = false := by rfl) : PE X (.Call (.Name "tuple" p) (e :: es) [] pos) (tE A.Z T C W (.bi .tuple a)) := s_bi ok_tuple (c.bty ok (by have := call_tuple_of (X := X); rw [c.cK] at this; exact this) bo_tuple h ha he hpl)
theorem Cxo.dict (c : Cxo A k Nn sc fc X) (ok : WdOk A) (h : gloB sc A.frees i "dict" = true) (ha : PA X (e :: es) (tLO A.Z T C W a)) (he : starEach (e :: es) X.env = (false, eval e X.env) :: starEach es X.env := by rfl) (hpl : (backTo pos (starEach es X.env)).any (·.1) = false := by rfl) : PE X (.Call (.Name "dict" p) (e :: es) [] pos) (tN A.Z T C W (.bi .dict a)) := n_bi ok_dict (c.bty ok (by have := call_dictA c.calm; rw [c.cK] at this; exact this) bo_dict h ha he hpl)
theorem Cxo.int (c : Cxo A k Nn sc fc X) (ok : WdOk A) (h : gloB sc A.frees i "int" = true) (ha : PA X (e :: es) (tLO A.Z T C W a)) (he : starEach (e :: es) X.env = (false, eval e X.env) :: starEach es X.env := by rfl) (hpl : (backTo pos (starEach es X.env)).any (·.1) = false := by rfl) : PE X (.Call (.Name "int" p) (e :: es) [] pos) (tE A.Z T C W (.bi .int a)) := s_bi ok_int1 (c.bty ok call_int1 bo_int h ha he hpl)
end

/-! ### operators -/
section
variable {a b : IR} {e f : Expr} {pos : Pos}
def BinR (A : Wd) (X : Cx) (o : O2) (op : Operator) : Prop := ∃ r, OpR X (binaryOp op) r ∧ P2ok A.Z o r
def CmpR (A : Wd) (X : Cx) (o : O2) (op : CmpOp) : Prop := ∃ r, OpR X (compareOp op) r ∧ P2ok A.Z o r
theorem Cxo.add (c : Cxo A k Nn sc fc X) : BinR A X .add .Add := ⟨_, op_addA, by rw [c.cK]; exact ok_add⟩
theorem Cxo.sub (c : Cxo A k Nn sc fc X) : BinR A X .sub .Sub := ⟨_, op_sub, ok_sub⟩
theorem Cxo.mul (c : Cxo A k Nn sc fc X) : BinR A X .mul .Mult := ⟨_, op_mulA, ok_mul⟩
theorem Cxo.fdiv (c : Cxo A k Nn sc fc X) : BinR A X .fdiv .FloorDiv := ⟨_, op_fdiv, ok_fdiv⟩
theorem Cxo.mod (c : Cxo A k Nn sc fc X) : BinR A X .mod .Mod := ⟨_, op_mod, ok_mod⟩
theorem Cxo.pow (c : Cxo A k Nn sc fc X) : BinR A X .pow .Pow := ⟨_, op_pow, ok_pow⟩
theorem Cxo.lt (c : Cxo A k Nn sc fc X) : CmpR A X .lt .Lt := ⟨_, op_lt, ok_lt⟩
theorem Cxo.le (c : Cxo A k Nn sc fc X) : CmpR A X .le .LtE := ⟨_, op_le, ok_le⟩
theorem Cxo.gt (c : Cxo A k Nn sc fc X) : CmpR A X .gt .Gt := ⟨_, op_gt, ok_gt⟩
theorem Cxo.ge (c : Cxo A k Nn sc fc X) : CmpR A X .ge .GtE := ⟨_, op_ge, ok_ge⟩
theorem Cxo.eq (c : Cxo A k Nn sc fc X) : CmpR A X .eq .Eq := ⟨_, op_eqD c.u64, by rw [c.cK]; exact ok_eq⟩
theorem Cxo.ne (c : Cxo A k Nn sc fc X) : CmpR A X .ne .NotEq := ⟨_, op_neD c.u64, by rw [c.cK]; exact ok_ne⟩
theorem Cxo.isN (c : Cxo A k Nn sc fc X) : CmpR A X .isN .Is := ⟨_, op_isN, ok_isN⟩
theorem Cxo.notN (c : Cxo A k Nn sc fc X) : CmpR A X .notN .IsNot := ⟨_, op_notN, ok_notN⟩
theorem Cxo.isin (c : Cxo A k Nn sc fc X) : CmpR A X .isin .In := ⟨_, op_inA c.u65, by rw [c.cK]; exact ok_isin⟩
theorem Cxo.nin (c : Cxo A k Nn sc fc X) : CmpR A X .nin .NotIn := ⟨_, op_ninA c.u65, by rw [c.cK]; exact ok_nin⟩
theorem e_bin {o : O2} {op : Operator} (h : BinR A X o op) (ha : PE X e (tO A.Z T C W a)) (hb : PE X f (tO A.Z T C W b)) : PE X (.BinOp e op f pos) (tE A.Z T C W (.o2 o a b)) := by
  obtain ⟨r, h1, h2⟩ := h
  exact s_bin h1 h2 ha hb
theorem e_cmp {o : O2} {op : CmpOp} (h : CmpR A X o op) (ha : PE X e (tO A.Z T C W a)) (hb : PE X f (tO A.Z T C W b)) (hm : behindInMarks op f = false := by rfl) : PE X (.Compare e [op] [f] pos) (tE A.Z T C W (.o2 o a b)) := by
  obtain ⟨r, h1, h2⟩ := h
  exact s_cmp h1 h2 ha hb hm
theorem e_cmpT {o : O2} {op : CmpOp} (h : CmpR A X o op) (ha : PE X e (tO A.Z T C W a)) (hb : PE X f (tO A.Z T C W b)) (hm : behindInMarks op f = false := by rfl) : PT X (.Compare e [op] [f] pos) (tT A.Z T C W (.tb (.o2 o a b))) := by
  obtain ⟨r, h1, h2⟩ := h
  exact s_cmpT h1 h2 ha hb hm
theorem e_ch {o o' : O2} {op op' : CmpOp} {d : IR} {g : Expr} (h : CmpR A X o op) (h' : CmpR A X o' op') (ha : PE X e (tO A.Z T C W a)) (hb : PE X f (tO A.Z T C W b)) (hc : PE X g (tO A.Z T C W d)) (hm : lastMarks [op, op'] [f, g] = false := by rfl) : PE X (.Compare e [op, op'] [f, g] pos) (tE A.Z T C W (.ch o o' a b d)) := by
  obtain ⟨r, h1, h2⟩ := h
  obtain ⟨r', h1', h2'⟩ := h'
  refine (pe_chain h1 h1' ha hb hc hm).wk fun σ H Q q => ?_
  obtain ⟨G, io, pl, S, de, R, h⟩ := q
  exact chain_go h2 h2' R h (fun b S' H' G' io' pl' k s R' => k H' G' io' pl' _ s R' (.bl b)) fun d S' H' G' io' pl' v k s R' r => k H' G' io' pl' v s R' r
theorem e_chT {o o' : O2} {op op' : CmpOp} {d : IR} {g : Expr} (h : CmpR A X o op) (h' : CmpR A X o' op') (ha : PE X e (tO A.Z T C W a)) (hb : PE X f (tO A.Z T C W b)) (hc : PE X g (tO A.Z T C W d)) (hm : lastMarks [op, op'] [f, g] = false := by rfl) : PT X (.Compare e [op, op'] [f, g] pos) (tT A.Z T C W (.tb (.ch o o' a b d))) := by
  obtain ⟨r, h1, h2⟩ := h
  obtain ⟨r', h1', h2'⟩ := h'
  exact s_chT h2 h2' (pt_chain h1 h1' ha hb hc hm)
theorem t_val (ha : PE X e (tE A.Z T C W a)) (he : ∀ whole, isTrue e X.env whole = (do let v ← whole; standAt e.pos; holding [v] (truthy v)) := by intro _; rfl) : PT X e (tT A.Z T C W (.tb a)) := s_tb (pt_val ha he)
theorem t_tru (c : Cxo A k Nn sc fc X) (ha : PE X e (tO A.Z T C W a)) (he : ∀ whole, isTrue e X.env whole = (do let v ← whole; standAt e.pos; holding [v] (truthy v)) := by intro _; rfl) : PT X e (tT A.Z T C W (.tt a)) := s_tt (pt_truth ha he) c.cK
theorem e_none {j : Option Str} {x1 : Nat} {pos : Pos} : PE X (.Constant .none x1 pos) (tE A.Z T C W .kn) := s_const pe_non (fun _ => rfl) fun _ _ => .non
theorem e_bool {b : Bool} {x1 : Nat} {pos : Pos} : PE X (.Constant (.bool b) x1 pos) (tE A.Z T C W (.kb b)) := s_const pe_bl (fun _ => rfl) fun _ _ => .bl b
theorem e_int {i : Int} {x1 : Nat} {pos : Pos} : PE X (.Constant (.int i) x1 pos) (tE A.Z T C W (.ki i)) := s_const pe_int (fun _ => rfl) fun _ _ => .int i
theorem e_str {s : Str} {x1 : Nat} {pos : Pos} : PE X (.Constant (.str s) x1 pos) (tE A.Z T C W (.ks s)) := s_const pe_str (fun _ => rfl) fun _ _ => .str s
theorem Cxo.idx (c : Cxo A k Nn sc fc X) (ha : PE X e (tO A.Z T C W a)) (hb : PE X f (tE A.Z T C W b)) (hs : PlainIx f := by exact fun _ _ => rfl) : PE X (.Subscript e f pos) (tE A.Z T C W (.idx a b)) := s_idx c.u65 c.cK ha hb hs
theorem Cxo.sli (c : Cxo A k Nn sc fc X) {lo hi : IR} {l u : Option Expr} {p2 : Pos} (ha : PE X e (tO A.Z T C W a)) (hl : PO X l (tP A.Z T C W lo)) (hh : PO X u (tP A.Z T C W hi)) : PE X (.Subscript e (.Slice l u none p2) pos) (tE A.Z T C W (.sli a lo hi)) := s_sli c.cK ha hl hh
end

/-! ### what is walked -/
section
variable {a b : IR} {e f : Expr} {p pos : Pos} {i : Nat} {tg : Expr}
theorem Cxo.iv (c : Cxo A k Nn sc fc X) (ha : PE X e (tE A.Z T C W a)) : PI X tg e (tI A.Z T C W (.iv a)) := s_iv c.cK ha
theorem Cxo.ir1 (c : Cxo A k Nn sc fc X) (ok : WdOk A) (h : gloB sc A.frees i "range" = true) (ha : PE X e (tE A.Z T C W a)) (hs : starEach [e] X.env = [(false, eval e X.env)] := by rfl) : PI X tg (.Call (.Name "range" p) [e] [] pos) (tI A.Z T C W (.ir1 a)) := by
  obtain ⟨g, hn⟩ := c.glo h
  exact s_ir1 g.gl (by rw [c.cmg]; exact ok.fr i _ hn) ha hs
theorem Cxo.ir2 (c : Cxo A k Nn sc fc X) (ok : WdOk A) (h : gloB sc A.frees i "range" = true) (ha : PE X e (tE A.Z T C W a)) (hb : PE X f (tE A.Z T C W b)) (hs : starEach [e, f] X.env = [(false, eval e X.env), (false, eval f X.env)] := by rfl) (hs2 : starEach [f] X.env = [(false, eval f X.env)] := by rfl) : PI X tg (.Call (.Name "range" p) [e, f] [] pos) (tI A.Z T C W (.ir2 a b)) := by
  obtain ⟨g, hn⟩ := c.glo h
  exact s_ir2 g.gl (by rw [c.cmg]; exact ok.fr i _ hn) ha hb hs hs2
theorem Cxo.zip (c : Cxo A k Nn sc fc X) (ok : WdOk A) {elts : List Expr} {kk : Nat} {tpos : Pos} (h : gloB sc A.frees i "zip" = true) (ha : PE X e (tE A.Z T C W a)) (hb : PE X f (tE A.Z T C W b)) (hs : starEach [e, f] X.env = (false, eval e X.env) :: starEach [f] X.env := by rfl) (hs2 : starEach [f] X.env = (false, eval f X.env) :: starEach [] X.env := by rfl) (hpl : (backTo pos (starEach [f] X.env)).any (·.1) = false := by rfl) : PI X (.Tuple elts kk tpos) (.Call (.Name "zip" p) [e, f] [] pos) (tI A.Z T C W (.zip a b)) := by
  obtain ⟨g, hn⟩ := c.glo h
  exact s_zip g.gl (by rw [c.cmg]; exact ok.fr i _ hn) ha hb hs hs2 hpl
theorem Cxo.enum (c : Cxo A k Nn sc fc X) (ok : WdOk A) {elts : List Expr} {kk : Nat} {tpos : Pos} (h : gloB sc A.frees i "enumerate" = true) (ha : PE X e (tE A.Z T C W a)) (hs : starEach [e] X.env = [(false, eval e X.env)] := by rfl) : PI X (.Tuple elts kk tpos) (.Call (.Name "enumerate" p) [e] [] pos) (tI A.Z T C W (.enum a)) := by
  obtain ⟨g, hn⟩ := c.glo h
  exact s_enum g.gl (by rw [c.cmg]; exact ok.fr i _ hn) ha hs
theorem Cxo.gtt (c : Cxo A k Nn sc fc X) {gs : IR} {es : List Expr} {kk : Nat} (h : PGs X es (tGs A.Z gs)) (hn : (assignEach es X.env).length = (gsl gs).length := by rfl) (hst : (assignEach es X.env).findIdx? (·.1) = none := by rfl) : PG X (.Tuple es kk pos) (tG A.Z (.gt gs)) := s_gt c.calm h c.cK (fun e => asgs_len e) hn hst
end

/-! ### comprehensions -/
section
variable {elt tg iter : Expr} {ifs : List Expr} {scope : Scope} {own : List (Str × Nat)} {pos spos py : Pos} {g it c' e : IR} {tt : TT} {y : Str} {i : Nat}
theorem blk_ok (c : Cxo A k Nn sc fc X) (h : blkC Nn sc scope own = true) : BlkOk X.N X.env.scope scope own ∧ scope.kind = .function := by
  rw [c.cN, c.csc]
  have := blkOk_by h
  exact ⟨this, this.kind⟩
theorem Cxo.lc (c : Cxo A k Nn sc fc X) (hi : PI X tg iter (tI A.Z T C W it)) (hb : blkC Nn sc scope own = true) (hv : ∀ j ∈ gsl g, j ∈ own.map (·.2))
    (hg : ∀ X', Cxo A k Nn (relS scope sc) (fun x => scope.names.lookup x == some .cell) X' → PG X' tg (tG A.Z g)) (ht : ∀ X', Cxo A k Nn (relS scope sc) (fun x => scope.names.lookup x == some .cell) X' → PTs X' ifs tt) (htc : ∀ σ H Q, tT A.Z T C W c' σ H Q → tt σ H Q)
    (he : ∀ X', Cxo A k Nn (relS scope sc) (fun x => scope.names.lookup x == some .cell) X' → PE X' elt (tE A.Z T C W e)) (hs : ∀ x, foldedSetIterable iter X.env x = pure x := by intro _; rfl) : PE X (.ListComp elt [⟨tg, iter, ifs, 0⟩] scope pos) (tN A.Z T C W (.lc (own.map (·.2)) g it c' e)) := by
  obtain ⟨ok, hk⟩ := blk_ok c hb
  exact (pe_lc c.calm c.ndx hi ok (fun s H Ca cl fp => hg _ (c.blk hk s H Ca cl fp)) (fun s H Ca cl fp => ht _ (c.blk hk s H Ca cl fp)) (fun s H Ca cl fp => he _ (c.blk hk s H Ca cl fp)) hs).wk fun σ H Q q => tN_lc (fun _ _ _ z => z) (fun _ _ _ _ z => z) htc (fun _ _ _ z => z) hv q
theorem Cxo.setLc (c : Cxo A k Nn sc fc X) (hi : PI X tg iter (tI A.Z T C W it)) (hb : blkC Nn sc scope own = true) (hv : ∀ j ∈ gsl g, j ∈ own.map (·.2))
    (hg : ∀ X', Cxo A k Nn (relS scope sc) (fun x => scope.names.lookup x == some .cell) X' → PG X' tg (tG A.Z g)) (ht : ∀ X', Cxo A k Nn (relS scope sc) (fun x => scope.names.lookup x == some .cell) X' → PTs X' ifs tt) (htc : ∀ σ H Q, tT A.Z T C W c' σ H Q → tt σ H Q)
    (he : ∀ X', Cxo A k Nn (relS scope sc) (fun x => scope.names.lookup x == some .cell) X' → PE X' elt (tE A.Z T C W e)) (hy : locB Nn sc (fun _ => false) i y = true) (hl : (py.line == pos.line) = true) (ha : (scope.names.any fun (n, k) => n == y && (k == .local || k == .cell)) = false) (hs : ∀ x, foldedSetIterable iter X.env x = pure x := by intro _; rfl) :
    PS X (.Assign [.Name y py] (.ListComp elt [⟨tg, iter, ifs, 0⟩] scope pos) spos) (tAsg (tN A.Z T C W (.lc (own.map (·.2)) g it c' e)) (gName i)) := by
  obtain ⟨ok, hk⟩ := blk_ok c hb
  have hyl : X.env.scope.names.lookup y = some .local := by
    rw [c.csc]
    unfold locB at hy
    simp only [Bool.and_eq_true, Bool.or_eq_true, decide_eq_true_eq, Bool.false_eq_true, and_false, or_false] at hy
    exact lkB_ok hy.2
  have hsc : X.env.scope.kind = .function := by rw [c.csc]; exact c.ckind
  exact (ps_setLc c.calm c.ndx (c.loc (fc := fc) (by unfold locB at hy ⊢; simp only [Bool.and_eq_true, Bool.or_eq_true, decide_eq_true_eq, Bool.false_eq_true, and_false, or_false] at hy ⊢; exact ⟨hy.1, .inl hy.2⟩)).1 hyl (sw_true hsc hyl hl ha) hi ok (fun s H Ca cl fp => hg _ (c.blk hk s H Ca cl fp)) (fun s H Ca cl fp => ht _ (c.blk hk s H Ca cl fp)) (fun s H Ca cl fp => he _ (c.blk hk s H Ca cl fp)) hs).wk fun D σ H q => tN_lc (fun _ _ _ z => z) (fun _ _ _ _ z => z) htc (fun _ _ _ z => z) hv q
theorem tt_none : ∀ (σ : L2.St) (H : Hp) (Q : Bool → Hp → Prop), tT A.Z T C W (.kb true) σ H Q → tYes σ H Q := fun σ H Q q => by
  obtain ⟨G, io, pl, S, de, R, h⟩ := q
  exact h H G io pl .refl R
theorem tE_tN {ir : IR} {σ : L2.St} {H : Hp} {Q : VK} {Z : Zc} (q : tE Z T C W ir σ H Q) : tN Z T C W ir σ H Q := by
  obtain ⟨G, io, pl, S, de, R, h⟩ := q
  refine ⟨G, io, pl, S, de, R, h.imp fun d S1 k H1 G1 io1 pl1 p s1 R1 ow n g h0 f => ?_⟩
  obtain ⟨G2, R2, s2, r, _⟩ := ow.known R1 s1 n g h0 f
  exact k H1 G2 io1 pl1 _ s2 R2 r
end

/-! ### assignments -/
section
variable {e : Expr} {x : Str} {i : Nat} {p pos : Pos} {ir g : IR}
def dumE (sc : Scope) : PySem.Env := PyProof.Rows.envOfC "" sc 0 0 .none
theorem swaps_scope {e : Expr} {t : Option Expr} {l : Nat} {e1 e2 : PySem.Env} (h : e1.scope = e2.scope) : swapsWith e t l e1 = swapsWith e t l e2 := by
  unfold swapsWith Env.kindOf Env.blockKind
  rw [h]
theorem swapped_scope {ts : List Expr} {e : Expr} {e1 e2 : PySem.Env} (h : e1.scope = e2.scope) : swappedStores ts e e1 = swappedStores ts e e2 := by
  unfold swappedStores Env.kindOf Env.blockKind
  rw [h]
theorem Cxo.sw (c : Cxo A k Nn sc fc X) {t : Option Expr} {l : Nat} {b : Bool} (h : swapsWith e t l (dumE sc) = pure b) : swapsWith e t l X.env = pure b := (swaps_scope (e2 := dumE sc) c.csc).trans h
theorem Cxo.sws (c : Cxo A k Nn sc fc X) {ts : List Expr} {l : Nat} {b : Bool} (h : swapsWithSole ts e l (dumE sc) = pure b) : swapsWithSole ts e l X.env = pure b := by
  refine Eq.trans ?_ h
  unfold swapsWithSole
  split
  · exact swaps_scope c.csc
  · rfl
theorem Cxo.swd (c : Cxo A k Nn sc fc X) {ts : List Expr} {b : Option (List Str)} (h : swappedStores ts e (dumE sc) = pure b) : swappedStores ts e X.env = pure b := (swapped_scope (e2 := dumE sc) c.csc).trans h
theorem Cxo.set (c : Cxo A k Nn sc fc X) (h : locB Nn sc fc i x = true) (he : PE X e (tE A.Z T C W ir)) (hs : swapsWith e (some (.Name x p)) pos.line (dumE sc) = pure false) : PS X (.Assign [.Name x p] e pos) (tS A.Z T C W N (.set (.gn i) ir)) := s_asg (ps_set c.ndx (c.loc h).1 (c.loc h).2.1 he (c.sw hs) (c.loc h).2.2) (fun _ _ _ z => z) fun _ _ _ _ z => tG_gn z
theorem Cxo.seto (c : Cxo A k Nn sc fc X) (h : locB Nn sc fc i x = true) (he : PE X e (tN A.Z T C W ir)) (hs : swapsWith e (some (.Name x p)) pos.line (dumE sc) = pure false) : PS X (.Assign [.Name x p] e pos) (tS A.Z T C W N (.seto i ir)) := s_seto (ps_set c.ndx (c.loc h).1 (c.loc h).2.1 he (c.sw hs) (c.loc h).2.2) fun _ _ _ z => z
theorem Cxo.asg (c : Cxo A k Nn sc fc X) {t : Expr} (he : PE X e (tE A.Z T C W ir)) (hg : PG X t (tG A.Z g)) (hs : swapsWithSole [t] e pos.line (dumE sc) = pure false) (hw : swappedStores [t] e (dumE sc) = pure none) (h1 : (assignEach [t] X.env).map (·.2) = [assign t X.env] := by rfl) : PS X (.Assign [t] e pos) (tS A.Z T C W N (.set g ir)) := s_asg (ps_asg he hg (c.sws hs) (c.swd hw) h1) (fun _ _ _ z => z) fun _ _ _ _ z => z
theorem s_lcv {stm : Stmt} {te : TE} (h : PS X stm (tAsg (tN A.Z T C W ir) (gName i))) : PS X stm (tS A.Z T C W N (.set (.gn i) ir)) := s_asg h (fun _ _ _ z => tE_tN z) fun _ _ _ _ z => tG_gn z
theorem s_lco {stm : Stmt} {te : TE} (h : PS X stm (tAsg (tN A.Z T C W ir) (gName i))) : PS X stm (tS A.Z T C W N (.seto i ir)) := s_seto h fun _ _ _ z => z
theorem tEb_tN {σ : L2.St} {H : Hp} {Q : VK} {Z : Zc} (q : tE Z T C W (.boxed ir) σ H Q) : tN Z T C W ir σ H Q := by
  obtain ⟨G, io, pl, S, de, R, h⟩ := q
  refine ⟨G, io, pl, S, de, R, (Fin.bnd (show Fin Z H G io de σ W ((ev T C de ir S).bnd _) _ from h)).imp fun d S1 k H1 G1 io1 pl1 p s1 R1 ow n g h0 f => ?_⟩
  obtain ⟨pl2, R2, s2, ip⟩ := ow.boxed R1 s1 n g h0 f
  have k : ∀ H' G' io' pl' v, Step H G io H' G' io' → Rel Z H' G' io' pl' (S1 ++ [d]) de σ → Rep Z G' io' v (.box S1.length) → Q v H' := k
  exact k H1 G1 _ pl2 _ s2 R2 (.box ip)
theorem s_lcb {stm : Stmt} {te : TE} (h : PS X stm (tAsg (tN A.Z T C W ir) (gName i))) : PS X stm (tS A.Z T C W N (.set (.gn i) (.boxed ir))) := s_asg h (fun _ _ _ z => tEb_tN z) fun _ _ _ _ z => tG_gn z
theorem tF_v {e : Expr} (h : PE X e (tE A.Z T C W ir)) : PE X e (tF A.Z T C W false ir) := h
theorem tF_o {e : Expr} (h : PE X e (tN A.Z T C W ir)) : PE X e (tF A.Z T C W true ir) := h
theorem lc1 {j : Nat} (h : locB Nn sc (fun _ => false) i x = true) (c : Cxo A k Nn sc fc X) : X.N[i]? = some x ∧ X.env.scope.names.lookup x = some .local := by
  unfold locB at h
  simp only [Bool.and_eq_true, Bool.or_eq_true, decide_eq_true_eq, Bool.false_eq_true, and_false, or_false] at h
  rw [c.cN, c.csc]
  exact ⟨h.1, lkB_ok h.2⟩
theorem Cxo.par2 (c : Cxo A k Nn sc fc X) {j : Nat} {y : Str} {fi fj : Bool} {a b : Expr} {es : IR} {px py pt : Pos} {kt k2 : Nat} {pt2 : Pos} (hi : locB Nn sc (fun _ => false) i x = true) (hj : locB Nn sc (fun _ => false) j y = true) (hij : i ≠ j) (ha : PA X [a, b] (tFs A.Z T C W [(i, fi), (j, fj)] es)) (ok : parOk [(i, fi), (j, fj)] es = true)
    (hw : swappedStores [.Tuple [.Name x px, .Name y py] kt pt] (.Tuple [a, b] k2 pt2) (dumE sc) = pure (some [x, y])) (hs : swapsWithSole [.Tuple [.Name x px, .Name y py] kt pt] (.Tuple [a, b] k2 pt2) pos.line (dumE sc) = pure false) : PS X (.Assign [.Tuple [.Name x px, .Name y py] kt pt] (.Tuple [a, b] k2 pt2) pos) (tS A.Z T C W N (.par [(i, fi), (j, fj)] es)) := s_par2 (ps_par c.calm c.ndx (lc1 (j := j) hi c).1 (lc1 (j := j) hj c).1 hij (lc1 (j := j) hi c).2 (lc1 (j := j) hj c).2 ha (c.swd hw) (c.sws hs)) ok
theorem Cxo.par3 (c : Cxo A k Nn sc fc X) {j l : Nat} {y z : Str} {fi fj fl : Bool} {a b d : Expr} {es : IR} {px py pz pt : Pos} {kt k2 : Nat} {pt2 : Pos} (hi : locB Nn sc (fun _ => false) i x = true) (hj : locB Nn sc (fun _ => false) j y = true) (hl : locB Nn sc (fun _ => false) l z = true) (hij : i ≠ j) (hil : i ≠ l) (hjl : j ≠ l) (ha : PA X [a, b, d] (tFs A.Z T C W [(i, fi), (j, fj), (l, fl)] es)) (ok : parOk [(i, fi), (j, fj), (l, fl)] es = true)
    (hw : swappedStores [.Tuple [.Name x px, .Name y py, .Name z pz] kt pt] (.Tuple [a, b, d] k2 pt2) (dumE sc) = pure (some [x, y, z])) (hs : swapsWithSole [.Tuple [.Name x px, .Name y py, .Name z pz] kt pt] (.Tuple [a, b, d] k2 pt2) pos.line (dumE sc) = pure false) : PS X (.Assign [.Tuple [.Name x px, .Name y py, .Name z pz] kt pt] (.Tuple [a, b, d] k2 pt2) pos) (tS A.Z T C W N (.par [(i, fi), (j, fj), (l, fl)] es)) := s_par3 (ps_par3 c.calm c.ndx (lc1 (j := j) hi c).1 (lc1 (j := j) hj c).1 (lc1 (j := j) hl c).1 hij hil hjl (lc1 (j := j) hi c).2 (lc1 (j := j) hj c).2 (lc1 (j := j) hl c).2 ha (c.swd hw) (c.sws hs)) ok
theorem Cxo.bset (c : Cxo A k Nn sc fc X) {o f v : Expr} {a kk vv : IR} {pos' : Pos} (ha : PE X o (tE A.Z T C W a)) (hk : PE X f (tE A.Z T C W kk)) (hv : PE X v (tE A.Z T C W vv)) (hs : swapsWith v (some (.Subscript o f pos')) pos.line (dumE sc) = pure false) : PS X (.Assign [.Subscript o f pos'] v pos) (tS A.Z T C W N (.bset a kk vv)) := s_bset (ps_dput c.u1 ha hk hv (c.sw hs))
theorem Cxo.oset (c : Cxo A k Nn sc fc X) {f v : Expr} {kk vv : IR} {pos' : Pos} (h : visB Nn sc i x = true) (hk : PE X f (tE A.Z T C W kk)) (hv : PE X v (tE A.Z T C W vv)) (hs : swapsWith v (some (.Subscript (.Name x p) f pos')) pos.line (dumE sc) = pure false) : PS X (.Assign [.Subscript (.Name x p) f pos'] v pos) (tS A.Z T C W N (.oset i kk vv)) := s_oset (ps_dput c.u1 (c.var h) hk hv (c.sw hs))
theorem Cxo.xpr (c : Cxo A k Nn sc fc X) (he : PE X e (tE A.Z T C W ir)) (hs : swapsWith e none pos.line X.env = pure false := by rfl) : PS X (.Expr e pos) (tS A.Z T C W N (.xpr ir)) := s_xpr (ps_expr he hs) fun _ _ _ z => z
theorem Cxo.ret (c : Cxo A k Nn sc fc X) (he : PE X e (tE A.Z T C W ir)) : PS X (.Return (some e) pos) (tS A.Z T C W N (.rt ir)) := s_rt (ps_ret he) fun _ _ _ z => z
theorem Cxo.cond (c : Cxo A k Nn sc fc X) {a b : List Stmt} {t u v : IR} (hc : PT X e (tT A.Z T C W t)) (ha : PSs X a (tSs A.Z T C W N u)) (hb : PSs X b (tSs A.Z T C W N v)) : PS X (.If e a b pos) (tS A.Z T C W N (.cond t u v)) := s_cond (ps_if hc ha hb) (fun _ _ _ z => z) (fun _ _ _ z => z) fun _ _ _ z => z
theorem Cxo.forl (c : Cxo A k Nn sc fc X) {tg : Expr} {body : List Stmt} {it b : IR} (hi : PI X tg e (tI A.Z T C W it)) (hg : PG X tg (tG A.Z g)) (hb : PSs X body (tSs A.Z T C W N b)) (hs : ∀ x, foldedSetIterable e X.env x = pure x := by intro _; rfl) : PS X (.For tg e body [] pos) (tS A.Z T C W N (.forl g it b)) := s_forl (ps_for c.own c.calm hi hg hb hs) (fun _ _ _ z => z) (fun _ _ _ _ z => z) fun _ _ _ z => z
theorem Cxo.whl (c : Cxo A k Nn sc fc X) {body : List Stmt} {t b : IR} (hc : PT X e (tT A.Z T C W t)) (hb : PSs X body (tSs A.Z T C W N b)) : PS X (.While e body [] pos) (tS A.Z T C W N (.whl t b)) := s_whl (ps_while c.own hc hb) (fun _ _ _ z => z) fun _ _ _ z => z
theorem Cxo.app (c : Cxo A k Nn sc fc X) {pp apos cpos : Pos} (h : visB Nn sc i x = true) (he : PE X e (tE A.Z T C W ir)) (hbase : attributeBase (.Name x pp) "append" X.env (eval (.Name x pp) X.env) = eval (.Name x pp) X.env := by rfl)
    (hfew : ((backTo cpos (starEach [e] X.env)).all (fun x => !x.1) && (backToKw cpos (keywordEach [] X.env)).all (fun x => x.1.isSome)
      && decide ([e].length + ([] : List Keyword).length + (if ([] : List Keyword).isEmpty then 0 else 1) < 30)) = true := by rfl)
    (hline : (apos.endLine == cpos.line) = true := by rfl) (hs : starEach [e] X.env = (false, eval e X.env) :: starEach [] X.env := by rfl) (hplain : (backTo cpos (starEach [] X.env)).any (·.1) = false := by rfl) (hsw : swapsWith (.Call (.Attribute (.Name x pp) "append" apos) [e] [] cpos) none pos.line X.env = pure false := by rfl) : PS X (.Expr (.Call (.Attribute (.Name x pp) "append" apos) [e] [] cpos) pos) (tS A.Z T C W N (.app i ir)) :=
  s_app (ps_expr (pe_bm PySem.F.plainAttrs_list PySem.F.slot_list_append PySem.F.type_list_append mt_append (c.var h) (pa_cons he pa_nil hs) hbase hfew hline hs hplain) hsw)
end

/-! ### a def -/
theorem ok_fn {i : Nat} {x qual : Str} {params : Arguments} {body : List Stmt} {scope : Scope} {kws : List (Str × V)} {ps : List Str} {fe : Fe} (F : FunD A.Z.K x qual params body scope [] kws (A.fad i) (A.fdd i)) (S : FnScope Nn ps scope) (hT : T.fns[i]? = some fe) (hs : fe.slots = Nn.length) (ha : fe.arity = ps.length)
    (hb : ∀ (X : Cx) (E : XK), Cxo A k Nn scope (fun _ => true) X → PSs X body (tSs A.Z T (callF T N k) (WE E) N fe.body)) : FnOk A.P A.w A.Z.K A.mg A.base CX0 (k + 1) (A.fad i) (A.fdd i) ps (spD A.Z (callF T N (k + 1)) i ps.length) := by
  refine F.ok S (fun vs H Q E h => h.1) fun cdv Ar outer s H vs Q E hr h => ⟨_, PSs.nox (hb _ E ⟨rfl, S.nd, rfl, S.kind, rfl, rfl, rfl, rfl, rfl, rfl, fun _ _ => rfl, hr, PassesOwn.never⟩), ?_⟩
  refine body_go (body := body) (fun _ _ _ _ z => z) (fun _ _ _ _ z => z) (C' := callF T N (k + 1)) (fun ds => ?_) hs ha h
  show (match T.fns[i]? with | some fe => run1 T N (callF T N k) fe ds | none => fail) = _
  rw [hT]
end
end Y
/-! Y15: all levels; the law's call. -/
namespace Y
open PySem L2

section
variable {A : Wd} {T : Tb} {N k : Nat}
theorem lvl_zero : lvl A T N 0 := fun i ps h => ⟨fun vs H Q E q => q.1, fun Ar outer s H args us vs Q E hr he hb hv q => by
  obtain ⟨_, G, io, pl, S, ds, R, r, h⟩ := q
  exact h.elim⟩
/-- the law's def at a script -/
theorem sp_law {Z : Zc} {C : Calls} {li : Nat} {a : Addr} {ns : List Int} {H : Hp} {E : XK} (hS : SqL Z.K H a (ns.map V.int)) {f : Bool} {S' : Store} (h : C li [.ro (ns.map .int)] [] = .ok (.bl true, f) S') : spD Z C li 1 [.ref a] H (fun v _ => v = .bl true) E := by
  have rs : ∀ (G : Hp) (ns : List Int), Reps Z G [] (ns.map V.int) (ns.map D.int) := fun G ns => by
    induction ns with
    | nil => exact .nil
    | cons n ns ih => exact .cons (.int n) ih
  refine ⟨rfl, fun b => if b = a then H a else none, [], fun _ => none, [], [.ro (ns.map .int)], ⟨fun b u hb => ?_, rfl, fun i e h => by simp at h, rfl, fun n d hd => by simp at hd, fun b hb => absurd rfl hb⟩, .cons (.ro (.inl ?_) (rs _ ns)) .nil, ?_⟩
  · have hb : (if b = a then H a else none) = some u := hb
    by_cases e : b = a
    · subst e
      rw [if_pos rfl] at hb
      exact .inl hb
    · rw [if_neg e] at hb
      cases hb
  · rcases hS with (h | ⟨o, h⟩) | h
    · exact .inl (.inl (by show (if a = a then H a else none) = _; rw [if_pos rfl]; exact h))
    · exact .inl (.inr ⟨o, by show (if a = a then H a else none) = _; rw [if_pos rfl]; exact h⟩)
    · exact .inr h
  · rw [h]
    intro H' G' io' pl' v s R' r
    cases r
    rfl
end
end Y
namespace G
open PySem PySem.Spec PyProof.Rows L2 Y
def top (i : Nat) : Stmt := PySem.Challenge.pw_onlydeeper_k03_fewest_strokes.main.body.getD i (.Pass ⟨0, 0, 0, 0⟩)
def names : List Str := (["is_filing", "deepest_breaks", "filed_to_open", "reachable", "_law_begun", "_law_mixed", "_law_take", "_law_pick", "_law_shuffled", "_law_every", "_law_cuts", "_law_gaps", "_law_below", "_law_shape", "law"] : List Str)
def pars : List (List Str) := [["key", "other"], ["lock"], ["key", "lock"], ["key", "locks"], ["_law_script"], ["_law_draw"], ["_law_draw", "_law_size"], ["_law_draw", "_law_items"], ["_law_draw", "_law_items"], ["_law_size", "_law_far"], ["_law_draw", "_law_size", "_law_far"], ["_law_draw", "_law_size", "_law_far"], ["_law_one", "_law_other"], ["_law_draw", "_law_most"], ["_law_script"]]
def frees : List Str := (["all", "zip", "tuple", "sorted", "abs", "len", "list", "range", "min", "dict", "int"] : List Str)
abbrev N0 : List Str := (["key", "other", "before", "deep"] : List Str)
def ir0 : IR := (.cons (.rt (.bi .all (.cons (.lc [2, 3] (.gt (.cons (.gn 2) (.cons (.gn 3) .nil))) (.zip (.var 0) (.var 1)) (.kb true) (.o2 .ge (.var 3) (.var 2))) .nil)))
  .nil)
def fe0 : Fe := ⟨2, 4, ir0⟩
abbrev N1 : List Str := (["lock", "breaks"] : List Str)
def ir1 : IR := (.cons (.rt (.bi .tuple (.cons (.lc [1] (.gn 1) (.iv (.var 0)) (.kb true) (.idx (.var 1) (.neg (.ki 1)))) .nil)))
  .nil)
def fe1 : Fe := ⟨1, 2, ir1⟩
abbrev N2 : List Str := (["key", "lock", "found", "cut", "breaks", "usable", "depth"] : List Str)
def ir2 : IR := (.cons (.seto 2 (.lst .nil))
  (.cons (.forl (.gt (.cons (.gn 3) (.cons (.gn 4) .nil))) (.zip (.var 0) (.var 1))
 (.cons (.set (.gn 5) (.lc [6] (.gn 6) (.iv (.var 4)) (.tb (.o2 .ge (.var 6) (.var 3))) (.var 6)))
  (.cons (.cond (.tb (.o2 .eq (.var 5) (.lst .nil)))
 (.cons (.rt .kn)
  .nil)
 .nil)
  (.cons (.app 2 (.idx (.var 5) (.ki 0)))
  .nil))))
  (.cons (.rt (.bi .tuple (.cons (.own 2) .nil)))
  .nil)))
def fe2 : Fe := ⟨2, 7, ir2⟩
abbrev N3 : List Str := (["key", "locks", "name", "lock"] : List Str)
def ir3 : IR := (.cons (.rt (.bi .sorted (.cons (.lc [2, 3] (.gt (.cons (.gn 2) (.cons (.gn 3) .nil))) (.items (.var 1)) (.tt (.call 0 (.cons (.var 0) (.cons (.call 1 (.cons (.var 3) .nil)) .nil)))) (.var 2)) .nil)))
  .nil)
def fe3 : Fe := ⟨2, 4, ir3⟩
abbrev N4 : List Str := (["_law_script", "_law_large", "_law_cell"] : List Str)
def ir4 : IR := (.cons (.set (.gn 1) (.boxed (.lc [2] (.gn 2) (.iv (.var 0)) (.tb (.o2 .ge (.bi .abs (.cons (.var 2) .nil)) (.o2 .pow (.ki 10) (.ki 18)))) (.o2 .sub (.bi .abs (.cons (.var 2) .nil)) (.o2 .pow (.ki 10) (.ki 18))))))
  (.cons (.rt (.boxed (.dct (.cons (.ks "large") (.cons (.var 1) (.cons (.ks "cells") (.cons (.lc [2] (.gn 2) (.iv (.var 0)) (.kb true) (.o2 .mod (.bi .abs (.cons (.var 2) .nil)) (.ki 2147483629))) (.cons (.ks "rest") (.cons (.ki 0) (.cons (.ks "turn") (.cons (.ki 0) .nil)))))))))))
  .nil))
def fe4 : Fe := ⟨1, 3, ir4⟩
abbrev N5 : List Str := (["_law_draw", "_law_turn", "_law_found", "_law_prime", "_law_blend", "_law_cell"] : List Str)
def ir5 : IR := (.cons (.set (.gn 1) (.o2 .add (.idx (.var 0) (.ks "turn")) (.ki 1)))
  (.cons (.bset (.var 0) (.ks "turn") (.var 1))
  (.cons (.set (.gn 2) (.ki 0))
  (.cons (.forl (.gn 3) (.iv (.lst (.cons (.ki 2147483629) (.cons (.ki 2147483587) (.cons (.ki 2147483579) (.cons (.ki 2147483563) .nil))))))
 (.cons (.set (.gn 4) (.o2 .add (.o2 .mul (.ki 104729) (.var 1)) (.o2 .fdiv (.var 3) (.ki 7))))
  (.cons (.forl (.gn 5) (.iv (.idx (.var 0) (.ks "cells")))
 (.cons (.set (.gn 4) (.o2 .mod (.o2 .add (.o2 .add (.o2 .mul (.var 4) (.ki 48271)) (.var 5)) (.var 1)) (.var 3)))
  .nil))
  (.cons (.set (.gn 2) (.o2 .add (.o2 .mul (.var 2) (.ki 2147483647)) (.o2 .mod (.o2 .pow (.var 4) (.ki 5)) (.var 3))))
  .nil))))
  (.cons (.rt (.var 2))
  .nil)))))
def fe5 : Fe := ⟨1, 6, ir5⟩
abbrev N6 : List Str := (["_law_draw", "_law_size", "_law_found"] : List Str)
def ir6 : IR := (.cons (.cond (.tand (.tb (.o2 .eq (.idx (.var 0) (.ks "rest")) (.ki 0))) (.tb (.o2 .ne (.idx (.var 0) (.ks "large")) (.lst .nil))))
 (.cons (.bset (.var 0) (.ks "rest") (.bpop (.idx (.var 0) (.ks "large")) (.cons (.ki 0) .nil)))
  .nil)
 (.cons (.cond (.tb (.o2 .eq (.idx (.var 0) (.ks "rest")) (.ki 0)))
 (.cons (.bset (.var 0) (.ks "rest") (.call 5 (.cons (.var 0) .nil)))
  .nil)
 .nil)
  .nil))
  (.cons (.set (.gn 2) (.o2 .mod (.idx (.var 0) (.ks "rest")) (.var 1)))
  (.cons (.bset (.var 0) (.ks "rest") (.o2 .fdiv (.idx (.var 0) (.ks "rest")) (.var 1)))
  (.cons (.rt (.var 2))
  .nil))))
def fe6 : Fe := ⟨2, 3, ir6⟩
abbrev N7 : List Str := (["_law_draw", "_law_items"] : List Str)
def ir7 : IR := (.cons (.rt (.idx (.var 1) (.call 6 (.cons (.var 0) (.cons (.bi .len (.cons (.var 1) .nil)) .nil)))))
  .nil)
def fe7 : Fe := ⟨2, 2, ir7⟩
abbrev N8 : List Str := (["_law_draw", "_law_items", "_law_left", "_law_found"] : List Str)
def ir8 : IR := (.cons (.par [(2, false), (3, true)] (.cons (.boxed (.bi .list (.cons (.var 1) .nil))) (.cons (.lst .nil) .nil)))
  (.cons (.whl (.tb (.o2 .ne (.var 2) (.lst .nil)))
 (.cons (.app 3 (.bpop (.var 2) (.cons (.call 6 (.cons (.var 0) (.cons (.bi .len (.cons (.var 2) .nil)) .nil))) .nil)))
  .nil))
  (.cons (.free 3) (.cons (.rt (.var 3))
  .nil))))
def fe8 : Fe := ⟨2, 4, ir8⟩
abbrev N9 : List Str := (["_law_size", "_law_far", "_law_found", "_law_turn", "_law_later", "_law_some", "_law_cut"] : List Str)
def ir9 : IR := (.cons (.set (.gn 2) (.lst (.cons (.tup .nil) .nil)))
  (.cons (.forl (.gn 3) (.ir1 (.var 0))
 (.cons (.set (.gn 4) (.lst .nil))
  (.cons (.forl (.gn 5) (.iv (.var 2))
 (.cons (.set (.gn 4) (.o2 .add (.var 4) (.lc [6] (.gn 6) (.ir1 (.var 1)) (.kb true) (.o2 .add (.var 5) (.tup (.cons (.var 6) .nil))))))
  .nil))
  (.cons (.set (.gn 2) (.var 4))
  .nil))))
  (.cons (.rt (.var 2))
  .nil)))
def fe9 : Fe := ⟨2, 7, ir9⟩
abbrev N10 : List Str := (["_law_draw", "_law_size", "_law_far", "_law_turn"] : List Str)
def ir10 : IR := (.cons (.rt (.bi .tuple (.cons (.lc [3] (.gn 3) (.ir1 (.var 1)) (.kb true) (.call 6 (.cons (.var 0) (.cons (.var 2) .nil)))) .nil)))
  .nil)
def fe10 : Fe := ⟨3, 4, ir10⟩
abbrev N11 : List Str := (["_law_draw", "_law_size", "_law_far", "_law_found", "_law_turn", "_law_some", "_law_depth"] : List Str)
def ir11 : IR := (.cons (.seto 3 (.lst .nil))
  (.cons (.forl (.gn 4) (.ir1 (.var 1))
 (.cons (.set (.gn 5) (.lc [6] (.gn 6) (.ir1 (.var 2)) (.tb (.o2 .eq (.call 6 (.cons (.var 0) (.cons (.ki 3) .nil))) (.ki 0))) (.var 6)))
  (.cons (.app 3 (.ife (.tb (.o2 .ne (.var 5) (.lst .nil))) (.bi .tuple (.cons (.var 5) .nil)) (.tup (.cons (.call 6 (.cons (.var 0) (.cons (.var 2) .nil))) .nil))))
  .nil)))
  (.cons (.rt (.bi .tuple (.cons (.own 3) .nil)))
  .nil)))
def fe11 : Fe := ⟨3, 7, ir11⟩
abbrev N12 : List Str := (["_law_one", "_law_other", "_law_a", "_law_b"] : List Str)
def ir12 : IR := (.cons (.rt (.o2 .eq (.lc [2, 3] (.gt (.cons (.gn 2) (.cons (.gn 3) .nil))) (.zip (.var 0) (.var 1)) (.tb (.o2 .lt (.var 3) (.var 2))) (.ki 1)) (.lst .nil)))
  .nil)
def fe12 : Fe := ⟨2, 4, ir12⟩
abbrev N13 : List Str := (["_law_draw", "_law_most", "_law_some", "_law_found", "_law_size", "_law_far", "_law_many", "_law_turn"] : List Str)
def ir13 : IR := (.cons (.set (.gn 2) (.lst (.cons (.tup (.cons (.ki 1) (.cons (.ki 2) .nil))) (.cons (.tup (.cons (.ki 1) (.cons (.ki 10) .nil))) (.cons (.tup (.cons (.ki 2) (.cons (.ki 3) .nil))) (.cons (.tup (.cons (.ki 3) (.cons (.ki 2) .nil))) (.cons (.tup (.cons (.ki 2) (.cons (.ki 5) .nil))) (.cons (.tup (.cons (.ki 3) (.cons (.ki 4) .nil))) (.cons (.tup (.cons (.ki 4) (.cons (.ki 3) .nil))) (.cons (.tup (.cons (.ki 6) (.cons (.ki 2) .nil))) (.cons (.tup (.cons (.ki 2) (.cons (.ki 10) .nil))) (.cons (.tup (.cons (.ki 5) (.cons (.ki 2) .nil))) (.cons (.tup (.cons (.ki 4) (.cons (.ki 5) .nil))) (.cons (.tup (.cons (.ki 3) (.cons (.ki 7) .nil))) .nil))))))))))))))
  (.cons (.seto 3 (.lst .nil))
  (.cons (.forl (.gt (.cons (.gn 4) (.cons (.gn 5) .nil))) (.iv (.var 2))
 (.cons (.set (.gn 6) (.ki 1))
  (.cons (.forl (.gn 7) (.ir1 (.var 4))
 (.cons (.set (.gn 6) (.o2 .mul (.var 6) (.var 5)))
  .nil))
  (.cons (.cond (.tb (.o2 .le (.var 6) (.var 1)))
 (.cons (.app 3 (.tup (.cons (.var 4) (.cons (.var 5) .nil))))
  .nil)
 .nil)
  .nil))))
  (.cons (.free 3) (.cons (.rt (.call 7 (.cons (.var 0) (.cons (.var 3) .nil))))
  .nil)))))
def fe13 : Fe := ⟨2, 8, ir13⟩
abbrev N14 : List Str := (["_law_script", "_law_draw", "_law_lap", "_law_some", "_law_due", "_law_rows", "_law_size", "_law_far", "_law_cuts_here", "_law_every_here", "_law_names", "_law_name", "_law_gaps_here", "_law_good", "_law_found", "_law_numbers", "_law_other", "_law_depth", "_law_cut", "_law_breaks", "_law_row", "_law_a", "_law_b"] : List Str)
def ir14 : IR := (.cons (.set (.gn 1) (.call 4 (.cons (.var 0) .nil)))
  (.cons (.forl (.gn 2) (.ir1 (.ki 6))
 (.cons (.set (.gt (.cons (.gn 6) (.cons (.gn 7) .nil))) (.call 13 (.cons (.var 1) (.cons (.ki 300) .nil))))
  (.cons (.set (.gt (.cons (.gn 8) (.cons (.gn 9) (.cons (.gn 10) .nil)))) (.tup (.cons (.call 10 (.cons (.var 1) (.cons (.var 6) (.cons (.var 7) .nil)))) (.cons (.call 9 (.cons (.var 6) (.cons (.var 7) .nil))) (.cons (.lst (.cons (.ks "safe") (.cons (.ks "hall") (.cons (.ks "a") (.cons (.ks "yard") (.cons (.ks "zz") .nil)))))) .nil)))))
  (.cons (.set (.gn 3) (.lc [11] (.gn 11) (.iv (.sli (.call 8 (.cons (.var 1) (.cons (.var 10) .nil))) .nil (.cons (.call 6 (.cons (.var 1) (.cons (.ki 6) .nil))) .nil))) (.kb true) (.tup (.cons (.var 11) (.cons (.call 11 (.cons (.var 1) (.cons (.var 6) (.cons (.var 7) .nil)))) .nil)))))
  (.cons (.seto 4 (.lst .nil))
  (.cons (.forl (.gt (.cons (.gn 11) (.cons (.gn 12) .nil))) (.iv (.var 3))
 (.cons (.set (.gn 13) (.lc [16] (.gn 16) (.iv (.var 9)) (.tt (.call 12 (.cons (.var 8) (.cons (.var 16) .nil)))) (.var 16)))
  (.cons (.set (.gn 13) (.lc [16] (.gn 16) (.iv (.var 13)) (.tb (.o2 .eq (.lc [18, 19] (.gt (.cons (.gn 18) (.cons (.gn 19) .nil))) (.zip (.var 16) (.var 12)) (.tb (.o2 .nin (.var 18) (.var 19))) (.ki 1)) (.lst .nil))) (.var 16)))
  (.cons (.set (.gn 14) (.call 2 (.cons (.var 8) (.cons (.var 12) .nil))))
  (.cons (.cond (.tb (.o2 .ne (.o2 .isN (.var 14) .kn) (.o2 .eq (.var 13) (.lst .nil))))
 (.cons (.rt (.kb false))
  .nil)
 .nil)
  (.cons (.cond (.tb (.o2 .ne (.var 13) (.lst .nil)))
 (.cons (.app 4 (.var 11))
  (.cons (.seto 15 (.lst .nil))
  (.cons (.forl (.gn 16) (.iv (.var 13))
 (.cons (.app 15 (.bi .len (.cons (.lc [21, 22] (.gt (.cons (.gn 21) (.cons (.gn 22) .nil))) (.zip (.var 8) (.var 16)) (.tb (.o2 .ne (.var 21) (.var 22))) (.ki 1)) .nil)))
  .nil))
  (.cons (.cond (.tb (.o2 .nin (.var 14) (.var 13)))
 (.cons (.rt (.kb false))
  .nil)
 .nil)
  (.cons (.cond (.tb (.o2 .ne (.bi .len (.cons (.lc [21, 22] (.gt (.cons (.gn 21) (.cons (.gn 22) .nil))) (.zip (.var 8) (.var 14)) (.tb (.o2 .ne (.var 21) (.var 22))) (.ki 1)) .nil)) (.bi .minl (.cons (.own 15) .nil))))
 (.cons (.rt (.kb false))
  .nil)
 .nil)
  (.cons (.cond (.tb (.o2 .ne (.lc [16] (.gn 16) (.iv (.var 13)) (.tnot (.tt (.call 12 (.cons (.var 14) (.cons (.var 16) .nil))))) (.var 16)) (.lst .nil)))
 (.cons (.rt (.kb false))
  .nil)
 .nil)
  .nil))))))
 .nil)
  .nil))))))
  (.cons (.cond (.tb (.o2 .ne (.callk 3 .nil (.cons (.bi .dict (.cons (.var 3) .nil)) (.cons (.var 8) .nil)) [1, 0]) (.bi .sorted (.cons (.own 4) .nil))))
 (.cons (.rt (.kb false))
  .nil)
 .nil)
  (.cons (.set (.gt (.cons (.gn 8) (.cons (.gn 12) .nil))) (.tup (.cons (.call 10 (.cons (.var 1) (.cons (.ki 6) (.cons (.ki 10) .nil)))) (.cons (.call 11 (.cons (.var 1) (.cons (.ki 6) (.cons (.ki 10) .nil)))) .nil))))
  (.cons (.set (.gn 5) (.lc [18, 19] (.gt (.cons (.gn 18) (.cons (.gn 19) .nil))) (.zip (.var 8) (.var 12)) (.kb true) (.lc [17] (.gn 17) (.iv (.var 19)) (.tb (.o2 .ge (.var 17) (.var 18))) (.var 17))))
  (.cons (.cond (.tb (.o2 .ne (.call 2 (.cons (.var 8) (.cons (.var 12) .nil))) (.ife (.tb (.o2 .isin (.lst .nil) (.var 5))) .kn (.bi .tuple (.cons (.lc [20] (.gn 20) (.iv (.var 5)) (.kb true) (.idx (.var 20) (.ki 0))) .nil)))))
 (.cons (.rt (.kb false))
  .nil)
 .nil)
  (.cons (.cond (.tb (.o2 .ne (.call 3 (.cons (.var 8) (.cons (.dct (.cons (.ks "wide") (.cons (.var 12) .nil))) .nil))) (.o2 .mul (.lst (.cons (.ks "wide") .nil)) (.bi .int (.cons (.o2 .nin (.lst .nil) (.var 5)) .nil)))))
 (.cons (.rt (.kb false))
  .nil)
 .nil)
  .nil)))))))))))
  (.cons (.rt (.kb true))
  .nil)))
def fe14 : Fe := ⟨1, 23, ir14⟩
def T : Tb := ⟨[fe0, fe1, fe2, fe3, fe4, fe5, fe6, fe7, fe8, fe9, fe10, fe11, fe12, fe13, fe14], [], []⟩
section
variable {Z : Zc} {P : Program} {w : World} {mg : Str → Option Value} {base : Heap} {fad : Nat → Addr} {fdd : Nat → FuncData} {N k : Nat}
abbrev Aw (Z : Zc) (P : Program) (w : World) (mg : Str → Option Value) (base : Heap) (fad : Nat → Addr) (fdd : Nat → FuncData) : Wd := ⟨Z, P, w, mg, base, names, pars, frees, fad, fdd⟩
abbrev HK0 (Z : Zc) (fdd : Nat → FuncData) : Prop := KBn Z.K (fdd 3) ["key", "locks"] 0 (["locks", "key"] : List Str) (permL [1, 0]) (permL [1, 0])
theorem b0 (ok : WdOk (Aw Z P w mg base fad fdd)) (L : lvl (Aw Z P w mg base fad fdd) T N k)  (X : Cx) (E : XK) (c : Cxo (Aw Z P w mg base fad fdd) k N0 (defScope (top 1)) (fun _ => true) X) : PSs X (defBody (top 1)) (tSs Z T (callF T N k) (WE E) N ir0) :=
 (ss_cons (c.ret (c.all ok (i := 0) (by kernel_rfl) (s_ocons (tE_tO (tN_tE (c.lc (own := [("before", 2), ("deep", 3)]) (c.zip ok (i := 1) (by kernel_rfl) (s_var (c.var (i := 0) (by kernel_rfl))) (s_var (c.var (i := 1) (by kernel_rfl)))) (by kernel_rfl) (by decide) (fun _ c1 => (c1.gtt (s_gcons (c1.gn (i := 2) (by kernel_rfl)) (s_gcons (c1.gn (i := 3) (by kernel_rfl)) s_gnil)))) (fun _ c1 => pts_nil) tt_none (fun _ c1 => (e_cmp c1.ge (tE_tO (s_var (c1.var (i := 3) (by kernel_rfl)))) (tE_tO (s_var (c1.var (i := 2) (by kernel_rfl))))))))) s_onil (by rfl))))
  ss_nil)
theorem b1 (ok : WdOk (Aw Z P w mg base fad fdd)) (L : lvl (Aw Z P w mg base fad fdd) T N k)  (X : Cx) (E : XK) (c : Cxo (Aw Z P w mg base fad fdd) k N1 (defScope (top 2)) (fun _ => true) X) : PSs X (defBody (top 2)) (tSs Z T (callF T N k) (WE E) N ir1) :=
 (ss_cons (c.ret (c.tuple ok (i := 2) (by kernel_rfl) (s_ocons (tE_tO (tN_tE (c.lc (own := [("breaks", 1)]) (c.iv (s_var (c.var (i := 0) (by kernel_rfl)))) (by kernel_rfl) (by decide) (fun _ c1 => (s_gn (c1.gn (i := 1) (by kernel_rfl)))) (fun _ c1 => pts_nil) tt_none (fun _ c1 => (c1.idx (tE_tO (s_var (c1.var (i := 1) (by kernel_rfl)))) (s_neg e_int)))))) s_onil (by rfl))))
  ss_nil)
theorem b2 (ok : WdOk (Aw Z P w mg base fad fdd)) (L : lvl (Aw Z P w mg base fad fdd) T N k)  (X : Cx) (E : XK) (c : Cxo (Aw Z P w mg base fad fdd) k N2 (defScope (top 3)) (fun _ => true) X) : PSs X (defBody (top 3)) (tSs Z T (callF T N k) (WE E) N ir2) :=
 (ss_cons (c.seto (i := 2) (by kernel_rfl) (n_lst s_lnil) (by kernel_rfl))
  (ss_cons (c.forl (c.zip ok (i := 1) (by kernel_rfl) (s_var (c.var (i := 0) (by kernel_rfl))) (s_var (c.var (i := 1) (by kernel_rfl)))) (c.gtt (s_gcons (c.gn (i := 3) (by kernel_rfl)) (s_gcons (c.gn (i := 4) (by kernel_rfl)) s_gnil)))
 (ss_cons (s_lcv (te := tC .non) (c.setLc (i := 5) (own := [("depth", 6)]) (c.iv (s_var (c.var (i := 4) (by kernel_rfl)))) (by kernel_rfl) (by decide) (fun _ c1 => (s_gn (c1.gn (i := 6) (by kernel_rfl)))) (fun _ c1 => pts_one (e_cmpT c1.ge (tE_tO (s_var (c1.var (i := 6) (by kernel_rfl)))) (tE_tO (s_var (c1.var (i := 3) (by kernel_rfl)))))) (fun _ _ _ q => q) (fun _ c1 => (s_var (c1.var (i := 6) (by kernel_rfl)))) (by kernel_rfl) rfl (by kernel_rfl)))
  (ss_cons (c.cond (e_cmpT c.eq (tE_tO (s_var (c.var (i := 5) (by kernel_rfl)))) (tE_tO (tN_tE (n_lst s_lnil))))
 (ss_cons (c.ret (e_none (j := none)))
  ss_nil)
 ss_nil)
  (ss_cons (c.app (i := 2) (by kernel_rfl) (c.idx (tE_tO (s_var (c.var (i := 5) (by kernel_rfl)))) e_int))
  ss_nil))))
  (ss_cons (c.ret (c.tuple ok (i := 2) (by kernel_rfl) (s_ocons (s_own (c.var (i := 2) (by kernel_rfl))) s_onil (by rfl))))
  ss_nil)))
theorem b3 (ok : WdOk (Aw Z P w mg base fad fdd)) (L : lvl (Aw Z P w mg base fad fdd) T N k)  (X : Cx) (E : XK) (c : Cxo (Aw Z P w mg base fad fdd) k N3 (defScope (top 4)) (fun _ => true) X) : PSs X (defBody (top 4)) (tSs Z T (callF T N k) (WE E) N ir3) :=
 (ss_cons (c.ret (tN_tE (c.sorted ok (i := 3) (by kernel_rfl) (s_ocons (tE_tO (tN_tE (c.lc (own := [("name", 2), ("lock", 3)]) (s_items (s_var (c.var (i := 1) (by kernel_rfl))) rfl rfl) (by kernel_rfl) (by decide) (fun _ c1 => (c1.gtt (s_gcons (c1.gn (i := 2) (by kernel_rfl)) (s_gcons (c1.gn (i := 3) (by kernel_rfl)) s_gnil)))) (fun _ c1 => pts_one (t_tru c1 (tE_tO (c1.call ok L (i := 0) (by kernel_rfl) rfl (by kernel_rfl) (s_lcons (s_var (c1.var (i := 0) (by kernel_rfl))) (s_lcons (c1.call ok L (i := 1) (by kernel_rfl) rfl (by kernel_rfl) (s_lcons (s_var (c1.var (i := 3) (by kernel_rfl))) s_lnil (by rfl))) s_lnil (by rfl)) (by rfl)))))) (fun _ _ _ q => q) (fun _ c1 => (s_var (c1.var (i := 2) (by kernel_rfl))))))) s_onil (by rfl)))))
  ss_nil)
theorem b4 (ok : WdOk (Aw Z P w mg base fad fdd)) (L : lvl (Aw Z P w mg base fad fdd) T N k)  (X : Cx) (E : XK) (c : Cxo (Aw Z P w mg base fad fdd) k N4 (defScope (top 6)) (fun _ => true) X) : PSs X (defBody (top 6)) (tSs Z T (callF T N k) (WE E) N ir4) :=
 (ss_cons (s_lcb (te := tC .non) (c.setLc (i := 1) (own := [("_law_cell", 2)]) (c.iv (s_var (c.var (i := 0) (by kernel_rfl)))) (by kernel_rfl) (by decide) (fun _ c1 => (s_gn (c1.gn (i := 2) (by kernel_rfl)))) (fun _ c1 => pts_one (e_cmpT c1.ge (tE_tO (c1.abs ok (i := 4) (by kernel_rfl) (s_ocons (tE_tO (s_var (c1.var (i := 2) (by kernel_rfl)))) s_onil (by rfl)))) (tE_tO (e_bin c1.pow (tE_tO e_int) (tE_tO e_int))))) (fun _ _ _ q => q) (fun _ c1 => (e_bin c1.sub (tE_tO (c1.abs ok (i := 4) (by kernel_rfl) (s_ocons (tE_tO (s_var (c1.var (i := 2) (by kernel_rfl)))) s_onil (by rfl)))) (tE_tO (e_bin c1.pow (tE_tO e_int) (tE_tO e_int))))) (by kernel_rfl) rfl (by kernel_rfl)))
  (ss_cons (c.ret (s_boxed (n_dct (a := (.cons (.ks "large") (.cons (.var 1) (.cons (.ks "cells") (.cons (.lc [2] (.gn 2) (.iv (.var 0)) (.kb true) (.o2 .mod (.bi .abs (.cons (.var 2) .nil)) (.ki 2147483629))) (.cons (.ks "rest") (.cons (.ki 0) (.cons (.ks "turn") (.cons (.ki 0) .nil))))))))) (pps_cons e_str (s_var (c.var (i := 1) (by kernel_rfl))) (pps_cons e_str (tN_tE (c.lc (own := [("_law_cell", 2)]) (c.iv (s_var (c.var (i := 0) (by kernel_rfl)))) (by kernel_rfl) (by decide) (fun _ c1 => (s_gn (c1.gn (i := 2) (by kernel_rfl)))) (fun _ c1 => pts_nil) tt_none (fun _ c1 => (e_bin c1.mod (tE_tO (c1.abs ok (i := 4) (by kernel_rfl) (s_ocons (tE_tO (s_var (c1.var (i := 2) (by kernel_rfl)))) s_onil (by rfl)))) (tE_tO e_int))))) (pps_cons e_str e_int (pps_cons e_str e_int pps_nil)))) rfl (by simp))))
  ss_nil))
theorem b5 (ok : WdOk (Aw Z P w mg base fad fdd)) (L : lvl (Aw Z P w mg base fad fdd) T N k)  (X : Cx) (E : XK) (c : Cxo (Aw Z P w mg base fad fdd) k N5 (defScope (top 7)) (fun _ => true) X) : PSs X (defBody (top 7)) (tSs Z T (callF T N k) (WE E) N ir5) :=
 (ss_cons (c.set (i := 1) (by kernel_rfl) (e_bin c.add (tE_tO (c.idx (tE_tO (s_var (c.var (i := 0) (by kernel_rfl)))) e_str)) (tE_tO e_int)) (by kernel_rfl))
  (ss_cons (c.bset (s_var (c.var (i := 0) (by kernel_rfl))) e_str (s_var (c.var (i := 1) (by kernel_rfl))) (by kernel_rfl))
  (ss_cons (c.set (i := 2) (by kernel_rfl) e_int (by kernel_rfl))
  (ss_cons (c.forl (c.iv (tN_tE (n_lst (s_lcons e_int (s_lcons e_int (s_lcons e_int (s_lcons e_int s_lnil (by rfl)) (by rfl)) (by rfl)) (by rfl))))) (s_gn (c.gn (i := 3) (by kernel_rfl)))
 (ss_cons (c.set (i := 4) (by kernel_rfl) (e_bin c.add (tE_tO (e_bin c.mul (tE_tO e_int) (tE_tO (s_var (c.var (i := 1) (by kernel_rfl)))))) (tE_tO (e_bin c.fdiv (tE_tO (s_var (c.var (i := 3) (by kernel_rfl)))) (tE_tO e_int)))) (by kernel_rfl))
  (ss_cons (c.forl (c.iv (c.idx (tE_tO (s_var (c.var (i := 0) (by kernel_rfl)))) e_str)) (s_gn (c.gn (i := 5) (by kernel_rfl)))
 (ss_cons (c.set (i := 4) (by kernel_rfl) (e_bin c.mod (tE_tO (e_bin c.add (tE_tO (e_bin c.add (tE_tO (e_bin c.mul (tE_tO (s_var (c.var (i := 4) (by kernel_rfl)))) (tE_tO e_int))) (tE_tO (s_var (c.var (i := 5) (by kernel_rfl)))))) (tE_tO (s_var (c.var (i := 1) (by kernel_rfl)))))) (tE_tO (s_var (c.var (i := 3) (by kernel_rfl))))) (by kernel_rfl))
  ss_nil))
  (ss_cons (c.set (i := 2) (by kernel_rfl) (e_bin c.add (tE_tO (e_bin c.mul (tE_tO (s_var (c.var (i := 2) (by kernel_rfl)))) (tE_tO e_int))) (tE_tO (e_bin c.mod (tE_tO (e_bin c.pow (tE_tO (s_var (c.var (i := 4) (by kernel_rfl)))) (tE_tO e_int))) (tE_tO (s_var (c.var (i := 3) (by kernel_rfl))))))) (by kernel_rfl))
  ss_nil))))
  (ss_cons (c.ret (s_var (c.var (i := 2) (by kernel_rfl))))
  ss_nil)))))
theorem b6 (ok : WdOk (Aw Z P w mg base fad fdd)) (L : lvl (Aw Z P w mg base fad fdd) T N k)  (X : Cx) (E : XK) (c : Cxo (Aw Z P w mg base fad fdd) k N6 (defScope (top 8)) (fun _ => true) X) : PSs X (defBody (top 8)) (tSs Z T (callF T N k) (WE E) N ir6) :=
 (ss_cons (c.cond (PW.pt (s_tand (e_cmpT c.eq (tE_tO (c.idx (tE_tO (s_var (c.var (i := 0) (by kernel_rfl)))) e_str)) (tE_tO e_int)) (pw_and1 (e_cmpT c.ne (tE_tO (c.idx (tE_tO (s_var (c.var (i := 0) (by kernel_rfl)))) e_str)) (tE_tO (tN_tE (n_lst s_lnil)))))))
 (ss_cons (c.bset (s_var (c.var (i := 0) (by kernel_rfl))) e_str (s_bpop1 c.cK (c.idx (tE_tO (s_var (c.var (i := 0) (by kernel_rfl)))) e_str) e_int) (by kernel_rfl))
  ss_nil)
 (ss_cons (c.cond (e_cmpT c.eq (tE_tO (c.idx (tE_tO (s_var (c.var (i := 0) (by kernel_rfl)))) e_str)) (tE_tO e_int))
 (ss_cons (c.bset (s_var (c.var (i := 0) (by kernel_rfl))) e_str (c.call ok L (i := 5) (by kernel_rfl) rfl (by kernel_rfl) (s_lcons (s_var (c.var (i := 0) (by kernel_rfl))) s_lnil (by rfl))) (by kernel_rfl))
  ss_nil)
 ss_nil)
  ss_nil))
  (ss_cons (c.set (i := 2) (by kernel_rfl) (e_bin c.mod (tE_tO (c.idx (tE_tO (s_var (c.var (i := 0) (by kernel_rfl)))) e_str)) (tE_tO (s_var (c.var (i := 1) (by kernel_rfl))))) (by kernel_rfl))
  (ss_cons (c.bset (s_var (c.var (i := 0) (by kernel_rfl))) e_str (e_bin c.fdiv (tE_tO (c.idx (tE_tO (s_var (c.var (i := 0) (by kernel_rfl)))) e_str)) (tE_tO (s_var (c.var (i := 1) (by kernel_rfl))))) (by kernel_rfl))
  (ss_cons (c.ret (s_var (c.var (i := 2) (by kernel_rfl))))
  ss_nil))))
theorem b7 (ok : WdOk (Aw Z P w mg base fad fdd)) (L : lvl (Aw Z P w mg base fad fdd) T N k)  (X : Cx) (E : XK) (c : Cxo (Aw Z P w mg base fad fdd) k N7 (defScope (top 9)) (fun _ => true) X) : PSs X (defBody (top 9)) (tSs Z T (callF T N k) (WE E) N ir7) :=
 (ss_cons (c.ret (c.idx (tE_tO (s_var (c.var (i := 1) (by kernel_rfl)))) (c.call ok L (i := 6) (by kernel_rfl) rfl (by kernel_rfl) (s_lcons (s_var (c.var (i := 0) (by kernel_rfl))) (s_lcons (c.len ok (i := 5) (by kernel_rfl) (s_ocons (tE_tO (s_var (c.var (i := 1) (by kernel_rfl)))) s_onil (by rfl))) s_lnil (by rfl)) (by rfl)))))
  ss_nil)
theorem b8 (ok : WdOk (Aw Z P w mg base fad fdd)) (L : lvl (Aw Z P w mg base fad fdd) T N k)  (X : Cx) (E : XK) (c : Cxo (Aw Z P w mg base fad fdd) k N8 (defScope (top 10)) (fun _ => true) X) : PSs X (defBody (top 10)) (tSs Z T (callF T N k) (WE E) N ir8) :=
 (ss_cons (c.par2 (i := 2) (j := 3) (es := (.cons (.boxed (.bi .list (.cons (.var 1) .nil))) (.cons (.lst .nil) .nil))) (by kernel_rfl) (by kernel_rfl) (by decide) (pa_cons (tF_v (s_boxed (c.list ok (i := 6) (by kernel_rfl) (s_ocons (tE_tO (s_var (c.var (i := 1) (by kernel_rfl)))) s_onil (by rfl))))) (pa_cons (tF_o (n_lst s_lnil)) pa_nil (by rfl)) (by rfl)) rfl (by kernel_rfl) (by kernel_rfl))
  (ss_cons (c.whl (e_cmpT c.ne (tE_tO (s_var (c.var (i := 2) (by kernel_rfl)))) (tE_tO (tN_tE (n_lst s_lnil))))
 (ss_cons (c.app (i := 3) (by kernel_rfl) (s_bpop1 c.cK (s_var (c.var (i := 2) (by kernel_rfl))) (c.call ok L (i := 6) (by kernel_rfl) rfl (by kernel_rfl) (s_lcons (s_var (c.var (i := 0) (by kernel_rfl))) (s_lcons (c.len ok (i := 5) (by kernel_rfl) (s_ocons (tE_tO (s_var (c.var (i := 2) (by kernel_rfl)))) s_onil (by rfl))) s_lnil (by rfl)) (by rfl)))))
  ss_nil))
  (ss_free (i := 3) (ss_cons (c.ret (s_var (c.var (i := 3) (by kernel_rfl))))
  ss_nil))))
theorem b9 (ok : WdOk (Aw Z P w mg base fad fdd)) (L : lvl (Aw Z P w mg base fad fdd) T N k)  (X : Cx) (E : XK) (c : Cxo (Aw Z P w mg base fad fdd) k N9 (defScope (top 11)) (fun _ => true) X) : PSs X (defBody (top 11)) (tSs Z T (callF T N k) (WE E) N ir9) :=
 (ss_cons (c.set (i := 2) (by kernel_rfl) (tN_tE (n_lst (s_lcons (s_tup s_lnil) s_lnil (by rfl)))) (by kernel_rfl))
  (ss_cons (c.forl (c.ir1 ok (i := 7) (by kernel_rfl) (s_var (c.var (i := 0) (by kernel_rfl)))) (s_gn (c.gn (i := 3) (by kernel_rfl)))
 (ss_cons (c.set (i := 4) (by kernel_rfl) (tN_tE (n_lst s_lnil)) (by kernel_rfl))
  (ss_cons (c.forl (c.iv (s_var (c.var (i := 2) (by kernel_rfl)))) (s_gn (c.gn (i := 5) (by kernel_rfl)))
 (ss_cons (c.set (i := 4) (by kernel_rfl) (e_bin c.add (tE_tO (s_var (c.var (i := 4) (by kernel_rfl)))) (tE_tO (tN_tE (c.lc (own := [("_law_cut", 6)]) (c.ir1 ok (i := 7) (by kernel_rfl) (s_var (c.var (i := 1) (by kernel_rfl)))) (by kernel_rfl) (by decide) (fun _ c1 => (s_gn (c1.gn (i := 6) (by kernel_rfl)))) (fun _ c1 => pts_nil) tt_none (fun _ c1 => (e_bin c1.add (tE_tO (s_var (c1.var (i := 5) (by kernel_rfl)))) (tE_tO (s_tup (s_lcons (s_var (c1.var (i := 6) (by kernel_rfl))) s_lnil (by rfl)))))))))) (by kernel_rfl))
  ss_nil))
  (ss_cons (c.set (i := 2) (by kernel_rfl) (s_var (c.var (i := 4) (by kernel_rfl))) (by kernel_rfl))
  ss_nil))))
  (ss_cons (c.ret (s_var (c.var (i := 2) (by kernel_rfl))))
  ss_nil)))
theorem b10 (ok : WdOk (Aw Z P w mg base fad fdd)) (L : lvl (Aw Z P w mg base fad fdd) T N k)  (X : Cx) (E : XK) (c : Cxo (Aw Z P w mg base fad fdd) k N10 (defScope (top 12)) (fun _ => true) X) : PSs X (defBody (top 12)) (tSs Z T (callF T N k) (WE E) N ir10) :=
 (ss_cons (c.ret (c.tuple ok (i := 2) (by kernel_rfl) (s_ocons (tE_tO (tN_tE (c.lc (own := [("_law_turn", 3)]) (c.ir1 ok (i := 7) (by kernel_rfl) (s_var (c.var (i := 1) (by kernel_rfl)))) (by kernel_rfl) (by decide) (fun _ c1 => (s_gn (c1.gn (i := 3) (by kernel_rfl)))) (fun _ c1 => pts_nil) tt_none (fun _ c1 => (c1.call ok L (i := 6) (by kernel_rfl) rfl (by kernel_rfl) (s_lcons (s_var (c1.var (i := 0) (by kernel_rfl))) (s_lcons (s_var (c1.var (i := 2) (by kernel_rfl))) s_lnil (by rfl)) (by rfl))))))) s_onil (by rfl))))
  ss_nil)
theorem b11 (ok : WdOk (Aw Z P w mg base fad fdd)) (L : lvl (Aw Z P w mg base fad fdd) T N k)  (X : Cx) (E : XK) (c : Cxo (Aw Z P w mg base fad fdd) k N11 (defScope (top 13)) (fun _ => true) X) : PSs X (defBody (top 13)) (tSs Z T (callF T N k) (WE E) N ir11) :=
 (ss_cons (c.seto (i := 3) (by kernel_rfl) (n_lst s_lnil) (by kernel_rfl))
  (ss_cons (c.forl (c.ir1 ok (i := 7) (by kernel_rfl) (s_var (c.var (i := 1) (by kernel_rfl)))) (s_gn (c.gn (i := 4) (by kernel_rfl)))
 (ss_cons (s_lcv (te := tC .non) (c.setLc (i := 5) (own := [("_law_depth", 6)]) (c.ir1 ok (i := 7) (by kernel_rfl) (s_var (c.var (i := 2) (by kernel_rfl)))) (by kernel_rfl) (by decide) (fun _ c1 => (s_gn (c1.gn (i := 6) (by kernel_rfl)))) (fun _ c1 => pts_one (e_cmpT c1.eq (tE_tO (c1.call ok L (i := 6) (by kernel_rfl) rfl (by kernel_rfl) (s_lcons (s_var (c1.var (i := 0) (by kernel_rfl))) (s_lcons e_int s_lnil (by rfl)) (by rfl)))) (tE_tO e_int))) (fun _ _ _ q => q) (fun _ c1 => (s_var (c1.var (i := 6) (by kernel_rfl)))) (by kernel_rfl) rfl (by kernel_rfl)))
  (ss_cons (c.app (i := 3) (by kernel_rfl) (s_ife (e_cmpT c.ne (tE_tO (s_var (c.var (i := 5) (by kernel_rfl)))) (tE_tO (tN_tE (n_lst s_lnil)))) (c.tuple ok (i := 2) (by kernel_rfl) (s_ocons (tE_tO (s_var (c.var (i := 5) (by kernel_rfl)))) s_onil (by rfl))) (s_tup (s_lcons (c.call ok L (i := 6) (by kernel_rfl) rfl (by kernel_rfl) (s_lcons (s_var (c.var (i := 0) (by kernel_rfl))) (s_lcons (s_var (c.var (i := 2) (by kernel_rfl))) s_lnil (by rfl)) (by rfl))) s_lnil (by rfl)))))
  ss_nil)))
  (ss_cons (c.ret (c.tuple ok (i := 2) (by kernel_rfl) (s_ocons (s_own (c.var (i := 3) (by kernel_rfl))) s_onil (by rfl))))
  ss_nil)))
theorem b12 (ok : WdOk (Aw Z P w mg base fad fdd)) (L : lvl (Aw Z P w mg base fad fdd) T N k)  (X : Cx) (E : XK) (c : Cxo (Aw Z P w mg base fad fdd) k N12 (defScope (top 14)) (fun _ => true) X) : PSs X (defBody (top 14)) (tSs Z T (callF T N k) (WE E) N ir12) :=
 (ss_cons (c.ret (e_cmp c.eq (tE_tO (tN_tE (c.lc (own := [("_law_a", 2), ("_law_b", 3)]) (c.zip ok (i := 1) (by kernel_rfl) (s_var (c.var (i := 0) (by kernel_rfl))) (s_var (c.var (i := 1) (by kernel_rfl)))) (by kernel_rfl) (by decide) (fun _ c1 => (c1.gtt (s_gcons (c1.gn (i := 2) (by kernel_rfl)) (s_gcons (c1.gn (i := 3) (by kernel_rfl)) s_gnil)))) (fun _ c1 => pts_one (e_cmpT c1.lt (tE_tO (s_var (c1.var (i := 3) (by kernel_rfl)))) (tE_tO (s_var (c1.var (i := 2) (by kernel_rfl)))))) (fun _ _ _ q => q) (fun _ c1 => e_int)))) (tE_tO (tN_tE (n_lst s_lnil)))))
  ss_nil)
theorem b13 (ok : WdOk (Aw Z P w mg base fad fdd)) (L : lvl (Aw Z P w mg base fad fdd) T N k)  (X : Cx) (E : XK) (c : Cxo (Aw Z P w mg base fad fdd) k N13 (defScope (top 15)) (fun _ => true) X) : PSs X (defBody (top 15)) (tSs Z T (callF T N k) (WE E) N ir13) :=
 (ss_cons (c.set (i := 2) (by kernel_rfl) (tN_tE (n_lst (s_lcons (s_tup (s_lcons e_int (s_lcons e_int s_lnil (by rfl)) (by rfl))) (s_lcons (s_tup (s_lcons e_int (s_lcons e_int s_lnil (by rfl)) (by rfl))) (s_lcons (s_tup (s_lcons e_int (s_lcons e_int s_lnil (by rfl)) (by rfl))) (s_lcons (s_tup (s_lcons e_int (s_lcons e_int s_lnil (by rfl)) (by rfl))) (s_lcons (s_tup (s_lcons e_int (s_lcons e_int s_lnil (by rfl)) (by rfl))) (s_lcons (s_tup (s_lcons e_int (s_lcons e_int s_lnil (by rfl)) (by rfl))) (s_lcons (s_tup (s_lcons e_int (s_lcons e_int s_lnil (by rfl)) (by rfl))) (s_lcons (s_tup (s_lcons e_int (s_lcons e_int s_lnil (by rfl)) (by rfl))) (s_lcons (s_tup (s_lcons e_int (s_lcons e_int s_lnil (by rfl)) (by rfl))) (s_lcons (s_tup (s_lcons e_int (s_lcons e_int s_lnil (by rfl)) (by rfl))) (s_lcons (s_tup (s_lcons e_int (s_lcons e_int s_lnil (by rfl)) (by rfl))) (s_lcons (s_tup (s_lcons e_int (s_lcons e_int s_lnil (by rfl)) (by rfl))) s_lnil (by rfl)) (by rfl)) (by rfl)) (by rfl)) (by rfl)) (by rfl)) (by rfl)) (by rfl)) (by rfl)) (by rfl)) (by rfl)) (by rfl)))) (by kernel_rfl))
  (ss_cons (c.seto (i := 3) (by kernel_rfl) (n_lst s_lnil) (by kernel_rfl))
  (ss_cons (c.forl (c.iv (s_var (c.var (i := 2) (by kernel_rfl)))) (c.gtt (s_gcons (c.gn (i := 4) (by kernel_rfl)) (s_gcons (c.gn (i := 5) (by kernel_rfl)) s_gnil)))
 (ss_cons (c.set (i := 6) (by kernel_rfl) e_int (by kernel_rfl))
  (ss_cons (c.forl (c.ir1 ok (i := 7) (by kernel_rfl) (s_var (c.var (i := 4) (by kernel_rfl)))) (s_gn (c.gn (i := 7) (by kernel_rfl)))
 (ss_cons (c.set (i := 6) (by kernel_rfl) (e_bin c.mul (tE_tO (s_var (c.var (i := 6) (by kernel_rfl)))) (tE_tO (s_var (c.var (i := 5) (by kernel_rfl))))) (by kernel_rfl))
  ss_nil))
  (ss_cons (c.cond (e_cmpT c.le (tE_tO (s_var (c.var (i := 6) (by kernel_rfl)))) (tE_tO (s_var (c.var (i := 1) (by kernel_rfl)))))
 (ss_cons (c.app (i := 3) (by kernel_rfl) (s_tup (s_lcons (s_var (c.var (i := 4) (by kernel_rfl))) (s_lcons (s_var (c.var (i := 5) (by kernel_rfl))) s_lnil (by rfl)) (by rfl))))
  ss_nil)
 ss_nil)
  ss_nil))))
  (ss_free (i := 3) (ss_cons (c.ret (c.call ok L (i := 7) (by kernel_rfl) rfl (by kernel_rfl) (s_lcons (s_var (c.var (i := 0) (by kernel_rfl))) (s_lcons (s_var (c.var (i := 3) (by kernel_rfl))) s_lnil (by rfl)) (by rfl))))
  ss_nil)))))
theorem b14 (ok : WdOk (Aw Z P w mg base fad fdd)) (L : lvl (Aw Z P w mg base fad fdd) T N k) (hk0 : HK0 Z fdd) (X : Cx) (E : XK) (c : Cxo (Aw Z P w mg base fad fdd) k N14 (defScope (top 16)) (fun _ => true) X) : PSs X (defBody (top 16)) (tSs Z T (callF T N k) (WE E) N ir14) :=
 (ss_cons (c.set (i := 1) (by kernel_rfl) (c.call ok L (i := 4) (by kernel_rfl) rfl (by kernel_rfl) (s_lcons (s_var (c.var (i := 0) (by kernel_rfl))) s_lnil (by rfl))) (by kernel_rfl))
  (ss_cons (c.forl (c.ir1 ok (i := 7) (by kernel_rfl) e_int) (s_gn (c.gn (i := 2) (by kernel_rfl)))
 (ss_cons (c.asg (c.call ok L (i := 13) (by kernel_rfl) rfl (by kernel_rfl) (s_lcons (s_var (c.var (i := 1) (by kernel_rfl))) (s_lcons e_int s_lnil (by rfl)) (by rfl))) (c.gtt (s_gcons (c.gn (i := 6) (by kernel_rfl)) (s_gcons (c.gn (i := 7) (by kernel_rfl)) s_gnil))) (by kernel_rfl) (by kernel_rfl))
  (ss_cons (c.asg (s_tup (s_lcons (c.call ok L (i := 10) (by kernel_rfl) rfl (by kernel_rfl) (s_lcons (s_var (c.var (i := 1) (by kernel_rfl))) (s_lcons (s_var (c.var (i := 6) (by kernel_rfl))) (s_lcons (s_var (c.var (i := 7) (by kernel_rfl))) s_lnil (by rfl)) (by rfl)) (by rfl))) (s_lcons (c.call ok L (i := 9) (by kernel_rfl) rfl (by kernel_rfl) (s_lcons (s_var (c.var (i := 6) (by kernel_rfl))) (s_lcons (s_var (c.var (i := 7) (by kernel_rfl))) s_lnil (by rfl)) (by rfl))) (s_lcons (tN_tE (n_lst (s_lcons e_str (s_lcons e_str (s_lcons e_str (s_lcons e_str (s_lcons e_str s_lnil (by rfl)) (by rfl)) (by rfl)) (by rfl)) (by rfl)))) s_lnil (by rfl)) (by rfl)) (by rfl))) (c.gtt (s_gcons (c.gn (i := 8) (by kernel_rfl)) (s_gcons (c.gn (i := 9) (by kernel_rfl)) (s_gcons (c.gn (i := 10) (by kernel_rfl)) s_gnil)))) (by kernel_rfl) (by kernel_rfl))
  (ss_cons (s_lcv (te := tC .non) (c.setLc (i := 3) (own := [("_law_name", 11)]) (c.iv (c.sli (tE_tO (c.call ok L (i := 8) (by kernel_rfl) rfl (by kernel_rfl) (s_lcons (s_var (c.var (i := 1) (by kernel_rfl))) (s_lcons (s_var (c.var (i := 10) (by kernel_rfl))) s_lnil (by rfl)) (by rfl)))) s_pnil (s_pone (c.call ok L (i := 6) (by kernel_rfl) rfl (by kernel_rfl) (s_lcons (s_var (c.var (i := 1) (by kernel_rfl))) (s_lcons e_int s_lnil (by rfl)) (by rfl)))))) (by kernel_rfl) (by decide) (fun _ c1 => (s_gn (c1.gn (i := 11) (by kernel_rfl)))) (fun _ c1 => pts_nil) tt_none (fun _ c1 => (s_tup (s_lcons (s_var (c1.var (i := 11) (by kernel_rfl))) (s_lcons (c1.call ok L (i := 11) (by kernel_rfl) rfl (by kernel_rfl) (s_lcons (s_var (c1.var (i := 1) (by kernel_rfl))) (s_lcons (s_var (c1.var (i := 6) (by kernel_rfl))) (s_lcons (s_var (c1.var (i := 7) (by kernel_rfl))) s_lnil (by rfl)) (by rfl)) (by rfl))) s_lnil (by rfl)) (by rfl)))) (by kernel_rfl) rfl (by kernel_rfl)))
  (ss_cons (c.seto (i := 4) (by kernel_rfl) (n_lst s_lnil) (by kernel_rfl))
  (ss_cons (c.forl (c.iv (s_var (c.var (i := 3) (by kernel_rfl)))) (c.gtt (s_gcons (c.gn (i := 11) (by kernel_rfl)) (s_gcons (c.gn (i := 12) (by kernel_rfl)) s_gnil)))
 (ss_cons (s_lcv (te := tC .non) (c.setLc (i := 13) (own := [("_law_other", 16)]) (c.iv (s_var (c.var (i := 9) (by kernel_rfl)))) (by kernel_rfl) (by decide) (fun _ c1 => (s_gn (c1.gn (i := 16) (by kernel_rfl)))) (fun _ c1 => pts_one (t_tru c1 (tE_tO (c1.call ok L (i := 12) (by kernel_rfl) rfl (by kernel_rfl) (s_lcons (s_var (c1.var (i := 8) (by kernel_rfl))) (s_lcons (s_var (c1.var (i := 16) (by kernel_rfl))) s_lnil (by rfl)) (by rfl)))))) (fun _ _ _ q => q) (fun _ c1 => (s_var (c1.var (i := 16) (by kernel_rfl)))) (by kernel_rfl) rfl (by kernel_rfl)))
  (ss_cons (s_lcv (te := tC .non) (c.setLc (i := 13) (own := [("_law_other", 16)]) (c.iv (s_var (c.var (i := 13) (by kernel_rfl)))) (by kernel_rfl) (by decide) (fun _ c1 => (s_gn (c1.gn (i := 16) (by kernel_rfl)))) (fun _ c1 => pts_one (e_cmpT c1.eq (tE_tO (tN_tE (c1.lc (own := [("_law_cut", 18), ("_law_breaks", 19)]) (c1.zip ok (i := 1) (by kernel_rfl) (s_var (c1.var (i := 16) (by kernel_rfl))) (s_var (c1.var (i := 12) (by kernel_rfl)))) (by kernel_rfl) (by decide) (fun _ c2 => (c2.gtt (s_gcons (c2.gn (i := 18) (by kernel_rfl)) (s_gcons (c2.gn (i := 19) (by kernel_rfl)) s_gnil)))) (fun _ c2 => pts_one (e_cmpT c2.nin (tE_tO (s_var (c2.var (i := 18) (by kernel_rfl)))) (tE_tO (s_var (c2.var (i := 19) (by kernel_rfl)))))) (fun _ _ _ q => q) (fun _ c2 => e_int)))) (tE_tO (tN_tE (n_lst s_lnil))))) (fun _ _ _ q => q) (fun _ c1 => (s_var (c1.var (i := 16) (by kernel_rfl)))) (by kernel_rfl) rfl (by kernel_rfl)))
  (ss_cons (c.set (i := 14) (by kernel_rfl) (c.call ok L (i := 2) (by kernel_rfl) rfl (by kernel_rfl) (s_lcons (s_var (c.var (i := 8) (by kernel_rfl))) (s_lcons (s_var (c.var (i := 12) (by kernel_rfl))) s_lnil (by rfl)) (by rfl))) (by kernel_rfl))
  (ss_cons (c.cond (e_cmpT c.ne (tE_tO (e_cmp c.isN (tE_tO (s_var (c.var (i := 14) (by kernel_rfl)))) (tE_tO (e_none (j := none))))) (tE_tO (e_cmp c.eq (tE_tO (s_var (c.var (i := 13) (by kernel_rfl)))) (tE_tO (tN_tE (n_lst s_lnil))))))
 (ss_cons (c.ret e_bool)
  ss_nil)
 ss_nil)
  (ss_cons (c.cond (e_cmpT c.ne (tE_tO (s_var (c.var (i := 13) (by kernel_rfl)))) (tE_tO (tN_tE (n_lst s_lnil))))
 (ss_cons (c.app (i := 4) (by kernel_rfl) (s_var (c.var (i := 11) (by kernel_rfl))))
  (ss_cons (c.seto (i := 15) (by kernel_rfl) (n_lst s_lnil) (by kernel_rfl))
  (ss_cons (c.forl (c.iv (s_var (c.var (i := 13) (by kernel_rfl)))) (s_gn (c.gn (i := 16) (by kernel_rfl)))
 (ss_cons (c.app (i := 15) (by kernel_rfl) (c.len ok (i := 5) (by kernel_rfl) (s_ocons (tE_tO (tN_tE (c.lc (own := [("_law_a", 21), ("_law_b", 22)]) (c.zip ok (i := 1) (by kernel_rfl) (s_var (c.var (i := 8) (by kernel_rfl))) (s_var (c.var (i := 16) (by kernel_rfl)))) (by kernel_rfl) (by decide) (fun _ c1 => (c1.gtt (s_gcons (c1.gn (i := 21) (by kernel_rfl)) (s_gcons (c1.gn (i := 22) (by kernel_rfl)) s_gnil)))) (fun _ c1 => pts_one (e_cmpT c1.ne (tE_tO (s_var (c1.var (i := 21) (by kernel_rfl)))) (tE_tO (s_var (c1.var (i := 22) (by kernel_rfl)))))) (fun _ _ _ q => q) (fun _ c1 => e_int)))) s_onil (by rfl))))
  ss_nil))
  (ss_cons (c.cond (e_cmpT c.nin (tE_tO (s_var (c.var (i := 14) (by kernel_rfl)))) (tE_tO (s_var (c.var (i := 13) (by kernel_rfl)))))
 (ss_cons (c.ret e_bool)
  ss_nil)
 ss_nil)
  (ss_cons (c.cond (e_cmpT c.ne (tE_tO (c.len ok (i := 5) (by kernel_rfl) (s_ocons (tE_tO (tN_tE (c.lc (own := [("_law_a", 21), ("_law_b", 22)]) (c.zip ok (i := 1) (by kernel_rfl) (s_var (c.var (i := 8) (by kernel_rfl))) (s_var (c.var (i := 14) (by kernel_rfl)))) (by kernel_rfl) (by decide) (fun _ c1 => (c1.gtt (s_gcons (c1.gn (i := 21) (by kernel_rfl)) (s_gcons (c1.gn (i := 22) (by kernel_rfl)) s_gnil)))) (fun _ c1 => pts_one (e_cmpT c1.ne (tE_tO (s_var (c1.var (i := 21) (by kernel_rfl)))) (tE_tO (s_var (c1.var (i := 22) (by kernel_rfl)))))) (fun _ _ _ q => q) (fun _ c1 => e_int)))) s_onil (by rfl)))) (tE_tO (c.minl ok (i := 8) (by kernel_rfl) (s_ocons (s_own (c.var (i := 15) (by kernel_rfl))) s_onil (by rfl)))))
 (ss_cons (c.ret e_bool)
  ss_nil)
 ss_nil)
  (ss_cons (c.cond (e_cmpT c.ne (tE_tO (tN_tE (c.lc (own := [("_law_other", 16)]) (c.iv (s_var (c.var (i := 13) (by kernel_rfl)))) (by kernel_rfl) (by decide) (fun _ c1 => (s_gn (c1.gn (i := 16) (by kernel_rfl)))) (fun _ c1 => pts_one (s_tnot (t_tru c1 (tE_tO (c1.call ok L (i := 12) (by kernel_rfl) rfl (by kernel_rfl) (s_lcons (s_var (c1.var (i := 14) (by kernel_rfl))) (s_lcons (s_var (c1.var (i := 16) (by kernel_rfl))) s_lnil (by rfl)) (by rfl))))))) (fun _ _ _ q => q) (fun _ c1 => (s_var (c1.var (i := 16) (by kernel_rfl))))))) (tE_tO (tN_tE (n_lst s_lnil))))
 (ss_cons (c.ret e_bool)
  ss_nil)
 ss_nil)
  ss_nil))))))
 ss_nil)
  ss_nil))))))
  (ss_cons (c.cond (e_cmpT c.ne (tE_tO (c.callk0 ok L hk0 (i := 3) (by kernel_rfl) rfl (by kernel_rfl) (s_kcons (tN_tE (c.dict ok (i := 9) (by kernel_rfl) (s_ocons (tE_tO (s_var (c.var (i := 3) (by kernel_rfl)))) s_onil (by rfl)))) (s_kcons (s_var (c.var (i := 8) (by kernel_rfl))) s_knil)))) (tE_tO (tN_tE (c.sorted ok (i := 3) (by kernel_rfl) (s_ocons (s_own (c.var (i := 4) (by kernel_rfl))) s_onil (by rfl))))))
 (ss_cons (c.ret e_bool)
  ss_nil)
 ss_nil)
  (ss_cons (c.asg (s_tup (s_lcons (c.call ok L (i := 10) (by kernel_rfl) rfl (by kernel_rfl) (s_lcons (s_var (c.var (i := 1) (by kernel_rfl))) (s_lcons e_int (s_lcons e_int s_lnil (by rfl)) (by rfl)) (by rfl))) (s_lcons (c.call ok L (i := 11) (by kernel_rfl) rfl (by kernel_rfl) (s_lcons (s_var (c.var (i := 1) (by kernel_rfl))) (s_lcons e_int (s_lcons e_int s_lnil (by rfl)) (by rfl)) (by rfl))) s_lnil (by rfl)) (by rfl))) (c.gtt (s_gcons (c.gn (i := 8) (by kernel_rfl)) (s_gcons (c.gn (i := 12) (by kernel_rfl)) s_gnil))) (by kernel_rfl) (by kernel_rfl))
  (ss_cons (s_lcv (te := tC .non) (c.setLc (i := 5) (own := [("_law_cut", 18), ("_law_breaks", 19)]) (c.zip ok (i := 1) (by kernel_rfl) (s_var (c.var (i := 8) (by kernel_rfl))) (s_var (c.var (i := 12) (by kernel_rfl)))) (by kernel_rfl) (by decide) (fun _ c1 => (c1.gtt (s_gcons (c1.gn (i := 18) (by kernel_rfl)) (s_gcons (c1.gn (i := 19) (by kernel_rfl)) s_gnil)))) (fun _ c1 => pts_nil) tt_none (fun _ c1 => (tN_tE (c1.lc (own := [("_law_depth", 17)]) (c1.iv (s_var (c1.var (i := 19) (by kernel_rfl)))) (by kernel_rfl) (by decide) (fun _ c2 => (s_gn (c2.gn (i := 17) (by kernel_rfl)))) (fun _ c2 => pts_one (e_cmpT c2.ge (tE_tO (s_var (c2.var (i := 17) (by kernel_rfl)))) (tE_tO (s_var (c2.var (i := 18) (by kernel_rfl)))))) (fun _ _ _ q => q) (fun _ c2 => (s_var (c2.var (i := 17) (by kernel_rfl))))))) (by kernel_rfl) rfl (by kernel_rfl)))
  (ss_cons (c.cond (e_cmpT c.ne (tE_tO (c.call ok L (i := 2) (by kernel_rfl) rfl (by kernel_rfl) (s_lcons (s_var (c.var (i := 8) (by kernel_rfl))) (s_lcons (s_var (c.var (i := 12) (by kernel_rfl))) s_lnil (by rfl)) (by rfl)))) (tE_tO (s_ife (e_cmpT c.isin (tE_tO (tN_tE (n_lst s_lnil))) (tE_tO (s_var (c.var (i := 5) (by kernel_rfl))))) (e_none (j := none)) (c.tuple ok (i := 2) (by kernel_rfl) (s_ocons (tE_tO (tN_tE (c.lc (own := [("_law_row", 20)]) (c.iv (s_var (c.var (i := 5) (by kernel_rfl)))) (by kernel_rfl) (by decide) (fun _ c1 => (s_gn (c1.gn (i := 20) (by kernel_rfl)))) (fun _ c1 => pts_nil) tt_none (fun _ c1 => (c1.idx (tE_tO (s_var (c1.var (i := 20) (by kernel_rfl)))) e_int))))) s_onil (by rfl))))))
 (ss_cons (c.ret e_bool)
  ss_nil)
 ss_nil)
  (ss_cons (c.cond (e_cmpT c.ne (tE_tO (c.call ok L (i := 3) (by kernel_rfl) rfl (by kernel_rfl) (s_lcons (s_var (c.var (i := 8) (by kernel_rfl))) (s_lcons (tN_tE (n_dct (a := (.cons (.ks "wide") (.cons (.var 12) .nil))) (pps_cons e_str (s_var (c.var (i := 12) (by kernel_rfl))) pps_nil) rfl (by simp))) s_lnil (by rfl)) (by rfl)))) (tE_tO (e_bin c.mul (tE_tO (tN_tE (n_lst (s_lcons e_str s_lnil (by rfl))))) (tE_tO (c.int ok (i := 10) (by kernel_rfl) (s_ocons (tE_tO (e_cmp c.nin (tE_tO (tN_tE (n_lst s_lnil))) (tE_tO (s_var (c.var (i := 5) (by kernel_rfl)))))) s_onil (by rfl)))))))
 (ss_cons (c.ret e_bool)
  ss_nil)
 ss_nil)
  ss_nil)))))))))))
  (ss_cons (c.ret e_bool)
  ss_nil)))
end
theorem S0 : FnScope N0 (["key", "other"] : List Str) (defScope (top 1)) := ⟨by kernel_rfl, by kernel_rfl, by kernel_rfl, by decide +kernel, by kernel_rfl, by decide +kernel, by decide +kernel⟩
theorem S1 : FnScope N1 (["lock"] : List Str) (defScope (top 2)) := ⟨by kernel_rfl, by kernel_rfl, by kernel_rfl, by decide +kernel, by kernel_rfl, by decide +kernel, by decide +kernel⟩
theorem S2 : FnScope N2 (["key", "lock"] : List Str) (defScope (top 3)) := ⟨by kernel_rfl, by kernel_rfl, by kernel_rfl, by decide +kernel, by kernel_rfl, by decide +kernel, by decide +kernel⟩
theorem S3 : FnScope N3 (["key", "locks"] : List Str) (defScope (top 4)) := ⟨by kernel_rfl, by kernel_rfl, by kernel_rfl, by decide +kernel, by kernel_rfl, by decide +kernel, by decide +kernel⟩
theorem S4 : FnScope N4 (["_law_script"] : List Str) (defScope (top 6)) := ⟨by kernel_rfl, by kernel_rfl, by kernel_rfl, by decide +kernel, by kernel_rfl, by decide +kernel, by decide +kernel⟩
theorem S5 : FnScope N5 (["_law_draw"] : List Str) (defScope (top 7)) := ⟨by kernel_rfl, by kernel_rfl, by kernel_rfl, by decide +kernel, by kernel_rfl, by decide +kernel, by decide +kernel⟩
theorem S6 : FnScope N6 (["_law_draw", "_law_size"] : List Str) (defScope (top 8)) := ⟨by kernel_rfl, by kernel_rfl, by kernel_rfl, by decide +kernel, by kernel_rfl, by decide +kernel, by decide +kernel⟩
theorem S7 : FnScope N7 (["_law_draw", "_law_items"] : List Str) (defScope (top 9)) := ⟨by kernel_rfl, by kernel_rfl, by kernel_rfl, by decide +kernel, by kernel_rfl, by decide +kernel, by decide +kernel⟩
theorem S8 : FnScope N8 (["_law_draw", "_law_items"] : List Str) (defScope (top 10)) := ⟨by kernel_rfl, by kernel_rfl, by kernel_rfl, by decide +kernel, by kernel_rfl, by decide +kernel, by decide +kernel⟩
theorem S9 : FnScope N9 (["_law_size", "_law_far"] : List Str) (defScope (top 11)) := ⟨by kernel_rfl, by kernel_rfl, by kernel_rfl, by decide +kernel, by kernel_rfl, by decide +kernel, by decide +kernel⟩
theorem S10 : FnScope N10 (["_law_draw", "_law_size", "_law_far"] : List Str) (defScope (top 12)) := ⟨by kernel_rfl, by kernel_rfl, by kernel_rfl, by decide +kernel, by kernel_rfl, by decide +kernel, by decide +kernel⟩
theorem S11 : FnScope N11 (["_law_draw", "_law_size", "_law_far"] : List Str) (defScope (top 13)) := ⟨by kernel_rfl, by kernel_rfl, by kernel_rfl, by decide +kernel, by kernel_rfl, by decide +kernel, by decide +kernel⟩
theorem S12 : FnScope N12 (["_law_one", "_law_other"] : List Str) (defScope (top 14)) := ⟨by kernel_rfl, by kernel_rfl, by kernel_rfl, by decide +kernel, by kernel_rfl, by decide +kernel, by decide +kernel⟩
theorem S13 : FnScope N13 (["_law_draw", "_law_most"] : List Str) (defScope (top 15)) := ⟨by kernel_rfl, by kernel_rfl, by kernel_rfl, by decide +kernel, by kernel_rfl, by decide +kernel, by decide +kernel⟩
theorem S14 : FnScope N14 (["_law_script"] : List Str) (defScope (top 16)) := ⟨by kernel_rfl, by kernel_rfl, by kernel_rfl, by decide +kernel, by kernel_rfl, by decide +kernel, by decide +kernel⟩
abbrev FF (K : PySem.W.Frag) (x : Str) (i : Nat) (f : Addr) (fd : FuncData) : Prop := FunD K x x (defArgs (top i)) (defBody (top i)) (defScope (top i)) [] [] f fd
section
variable {Z : Zc} {P : Program} {w : World} {mg : Str → Option Value} {base : Heap} {fad : Nat → Addr} {fdd : Nat → FuncData} {N k : Nat}
theorem kw0 (F : FF Z.K "reachable" 4 (fad 3) (fdd 3)) : HK0 Z fdd := kbN F 0 _ fun _ _ _ _ _ _ us ws h1 h2 => match us, ws, h1, h2 with | [], [_, _], _, _ => rfl
theorem lvls (ok : WdOk (Aw Z P w mg base fad fdd)) (F0 : FF Z.K "is_filing" 1 (fad 0) (fdd 0)) (F1 : FF Z.K "deepest_breaks" 2 (fad 1) (fdd 1)) (F2 : FF Z.K "filed_to_open" 3 (fad 2) (fdd 2)) (F3 : FF Z.K "reachable" 4 (fad 3) (fdd 3)) (F4 : FF Z.K "_law_begun" 6 (fad 4) (fdd 4)) (F5 : FF Z.K "_law_mixed" 7 (fad 5) (fdd 5)) (F6 : FF Z.K "_law_take" 8 (fad 6) (fdd 6)) (F7 : FF Z.K "_law_pick" 9 (fad 7) (fdd 7)) (F8 : FF Z.K "_law_shuffled" 10 (fad 8) (fdd 8)) (F9 : FF Z.K "_law_every" 11 (fad 9) (fdd 9)) (F10 : FF Z.K "_law_cuts" 12 (fad 10) (fdd 10)) (F11 : FF Z.K "_law_gaps" 13 (fad 11) (fdd 11)) (F12 : FF Z.K "_law_below" 14 (fad 12) (fdd 12)) (F13 : FF Z.K "_law_shape" 15 (fad 13) (fdd 13)) (F14 : FF Z.K "law" 16 (fad 14) (fdd 14)) : ∀ k, lvl (Aw Z P w mg base fad fdd) T N k
  | 0 => lvl_zero
  | k + 1 => fun i ps h => by
    have L := lvls ok F0 F1 F2 F3 F4 F5 F6 F7 F8 F9 F10 F11 F12 F13 F14 k
    match i, h with
    | 0, h => cases h; exact ok_fn (A := Aw Z P w mg base fad fdd) F0 S0 rfl rfl rfl fun X E c => b0 ok L  X E c
    | 1, h => cases h; exact ok_fn (A := Aw Z P w mg base fad fdd) F1 S1 rfl rfl rfl fun X E c => b1 ok L  X E c
    | 2, h => cases h; exact ok_fn (A := Aw Z P w mg base fad fdd) F2 S2 rfl rfl rfl fun X E c => b2 ok L  X E c
    | 3, h => cases h; exact ok_fn (A := Aw Z P w mg base fad fdd) F3 S3 rfl rfl rfl fun X E c => b3 ok L  X E c
    | 4, h => cases h; exact ok_fn (A := Aw Z P w mg base fad fdd) F4 S4 rfl rfl rfl fun X E c => b4 ok L  X E c
    | 5, h => cases h; exact ok_fn (A := Aw Z P w mg base fad fdd) F5 S5 rfl rfl rfl fun X E c => b5 ok L  X E c
    | 6, h => cases h; exact ok_fn (A := Aw Z P w mg base fad fdd) F6 S6 rfl rfl rfl fun X E c => b6 ok L  X E c
    | 7, h => cases h; exact ok_fn (A := Aw Z P w mg base fad fdd) F7 S7 rfl rfl rfl fun X E c => b7 ok L  X E c
    | 8, h => cases h; exact ok_fn (A := Aw Z P w mg base fad fdd) F8 S8 rfl rfl rfl fun X E c => b8 ok L  X E c
    | 9, h => cases h; exact ok_fn (A := Aw Z P w mg base fad fdd) F9 S9 rfl rfl rfl fun X E c => b9 ok L  X E c
    | 10, h => cases h; exact ok_fn (A := Aw Z P w mg base fad fdd) F10 S10 rfl rfl rfl fun X E c => b10 ok L  X E c
    | 11, h => cases h; exact ok_fn (A := Aw Z P w mg base fad fdd) F11 S11 rfl rfl rfl fun X E c => b11 ok L  X E c
    | 12, h => cases h; exact ok_fn (A := Aw Z P w mg base fad fdd) F12 S12 rfl rfl rfl fun X E c => b12 ok L  X E c
    | 13, h => cases h; exact ok_fn (A := Aw Z P w mg base fad fdd) F13 S13 rfl rfl rfl fun X E c => b13 ok L  X E c
    | 14, h => cases h; exact ok_fn (A := Aw Z P w mg base fad fdd) F14 S14 rfl rfl rfl fun X E c => b14 ok L (kw0 F3) X E c
    | n + 15, h => cases h
end
def fn : List He.DefD := [⟨("is_filing", none), "is_filing", "is_filing", defArgs (top 1), defBody (top 1), defScope (top 1), [], []⟩, ⟨("deepest_breaks", none), "deepest_breaks", "deepest_breaks", defArgs (top 2), defBody (top 2), defScope (top 2), [], []⟩, ⟨("filed_to_open", none), "filed_to_open", "filed_to_open", defArgs (top 3), defBody (top 3), defScope (top 3), [], []⟩, ⟨("reachable", none), "reachable", "reachable", defArgs (top 4), defBody (top 4), defScope (top 4), [], []⟩, ⟨("_law_begun", none), "_law_begun", "_law_begun", defArgs (top 6), defBody (top 6), defScope (top 6), [], []⟩, ⟨("_law_mixed", none), "_law_mixed", "_law_mixed", defArgs (top 7), defBody (top 7), defScope (top 7), [], []⟩, ⟨("_law_take", none), "_law_take", "_law_take", defArgs (top 8), defBody (top 8), defScope (top 8), [], []⟩, ⟨("_law_pick", none), "_law_pick", "_law_pick", defArgs (top 9), defBody (top 9), defScope (top 9), [], []⟩, ⟨("_law_shuffled", none), "_law_shuffled", "_law_shuffled", defArgs (top 10), defBody (top 10), defScope (top 10), [], []⟩, ⟨("_law_every", none), "_law_every", "_law_every", defArgs (top 11), defBody (top 11), defScope (top 11), [], []⟩, ⟨("_law_cuts", none), "_law_cuts", "_law_cuts", defArgs (top 12), defBody (top 12), defScope (top 12), [], []⟩, ⟨("_law_gaps", none), "_law_gaps", "_law_gaps", defArgs (top 13), defBody (top 13), defScope (top 13), [], []⟩, ⟨("_law_below", none), "_law_below", "_law_below", defArgs (top 14), defBody (top 14), defScope (top 14), [], []⟩, ⟨("_law_shape", none), "_law_shape", "_law_shape", defArgs (top 15), defBody (top 15), defScope (top 15), [], []⟩, ⟨("law", none), "law", "law", defArgs (top 16), defBody (top 16), defScope (top 16), [], []⟩]
def fa : List He.Fa := [.glo "is_filing", .glo "deepest_breaks", .glo "filed_to_open", .glo "reachable", .glo "_law_begun", .glo "_law_mixed", .glo "_law_take", .glo "_law_pick", .glo "_law_shuffled", .glo "_law_every", .glo "_law_cuts", .glo "_law_gaps", .glo "_law_below", .glo "_law_shape", .glo "law", .free "all", .free "zip", .free "tuple", .free "sorted", .free "abs", .free "len", .free "list", .free "range", .free "min", .free "dict", .free "int"]
abbrev R : PySem.W.OpenRow := PySem.W.OpenLaw.row PySem.Challenge.rw_onlydeeper_k03_fewest_strokes
abbrev hk : PySem.W.Hook := He.hookD 4 fa fn
def ob (s : PySem.W.SharedT) : He.AlD := He.obsDG 4 fa fn (HandSHeadRun.getT s)
theorem ob_eq (s : PySem.W.SharedT) : ob s = hk.obs s.abs := He.obsDG_eq (HandSHeadRun.getT_eq s)
def loose : List Str := (["is_filing", "deepest_breaks", "filed_to_open", "reachable", "_law_begun", "_law_mixed", "_law_take", "_law_pick", "_law_shuffled", "_law_every"] : List Str) ++ (["_law_cuts", "_law_gaps", "_law_below", "_law_shape"] : List Str)
theorem run (w : World) : HandSHeadRun.RunEq R (PySem.W.view R.prog [16]) hk ob 1500 loose w := by
  intro os
  kernel_rfl
abbrev Wh : Nat := 100000
theorem facts {P : Program} {w : World} {K : PySem.W.Frag} {h : Heap} {mg : Str → Option Value} {f : Addr} (X : K.In h) (G : h.Ns mainGlobals mg) (hfa : mg ("law" : Str) = some (.ref f)) (c : He.SaysD fa fn K) :
    ∃ fd : FuncData, (∀ (s : Shared) (v : Value), BindsTo s fd ⟨[v], []⟩ [("_law_script", v)]) ∧ ∀ base : Heap, K.In base → base.Ns mainGlobals mg → FnOk P w K mg base CX0 6 f fd ["_law_script"] (spD ⟨K, fun _ => 0⟩ (callF T Wh 6) 14 1) := by
  obtain ⟨fd0, F0⟩ := c.def_ 0 rfl
  obtain ⟨fd1, F1⟩ := c.def_ 1 rfl
  obtain ⟨fd2, F2⟩ := c.def_ 2 rfl
  obtain ⟨fd3, F3⟩ := c.def_ 3 rfl
  obtain ⟨fd4, F4⟩ := c.def_ 4 rfl
  obtain ⟨fd5, F5⟩ := c.def_ 5 rfl
  obtain ⟨fd6, F6⟩ := c.def_ 6 rfl
  obtain ⟨fd7, F7⟩ := c.def_ 7 rfl
  obtain ⟨fd8, F8⟩ := c.def_ 8 rfl
  obtain ⟨fd9, F9⟩ := c.def_ 9 rfl
  obtain ⟨fd10, F10⟩ := c.def_ 10 rfl
  obtain ⟨fd11, F11⟩ := c.def_ 11 rfl
  obtain ⟨fd12, F12⟩ := c.def_ 12 rfl
  obtain ⟨fd13, F13⟩ := c.def_ 13 rfl
  obtain ⟨fd14, F14⟩ := c.def_ 14 rfl
  have e := hfa.symm.trans (He.glo_ok X G (c.fact 14 (f := .glo "law") rfl))
  cases e
  have b := FunD.bindsA (ps := ["_law_script"]) F14 fun _ _ _ _ _ _ us hl => match us, hl with | [_], _ => rfl
  refine ⟨fd14, fun s v => b s [v] rfl, fun base _ _ => ?_⟩
  have ok : WdOk (Aw ⟨K, fun _ => 0⟩ P w mg base (fun i => He.fAd K (names.getD i "", none)) (fun i => [fd0, fd1, fd2, fd3, fd4, fd5, fd6, fd7, fd8, fd9, fd10, fd11, fd12, fd13, fd14].getD i fd0)) := by
    refine ⟨fun i x hx => ?_, fun i x hx => ?_, fun i ps hp => ?_⟩
    · match i, hx with
      | 0, hx => cases hx; exact ⟨He.glo_ok X G (c.fact 0 (f := .glo "is_filing") rfl), F0.kp⟩
      | 1, hx => cases hx; exact ⟨He.glo_ok X G (c.fact 1 (f := .glo "deepest_breaks") rfl), F1.kp⟩
      | 2, hx => cases hx; exact ⟨He.glo_ok X G (c.fact 2 (f := .glo "filed_to_open") rfl), F2.kp⟩
      | 3, hx => cases hx; exact ⟨He.glo_ok X G (c.fact 3 (f := .glo "reachable") rfl), F3.kp⟩
      | 4, hx => cases hx; exact ⟨He.glo_ok X G (c.fact 4 (f := .glo "_law_begun") rfl), F4.kp⟩
      | 5, hx => cases hx; exact ⟨He.glo_ok X G (c.fact 5 (f := .glo "_law_mixed") rfl), F5.kp⟩
      | 6, hx => cases hx; exact ⟨He.glo_ok X G (c.fact 6 (f := .glo "_law_take") rfl), F6.kp⟩
      | 7, hx => cases hx; exact ⟨He.glo_ok X G (c.fact 7 (f := .glo "_law_pick") rfl), F7.kp⟩
      | 8, hx => cases hx; exact ⟨He.glo_ok X G (c.fact 8 (f := .glo "_law_shuffled") rfl), F8.kp⟩
      | 9, hx => cases hx; exact ⟨He.glo_ok X G (c.fact 9 (f := .glo "_law_every") rfl), F9.kp⟩
      | 10, hx => cases hx; exact ⟨He.glo_ok X G (c.fact 10 (f := .glo "_law_cuts") rfl), F10.kp⟩
      | 11, hx => cases hx; exact ⟨He.glo_ok X G (c.fact 11 (f := .glo "_law_gaps") rfl), F11.kp⟩
      | 12, hx => cases hx; exact ⟨He.glo_ok X G (c.fact 12 (f := .glo "_law_below") rfl), F12.kp⟩
      | 13, hx => cases hx; exact ⟨He.glo_ok X G (c.fact 13 (f := .glo "_law_shape") rfl), F13.kp⟩
      | 14, hx => cases hx; exact ⟨He.glo_ok X G (c.fact 14 (f := .glo "law") rfl), F14.kp⟩
      | n + 15, hx => cases hx
    · match i, hx with
      | 0, hx => cases hx; exact He.free_ok X G (c.fact 15 (f := .free "all") rfl)
      | 1, hx => cases hx; exact He.free_ok X G (c.fact 16 (f := .free "zip") rfl)
      | 2, hx => cases hx; exact He.free_ok X G (c.fact 17 (f := .free "tuple") rfl)
      | 3, hx => cases hx; exact He.free_ok X G (c.fact 18 (f := .free "sorted") rfl)
      | 4, hx => cases hx; exact He.free_ok X G (c.fact 19 (f := .free "abs") rfl)
      | 5, hx => cases hx; exact He.free_ok X G (c.fact 20 (f := .free "len") rfl)
      | 6, hx => cases hx; exact He.free_ok X G (c.fact 21 (f := .free "list") rfl)
      | 7, hx => cases hx; exact He.free_ok X G (c.fact 22 (f := .free "range") rfl)
      | 8, hx => cases hx; exact He.free_ok X G (c.fact 23 (f := .free "min") rfl)
      | 9, hx => cases hx; exact He.free_ok X G (c.fact 24 (f := .free "dict") rfl)
      | 10, hx => cases hx; exact He.free_ok X G (c.fact 25 (f := .free "int") rfl)
      | n + 11, hx => cases hx
    · match i, hp with
      | 0, hp => cases hp; exact F0.bindsN fun _ _ _ _ _ _ us hl => match us, hl with | [_, _], _ => rfl
      | 1, hp => cases hp; exact F1.bindsN fun _ _ _ _ _ _ us hl => match us, hl with | [_], _ => rfl
      | 2, hp => cases hp; exact F2.bindsN fun _ _ _ _ _ _ us hl => match us, hl with | [_, _], _ => rfl
      | 3, hp => cases hp; exact F3.bindsN fun _ _ _ _ _ _ us hl => match us, hl with | [_, _], _ => rfl
      | 4, hp => cases hp; exact F4.bindsN fun _ _ _ _ _ _ us hl => match us, hl with | [_], _ => rfl
      | 5, hp => cases hp; exact F5.bindsN fun _ _ _ _ _ _ us hl => match us, hl with | [_], _ => rfl
      | 6, hp => cases hp; exact F6.bindsN fun _ _ _ _ _ _ us hl => match us, hl with | [_, _], _ => rfl
      | 7, hp => cases hp; exact F7.bindsN fun _ _ _ _ _ _ us hl => match us, hl with | [_, _], _ => rfl
      | 8, hp => cases hp; exact F8.bindsN fun _ _ _ _ _ _ us hl => match us, hl with | [_, _], _ => rfl
      | 9, hp => cases hp; exact F9.bindsN fun _ _ _ _ _ _ us hl => match us, hl with | [_, _], _ => rfl
      | 10, hp => cases hp; exact F10.bindsN fun _ _ _ _ _ _ us hl => match us, hl with | [_, _, _], _ => rfl
      | 11, hp => cases hp; exact F11.bindsN fun _ _ _ _ _ _ us hl => match us, hl with | [_, _, _], _ => rfl
      | 12, hp => cases hp; exact F12.bindsN fun _ _ _ _ _ _ us hl => match us, hl with | [_, _], _ => rfl
      | 13, hp => cases hp; exact F13.bindsN fun _ _ _ _ _ _ us hl => match us, hl with | [_, _], _ => rfl
      | 14, hp => cases hp; exact F14.bindsN fun _ _ _ _ _ _ us hl => match us, hl with | [_], _ => rfl
      | n + 15, hp => cases hp
  exact lvls ok F0 F1 F2 F3 F4 F5 F6 F7 F8 F9 F10 F11 F12 F13 F14 6 14 ["_law_script"] rfl
end G
/-! M1: runs of the machine (plain Lean); the laws' shared draws. -/
namespace Y
open PySem L2

def Wp {α : Type} (m : M α) (S : Store) (Q : α → Store → Prop) : Prop := ∃ a S', m S = .ok a S' ∧ Q a S'
section
variable {α β : Type} {m : M α} {f : α → M β} {S S' : Store} {Q Q' : α → Store → Prop}
theorem wp_ret {a : α} (h : Q a S) : Wp (ret a) S Q := ⟨a, S, rfl, h⟩
theorem wp_bnd {Q : β → Store → Prop} (h : Wp m S fun a S1 => Wp (f a) S1 Q) : Wp (bnd m f) S Q := by
  obtain ⟨a, S1, e, b, S2, e2, q⟩ := h
  exact ⟨b, S2, by show (m S).bnd f = _; rw [e]; exact e2, q⟩
theorem wp_eq {a : α} (e : m S = .ok a S') (q : Q a S') : Wp m S Q := ⟨a, S', e, q⟩
theorem Wp.imp (h : Wp m S Q) (k : ∀ a S', Q a S' → Q' a S') : Wp m S Q' := by
  obtain ⟨a, S1, e, q⟩ := h
  exact ⟨a, S1, e, k _ _ q⟩
theorem wp_at {r : Res α} (e : m S = r) (h : ∃ a S', r = .ok a S' ∧ Q a S') : Wp m S Q := by
  obtain ⟨a, S1, e2, q⟩ := h
  exact ⟨a, S1, e.trans e2, q⟩
theorem wp_lift {o : Option α} {a : α} (e : o = some a) (q : Q a S) : Wp (lift o) S Q := ⟨a, S, by subst e; rfl, q⟩
theorem wp_try {o : Option α} {a : α} {g : α → M β} {Q : β → Store → Prop} (e : o = some a) (h : Wp (g a) S Q) : Wp (tryL o g) S Q := by
  subst e
  exact h
theorem wp_ifT {b : Bool} {m n : M α} (h : b = true) (q : Wp m S Q) : Wp (if b = true then m else n) S Q := by
  rw [if_pos h]
  exact q
theorem wp_ifF {b : Bool} {m n : M α} (h : b = false) (q : Wp n S Q) : Wp (if b = true then m else n) S Q := by
  rw [h, if_neg (by simp)]
  exact q
theorem wp_hush (h : Wp m S Q) : Wp (hush m) S Q := by
  obtain ⟨a, S1, e, q⟩ := h
  exact ⟨a, S1, by show (m S).hush = _; rw [e]; rfl, q⟩
theorem wp_if {c : Prop} [Decidable c] {m n : M α} (h1 : c → Wp m S Q) (h2 : ¬ c → Wp n S Q) : Wp (if c then m else n) S Q := by
  split
  · exact h1 ‹_›
  · exact h2 ‹_›
end

/-! ### calls, loops, comprehensions -/
section
variable {T : Tb} {C : Calls} {W k : Nat} {de : Env} {S : Store}
theorem wp_call {i : Nat} {fe : Fe} {ds : List D} {Q : D × Bool → Store → Prop} (hT : T.fns[i]? = some fe) (hl : ds.length = fe.arity)
    (h : Wp (sts T (callF T W k) W (ds.map (fun d => some (.val d)) ++ List.replicate (fe.slots - ds.length) none) fe.body) S fun o S' => match o with | .nx _ => Q (.non, false) S' | .rtv d f => Q (d, f) S' | _ => False) : Wp (callF T W (k + 1) i ds) S Q := by
  show Wp (match T.fns[i]? with | some fe => run1 T W (callF T W k) fe ds | none => fail) S Q
  rw [hT]
  show Wp (run1 T W (callF T W k) fe ds) S Q
  unfold run1
  rw [if_pos hl]
  refine wp_bnd (h.imp fun o S' q => ?_)
  cases o with
  | nx de => exact wp_ret q
  | rtv d f => exact wp_ret q
  | bk de => exact q.elim
  | ct de => exact q.elim
theorem wp_callE {i : Nat} {fe : Fe} {ds : List D} {de0 : Env} {Q : D × Bool → Store → Prop} (hT : T.fns[i]? = some fe) (hl : ds.length = fe.arity) (he : ds.map (fun d => some (.val d)) ++ List.replicate (fe.slots - ds.length) none = de0)
    (h : Wp (sts T (callF T W k) W de0 fe.body) S fun o S' => match o with | .nx _ => Q (.non, false) S' | .rtv d f => Q (d, f) S' | _ => False) : Wp (callF T W (k + 1) i ds) S Q := wp_call hT hl (by rw [he]; exact h)
/-- a loop, by an invariant of what is left -/
theorem wp_loop {g : IR} {body : Env → M Out} {Q : Out → Store → Prop} (I : List D → Env → Store → Prop) : ∀ (items : List D) (de : Env) (S : Store), I items de S →
    (∀ x r de S, I (x :: r) de S → ∃ d1, asg g x de = some d1 ∧ Wp (body d1) S fun o S' => match o with | .nx d2 => I r d2 S' | .ct d2 => I r d2 S' | .bk d2 => Q (.nx d2) S' | .rtv d f => Q (.rtv d f) S') → (∀ de S, I [] de S → Q (.nx de) S) → Wp (loop items de g body) S Q
  | [], de, S, h, _, hd => wp_ret (hd de S h)
  | x :: r, de, S, h, hs, hd => by
    obtain ⟨d1, ha, hb⟩ := hs x r de S h
    refine wp_try ha (wp_bnd (hb.imp fun o S' q => ?_))
    cases o with
    | nx d2 => exact wp_loop I r d2 S' q hs hd
    | ct d2 => exact wp_loop I r d2 S' q hs hd
    | bk d2 => exact wp_ret q
    | rtv d f => exact wp_ret q
theorem wp_wloop {c : Env → M Bool} {body : Env → M Out} {Q : Out → Store → Prop} (I : Nat → Env → Store → Prop) (hs : ∀ n de S, I n de S → Wp (c de) S fun b S' => if b = true then (0 < n ∧ Wp (body de) S' fun o S' => match o with | .nx d2 => I (n - 1) d2 S' | .ct d2 => I (n - 1) d2 S' | .bk d2 => Q (.nx d2) S' | .rtv d f => Q (.rtv d f) S') else Q (.nx de) S') :
    ∀ (W n : Nat) (de : Env) (S : Store), n < W → I n de S → Wp (wloop W c body de) S Q
  | 0, n, de, S, hw, h => by omega
  | W + 1, n, de, S, hw, h => by
    refine wp_bnd ((hs n de S h).imp fun b S' q => ?_)
    cases b with
    | false => exact wp_ret q
    | true =>
      obtain ⟨h0, q⟩ : 0 < n ∧ _ := q
      refine wp_bnd (q.imp fun o S2 q => ?_)
      cases o with
      | nx d2 => exact wp_wloop I hs W (n - 1) d2 S2 (by omega) q
      | ct d2 => exact wp_wloop I hs W (n - 1) d2 S2 (by omega) q
      | bk d2 => exact wp_ret q
      | rtv d f => exact wp_ret q
/-- a comprehension whose turns change nothing -/
theorem comp_pure {step : D → M (Option D)} {f : D → Option D} {S : Store} : ∀ {items : List D}, (∀ x ∈ items, step x S = .ok (f x) S) → comp items step S = .ok (items.filterMap f) S
  | [], _ => rfl
  | x :: r, h => by
    show (step x S).bnd (fun o => bnd (comp r step) fun ds => ret (match o with | some d => d :: ds | none => ds)) = _
    rw [h x List.mem_cons_self]
    show (comp r step S).bnd (fun ds => ret (match f x with | some d => d :: ds | none => ds)) = _
    rw [comp_pure fun y hy => h y (List.mem_cons_of_mem _ hy), List.filterMap_cons]
    cases f x <;> rfl
/-- in general: R relates what was taken, what came out -/
theorem wp_comp {step : D → M (Option D)} {Q : List D → Store → Prop} (I : List D → List D → Store → Prop) : ∀ (items : List D) (acc : List D) (S : Store), I items acc S →
    (∀ x r acc S, I (x :: r) acc S → Wp (step x) S fun o S' => match o with | some d => I r (acc ++ [d]) S' | none => I r acc S') → (∀ acc S, I [] acc S → Q acc S) → Wp (comp items step) S fun ds S' => Q (acc ++ ds) S'
  | [], acc, S, h, _, hd => wp_ret (by rw [List.append_nil]; exact hd acc S h)
  | x :: r, acc, S, h, hs, hd => by
    refine wp_bnd ((hs x r acc S h).imp fun o S' q => ?_)
    cases o with
    | none =>
      refine wp_bnd ((wp_comp I r acc S' q hs hd).imp fun ds S2 q2 => wp_ret q2)
    | some d =>
      refine wp_bnd ((wp_comp I r (acc ++ [d]) S' q hs hd).imp fun ds S2 q2 => wp_ret ?_)
      rw [List.append_assoc] at q2
      exact q2
end

/-! ### operators on ints -/
theorem sizeOk0 : sizeOk 0 = true := by decide
theorem v_int (S : Store) (i : Int) : view S (.int i) = .int i := rfl
theorem v_bl (S : Store) (i : Bool) : view S (.bl i) = .bl i := rfl
theorem v_str (S : Store) (i : Str) : view S (.str i) = .str i := rfl
theorem v_tup (S : Store) (i : List D) : view S (.tup i) = .tup i := rfl
theorem v_lst (S : Store) (i : List D) : view S (.lst i) = .lst i := rfl
theorem v_ro (S : Store) (i : List D) : view S (.ro i) = .ro i := rfl
theorem v_dct (S : Store) (i j : List D) : view S (.dct i j) = .dct i j := rfl
theorem v_non (S : Store) : view S .non = .non := rfl
theorem p2_add (i j : Int) : p2 .add (.int i) (.int j) = some (.int (i + j)) := rfl
theorem p2_sub (i j : Int) : p2 .sub (.int i) (.int j) = some (.int (i - j)) := rfl
theorem p2_lt (i j : Int) : p2 .lt (.int i) (.int j) = some (.bl (decide (i < j))) := rfl
theorem p2_le (i j : Int) : p2 .le (.int i) (.int j) = some (.bl (decide (i ≤ j))) := rfl
theorem p2_gt (i j : Int) : p2 .gt (.int i) (.int j) = some (.bl (decide (j < i))) := rfl
theorem p2_ge (i j : Int) : p2 .ge (.int i) (.int j) = some (.bl (decide (j ≤ i))) := rfl
theorem p2_mulL {i j : Int} (h : smallI i = true) : p2 .mul (.int i) (.int j) = some (.int (i * j)) := by
  show (if (smallI i || smallI j) = true then some (D.int (i * j)) else none) = _
  rw [h, Bool.true_or, if_pos rfl]
theorem p2_mulR {i j : Int} (h : smallI j = true) : p2 .mul (.int i) (.int j) = some (.int (i * j)) := by
  show (if (smallI i || smallI j) = true then some (D.int (i * j)) else none) = _
  rw [h, Bool.or_true, if_pos rfl]
theorem p2_fdiv {i j : Int} (h : 0 < j ∧ j < 1073741824) : p2 .fdiv (.int i) (.int j) = some (.int (i / j)) := by
  show (if 0 < j ∧ j < 1073741824 then some (D.int (i / j)) else none) = _
  rw [if_pos h]
theorem p2_mod {i j : Int} (h : 0 < j) : p2 .mod (.int i) (.int j) = some (.int (i % j)) := by
  show (if 0 < j then some (D.int (i % j)) else none) = _
  rw [if_pos h]
theorem p2_pow {i j : Int} (h : 0 ≤ j ∧ j ≤ 1000000 ∧ i.natAbs < 2 ^ 64) : p2 .pow (.int i) (.int j) = some (.int (i ^ j.toNat)) := by
  show (if 0 ≤ j ∧ j ≤ 1000000 ∧ i.natAbs < 2 ^ 64 then some (D.int (i ^ j.toNat)) else none) = _
  rw [if_pos h]
theorem eqD_int (i j : Int) : eqD (.int i) (.int j) = some (decide (i = j)) := by
  show some (PyData.eqv (.int i) (.int j)) = _
  simp only [PyData.eqv]
  rw [Bool.beq_eq_decide_eq]
theorem p2_eqi (i j : Int) : p2 .eq (.int i) (.int j) = some (.bl (decide (i = j))) := by
  show (eqD (.int i) (.int j)).map D.bl = _
  rw [eqD_int]
  rfl
theorem p2_nei (i j : Int) : p2 .ne (.int i) (.int j) = some (.bl (!decide (i = j))) := by
  show (eqD (.int i) (.int j)).map (fun r => D.bl (!r)) = _
  rw [eqD_int]
  rfl
/-! ### the draws that all laws share -/
abbrev dI (ns : List Int) : List D := ns.map .int
def kDraw : List D := [.str "large", .str "cells", .str "rest", .str "turn"]
def St (ls cs : List Int) (r : Int) (t : Nat) (R : List D) : Store := .lst (dI ls) :: .dct kDraw [.box 0, .lst (dI cs), .int r, .int t] :: R
def Dr (n : Nat) (R : List D) (S : Store) : Prop := ∃ ls cs r t, S = St ls cs r t R ∧ t ≤ n
def irBegun : IR := (.cons (.set (.gn 1) (.boxed (.lc [2] (.gn 2) (.iv (.var 0)) (.tb (.o2 .ge (.bi .abs (.cons (.var 2) .nil)) (.o2 .pow (.ki 10) (.ki 18)))) (.o2 .sub (.bi .abs (.cons (.var 2) .nil)) (.o2 .pow (.ki 10) (.ki 18))))))
  (.cons (.rt (.boxed (.dct (.cons (.ks "large") (.cons (.var 1) (.cons (.ks "cells") (.cons (.lc [2] (.gn 2) (.iv (.var 0)) (.kb true) (.o2 .mod (.bi .abs (.cons (.var 2) .nil)) (.ki 2147483629))) (.cons (.ks "rest") (.cons (.ki 0) (.cons (.ks "turn") (.cons (.ki 0) .nil)))))))))))
  .nil))
def irMixed : IR := (.cons (.set (.gn 1) (.o2 .add (.idx (.var 0) (.ks "turn")) (.ki 1)))
  (.cons (.bset (.var 0) (.ks "turn") (.var 1))
  (.cons (.set (.gn 2) (.ki 0))
  (.cons (.forl (.gn 3) (.iv (.lst (.cons (.ki 2147483629) (.cons (.ki 2147483587) (.cons (.ki 2147483579) (.cons (.ki 2147483563) .nil))))))
 (.cons (.set (.gn 4) (.o2 .add (.o2 .mul (.ki 104729) (.var 1)) (.o2 .fdiv (.var 3) (.ki 7))))
  (.cons (.forl (.gn 5) (.iv (.idx (.var 0) (.ks "cells")))
 (.cons (.set (.gn 4) (.o2 .mod (.o2 .add (.o2 .add (.o2 .mul (.var 4) (.ki 48271)) (.var 5)) (.var 1)) (.var 3)))
  .nil))
  (.cons (.set (.gn 2) (.o2 .add (.o2 .mul (.var 2) (.ki 2147483647)) (.o2 .mod (.o2 .pow (.var 4) (.ki 5)) (.var 3))))
  .nil))))
  (.cons (.rt (.var 2))
  .nil)))))
def irTake (mixed : Nat) : IR := (.cons (.cond (.tand (.tb (.o2 .eq (.idx (.var 0) (.ks "rest")) (.ki 0))) (.tb (.o2 .ne (.idx (.var 0) (.ks "large")) (.lst .nil))))
 (.cons (.bset (.var 0) (.ks "rest") (.bpop (.idx (.var 0) (.ks "large")) (.cons (.ki 0) .nil)))
  .nil)
 (.cons (.cond (.tb (.o2 .eq (.idx (.var 0) (.ks "rest")) (.ki 0)))
 (.cons (.bset (.var 0) (.ks "rest") (.call mixed (.cons (.var 0) .nil)))
  .nil)
 .nil)
  .nil))
  (.cons (.set (.gn 2) (.o2 .mod (.idx (.var 0) (.ks "rest")) (.var 1)))
  (.cons (.bset (.var 0) (.ks "rest") (.o2 .fdiv (.idx (.var 0) (.ks "rest")) (.var 1)))
  (.cons (.rt (.var 2))
  .nil))))
def irPick (take : Nat) : IR := (.cons (.rt (.idx (.var 1) (.call take (.cons (.var 0) (.cons (.bi .len (.cons (.var 1) .nil)) .nil)))))
  .nil)
def irShuffled (take : Nat) : IR := (.cons (.par [(2, false), (3, true)] (.cons (.boxed (.bi .list (.cons (.var 1) .nil))) (.cons (.lst .nil) .nil)))
  (.cons (.whl (.tb (.o2 .ne (.var 2) (.lst .nil)))
 (.cons (.app 3 (.bpop (.var 2) (.cons (.call take (.cons (.var 0) (.cons (.bi .len (.cons (.var 2) .nil)) .nil))) .nil)))
  .nil))
  (.cons (.free 3) (.cons (.rt (.var 3))
  .nil))))

section
variable {T : Tb} {C : Calls} {W k : Nat}
theorem sts_one {de : Env} {S : Store} {s t : IR} {Q : Out → Store → Prop} (h : Wp (st T C W de s) S fun o S' => match o with | .nx d1 => Wp (sts T C W d1 t) S' Q | o => Q o S') : Wp (sts T C W de (.cons s t)) S Q := by
  show Wp (bnd (st T C W de s) fun o => match o with | .nx d1 => sts T C W d1 t | o => ret o) S Q
  refine wp_bnd (h.imp fun o S' q => ?_)
  cases o with
  | nx d1 => exact q
  | rtv d f => exact wp_ret q
  | bk d => exact wp_ret q
  | ct d => exact wp_ret q
/-- the inner walk over the cells -/
theorem mixed_in (d0 d2 d3 : Option EV) (tu pr : Int) (hp : 0 < pr) (S : Store) : ∀ (cs : List Int) (bl : Int) (d5 : Option EV), ∃ (bl' : Int) (d5' : Option EV), (loop (dI cs) [d0, some (.val (.int tu)), d2, some (.val (.int pr)), some (.val (.int bl)), d5] (.gn 5) (fun d1 => sts T C W d1 (.cons (.set (.gn 4) (.o2 .mod (.o2 .add (.o2 .add (.o2 .mul (.var 4) (.ki 48271)) (.var 5)) (.var 1)) (.var 3))) .nil)) S)
      = .ok (.nx [d0, some (.val (.int tu)), d2, some (.val (.int pr)), some (.val (.int bl')), d5']) S ∧ ((cs = [] ∧ bl' = bl) ∨ (0 ≤ bl' ∧ bl' < pr))
  | [], bl, d5 => ⟨bl, d5, rfl, .inl ⟨rfl, rfl⟩⟩
  | c :: cs, bl, d5 => by
    have e : sts T C W [d0, some (.val (.int tu)), d2, some (.val (.int pr)), some (.val (.int bl)), some (.val (.int c))] (.cons (.set (.gn 4) (.o2 .mod (.o2 .add (.o2 .add (.o2 .mul (.var 4) (.ki 48271)) (.var 5)) (.var 1)) (.var 3))) .nil) S = .ok (.nx [d0, some (.val (.int tu)), d2, some (.val (.int pr)), some (.val (.int ((bl * 48271 + c + tu) % pr))), some (.val (.int c))]) S := by
      have e1 : p2 .mul (.int bl) (.int 48271) = some (.int (bl * 48271)) := p2_mulR (by decide)
      have e2 : p2 .mod (.int (bl * 48271 + c + tu)) (.int pr) = some (.int ((bl * 48271 + c + tu) % pr)) := p2_mod hp
      simp only [sts, st, ev, bnd, Res.bnd, ret, lift, tryL, asg, List.getElem?_cons_succ, List.getElem?_cons_zero, v_int, e1, e2, p2_add, List.length_cons, List.length_nil, Nat.lt_irrefl, List.set_cons_succ, List.set_cons_zero]
      rfl
    obtain ⟨bl', d5', h, hr⟩ := mixed_in d0 d2 d3 tu pr hp S cs ((bl * 48271 + c + tu) % pr) (some (.val (.int c)))
    refine ⟨bl', d5', ?_, .inr ?_⟩
    · show Res.bnd (sts T C W [d0, some (.val (.int tu)), d2, some (.val (.int pr)), some (.val (.int bl)), some (.val (.int c))] _ S) _ = _
      rw [e]
      exact h
    · rcases hr with ⟨_, rfl⟩ | hr
      · exact ⟨Int.emod_nonneg _ (by omega), Int.emod_lt_of_pos _ hp⟩
      · exact hr
end
end Y
/-! M2: the shared draws. -/
namespace Y
open PySem L2
section
variable {T : Tb} {C : Calls} {W k : Nat}
def primes : List Int := [2147483629, 2147483587, 2147483579, 2147483563]
theorem cells_at (ls cs : List Int) (r : Int) (t : Nat) (R : List D) : pIdx (view (St ls cs r t R) (.box 1)) (.str "cells") = some (.lst (dI cs)) := by kernel_rfl
theorem mixed_ok {i : Nat} (hT : T.fns[i]? = some ⟨1, 6, irMixed⟩) (ls cs : List Int) (r : Int) (t : Nat) (R : List D) (ht : t < 2 ^ 40) : Wp (callF T W (k + 1) i [.box 1]) (St ls cs r t R) fun x S' => ∃ v, x.1 = .int v ∧ S' = St ls cs r (t + 1) R := by
  refine wp_call hT rfl ?_
  refine sts_one (wp_eq (a := .nx [some (.val (.box 1)), some (.val (.int ((t + 1 : Nat) : Int))), none, none, none, none]) (S' := St ls cs r t R) (by kernel_rfl) ?_)
  refine sts_one (wp_eq (a := .nx [some (.val (.box 1)), some (.val (.int ((t + 1 : Nat) : Int))), none, none, none, none]) (S' := St ls cs r (t + 1) R) (by kernel_rfl) ?_)
  refine sts_one (wp_eq (a := .nx [some (.val (.box 1)), some (.val (.int ((t + 1 : Nat) : Int))), some (.val (.int 0)), none, none, none]) (S' := St ls cs r (t + 1) R) (by kernel_rfl) ?_)
  have key : ∀ (S : Store) (Q : Out → Store → Prop), S = St ls cs r (t + 1) R → (∀ f d3 d4 d5, Q (.nx [some (.val (.box 1)), some (.val (.int ((t + 1 : Nat) : Int))), some (.val (.int f)), d3, d4, d5]) S) → Wp (loop (dI primes) [some (.val (.box 1)), some (.val (.int ((t + 1 : Nat) : Int))), some (.val (.int 0)), none, none, none] (.gn 3) (fun d1 => sts T (callF T W k) W d1 (.cons (.set (.gn 4) (.o2 .add (.o2 .mul (.ki 104729) (.var 1)) (.o2 .fdiv (.var 3) (.ki 7))))
  (.cons (.forl (.gn 5) (.iv (.idx (.var 0) (.ks "cells")))
 (.cons (.set (.gn 4) (.o2 .mod (.o2 .add (.o2 .add (.o2 .mul (.var 4) (.ki 48271)) (.var 5)) (.var 1)) (.var 3)))
  .nil))
  (.cons (.set (.gn 2) (.o2 .add (.o2 .mul (.var 2) (.ki 2147483647)) (.o2 .mod (.o2 .pow (.var 4) (.ki 5)) (.var 3))))
  .nil))))) S Q := by
    intro S Q hS hQ
    refine wp_loop (I := fun items de S' => S' = S ∧ (∀ x ∈ items, ∃ p ∈ primes, x = .int p) ∧ ∃ f d3 d4 d5, de = [some (.val (.box 1)), some (.val (.int ((t + 1 : Nat) : Int))), some (.val (.int f)), d3, d4, d5]) _ _ _ ⟨rfl, fun x hx => ?_, 0, none, none, none, rfl⟩ ?_ ?_
    · obtain ⟨p, hp, e⟩ := List.mem_map.mp hx
      exact ⟨p, hp, e.symm⟩
    · rintro x rest de S' ⟨rfl, hi, f, d3, d4, d5, rfl⟩
      obtain ⟨p, hp, rfl⟩ := hi x List.mem_cons_self
      have hp1 : 0 < p ∧ p < 2147483648 := by
        revert hp
        unfold primes
        simp only [List.mem_cons, List.not_mem_nil, or_false]
        omega
      refine ⟨_, rfl, ?_⟩
      have e1 : p2 .mul (.int 104729) (.int ((t + 1 : Nat) : Int)) = some (.int (104729 * ((t + 1 : Nat) : Int))) := p2_mulL (by decide)
      have e2 : p2 .fdiv (.int p) (.int 7) = some (.int (p / 7)) := p2_fdiv (by decide)
      refine sts_one (wp_eq (a := .nx [some (.val (.box 1)), some (.val (.int ((t + 1 : Nat) : Int))), some (.val (.int f)), some (.val (.int p)), some (.val (.int (104729 * ((t + 1 : Nat) : Int) + p / 7))), d5]) (S' := S') ?_ ?_)
      · simp only [sts, st, ev, evl, evo, evt, evi, bnd, Res.bnd, Res.hush, hush, ret, lift, tryL, asg, asg.asgs, List.getElem?_cons_succ, List.getElem?_cons_zero, List.length_cons, List.length_nil, List.set_cons_succ, List.set_cons_zero, sizeOk0, reduceIte, v_int, e1, e2, p2_add]
        rfl
      obtain ⟨bl, d5', hl, hb⟩ := mixed_in (T := T) (C := callF T W k) (W := W) (some (.val (.box 1))) (some (.val (.int f))) (some (.val (.int p))) ((t + 1 : Nat) : Int) p hp1.1 S' cs (104729 * ((t + 1 : Nat) : Int) + p / 7) d5
      refine sts_one (wp_eq (a := .nx [some (.val (.box 1)), some (.val (.int ((t + 1 : Nat) : Int))), some (.val (.int f)), some (.val (.int p)), some (.val (.int bl)), d5']) (S' := S') ?_ ?_)
      · have ei : evi T (callF T W k) [some (.val (.box 1)), some (.val (.int ((t + 1 : Nat) : Int))), some (.val (.int f)), some (.val (.int p)), some (.val (.int (104729 * ((t + 1 : Nat) : Int) + p / 7))), d5] (.iv (.idx (.var 0) (.ks "cells"))) S' = .ok (dI cs) S' := by
          rw [hS]
          kernel_rfl
        show Res.bnd (evi T (callF T W k) _ _ S') _ = _
        rw [ei]
        exact hl
      have hbl : bl.natAbs < 2 ^ 64 := by
        rcases hb with ⟨_, rfl⟩ | hb
        · have : p / 7 < 2147483648 := by omega
          have : 0 ≤ p / 7 := by omega
          omega
        · omega
      have e4 : p2 .pow (.int bl) (.int 5) = some (.int (bl ^ (5 : Int).toNat)) := p2_pow ⟨by decide, by decide, hbl⟩
      have e5 : ∀ b : Int, p2 .mod (.int b) (.int p) = some (.int (b % p)) := fun b => p2_mod hp1.1
      have e6 : p2 .mul (.int f) (.int 2147483647) = some (.int (f * 2147483647)) := p2_mulR (by decide)
      refine sts_one (wp_eq (a := .nx [some (.val (.box 1)), some (.val (.int ((t + 1 : Nat) : Int))), some (.val (.int (f * 2147483647 + bl ^ (5 : Int).toNat % p))), some (.val (.int p)), some (.val (.int bl)), d5']) (S' := S') ?_ ?_)
      · simp only [sts, st, ev, evl, evo, evt, evi, bnd, Res.bnd, Res.hush, hush, ret, lift, tryL, asg, asg.asgs, List.getElem?_cons_succ, List.getElem?_cons_zero, List.length_cons, List.length_nil, List.set_cons_succ, List.set_cons_zero, sizeOk0, reduceIte, v_int, p2_add, e4, e5, e6]
        rfl
      exact wp_ret ⟨rfl, fun x hx => hi x (List.mem_cons_of_mem _ hx), _, _, _, _, rfl⟩
    · rintro de S' ⟨rfl, _, f, d3, d4, d5, rfl⟩
      exact hQ f d3 d4 d5
  refine sts_one ?_
  show Wp (bnd (evi T (callF T W k) _ _) fun items => loop items _ _ _) _ _
  refine wp_bnd (wp_eq (a := dI primes) (S' := St ls cs r (t + 1) R) (by kernel_rfl) ?_)
  refine key _ _ rfl fun f d3 d4 d5 => ?_
  refine sts_one (wp_eq (a := .rtv (.int f) false) (S' := St ls cs r (t + 1) R) rfl ?_)
  exact ⟨f, rfl, rfl⟩
end
end Y
/-! M3: equality of data without bools. -/
namespace Y
open PySem L2
def sane : Nat → D → Bool
  | _, .non => true
  | _, .int _ => true
  | _, .str s => PyData.strOk s
  | n + 1, .tup xs => xs.all (sane n)
  | n + 1, .lst xs => xs.all (sane n)
  | _, _ => false
theorem sane_ok : ∀ {n : Nat} {d : D}, sane n d = true → d.pure = true ∧ d.py.canLay0 = true ∧ d.py.depth ≤ n
  | n, .non, _ => by cases n <;> exact ⟨rfl, rfl, Nat.zero_le _⟩
  | n, .int i, _ => by cases n <;> exact ⟨rfl, rfl, Nat.zero_le _⟩
  | n, .str s, h => by
    cases n <;> exact ⟨rfl, h, Nat.zero_le _⟩
  | n + 1, .tup xs, h => by
    have h : xs.all (sane n) = true := h
    have : ∀ xs : List D, xs.all (sane n) = true → D.pures xs = true ∧ PyData.canLayAll0 (D.pys xs) = true ∧ PyData.depthAll (D.pys xs) ≤ n := fun xs => by
      induction xs with
      | nil => exact fun _ => ⟨rfl, rfl, Nat.zero_le _⟩
      | cons x xs ih =>
        intro h
        rw [List.all_cons, Bool.and_eq_true] at h
        obtain ⟨h1, h2, h3⟩ := sane_ok h.1
        obtain ⟨i1, i2, i3⟩ := ih h.2
        refine ⟨?_, ?_, ?_⟩
        · show (x.pure && D.pures xs) = true
          rw [h1, i1]
          rfl
        · show (x.py.canLay0 && PyData.canLayAll0 (D.pys xs)) = true
          rw [h2, i2]
          rfl
        · show max x.py.depth (PyData.depthAll (D.pys xs)) ≤ n
          omega
    obtain ⟨i1, i2, i3⟩ := this xs h
    exact ⟨i1, i2, Nat.succ_le_succ i3⟩
  | n + 1, .lst xs, h => by
    have h : xs.all (sane n) = true := h
    have : ∀ xs : List D, xs.all (sane n) = true → D.pures xs = true ∧ PyData.canLayAll0 (D.pys xs) = true ∧ PyData.depthAll (D.pys xs) ≤ n := fun xs => by
      induction xs with
      | nil => exact fun _ => ⟨rfl, rfl, Nat.zero_le _⟩
      | cons x xs ih =>
        intro h
        rw [List.all_cons, Bool.and_eq_true] at h
        obtain ⟨h1, h2, h3⟩ := sane_ok h.1
        obtain ⟨i1, i2, i3⟩ := ih h.2
        refine ⟨?_, ?_, ?_⟩
        · show (x.pure && D.pures xs) = true
          rw [h1, i1]
          rfl
        · show (x.py.canLay0 && PyData.canLayAll0 (D.pys xs)) = true
          rw [h2, i2]
          rfl
        · show max x.py.depth (PyData.depthAll (D.pys xs)) ≤ n
          omega
    obtain ⟨i1, i2, i3⟩ := this xs h
    exact ⟨i1, i2, Nat.succ_le_succ i3⟩
  | 0, .tup _, h => by cases h
  | 0, .lst _, h => by cases h
  | 0, .bl _, h => by cases h
  | 0, .ro _, h => by cases h
  | 0, .dct _ _, h => by cases h
  | 0, .set _, h => by cases h
  | 0, .ins _ _ _, h => by cases h
  | 0, .box _, h => by cases h
  | 0, .cls _, h => by cases h
  | 0, .ty _, h => by cases h
  | n + 1, .bl _, h => by cases h
  | n + 1, .ro _, h => by cases h
  | n + 1, .dct _ _, h => by cases h
  | n + 1, .set _, h => by cases h
  | n + 1, .ins _ _ _, h => by cases h
  | n + 1, .box _, h => by cases h
  | n + 1, .cls _, h => by cases h
  | n + 1, .ty _, h => by cases h
theorem sane_shaped {d : D} {n : Nat} (h : sane n d = true) (hn : n ≤ 64) : d.shaped = true := by
  obtain ⟨h1, h2, h3⟩ := sane_ok h
  show (d.pure && (d.py.canLay0 && decide (d.py.depth ≤ 64))) = true
  rw [h1, h2, decide_eq_true (Nat.le_trans h3 hn)]
  rfl
theorem sane_eqv : ∀ {n : Nat} {a b : D} {m : Nat}, sane n a = true → sane m b = true → (PyData.eqv a.py b.py = true ↔ a = b) := by
  intro n
  induction n with
  | zero =>
    intro a b m ha hb
    cases a <;> first | (cases ha; done) | skip
    all_goals
      cases b <;> first | (cases m <;> (cases hb; done)) | (simp [D.py, PyData.eqv]; done)
  | succ n ih =>
    intro a b m ha hb
    have key : ∀ {xs ys : List D} {m : Nat}, xs.all (sane n) = true → ys.all (sane m) = true → (PyData.eqvAll (D.pys xs) (D.pys ys) = true ↔ xs = ys) := by
      intro xs
      induction xs with
      | nil =>
        intro ys m _ _
        cases ys <;> simp [D.pys, PyData.eqvAll]
      | cons x xs ihx =>
        intro ys m h1 h2
        cases ys with
        | nil => simp [D.pys, PyData.eqvAll]
        | cons y ys =>
          rw [List.all_cons, Bool.and_eq_true] at h1 h2
          simp only [D.pys, PyData.eqvAll, Bool.and_eq_true, List.cons.injEq]
          rw [ih h1.1 h2.1, ihx h1.2 h2.2]
    cases a <;> first | (cases ha; done) | skip
    all_goals
      cases b <;> first | (cases m <;> (cases hb; done)) | (simp [D.py, PyData.eqv]; done) | skip
    all_goals
      cases m with
      | zero => cases hb
      | succ m =>
        simp only [D.py, PyData.eqv, D.tup.injEq, D.lst.injEq]
        exact key ha hb
section
variable {a b : D} {n m : Nat} {S : Store}
theorem eqD_sane (ha : sane n a = true) (hb : sane m b = true) (hn : n ≤ 64) (hm : m ≤ 64) : ∃ r, eqD a b = some r ∧ (r = true ↔ a = b) := by
  refine ⟨_, ?_, sane_eqv ha hb⟩
  show (if (a.shaped && b.shaped) = true then some (PyData.eqv a.py b.py) else none) = _
  rw [sane_shaped ha hn, sane_shaped hb hm]
  rfl
theorem eq_sane (ha : sane n a = true) (hb : sane m b = true) (hn : n ≤ 64) (hm : m ≤ 64) : ∃ r, p2 .eq a b = some (.bl r) ∧ (r = true ↔ a = b) := by
  obtain ⟨r, h1, h2⟩ := eqD_sane ha hb hn hm
  exact ⟨r, by show (eqD a b).map D.bl = _; rw [h1]; rfl, h2⟩
theorem ne_sane (ha : sane n a = true) (hb : sane m b = true) (hn : n ≤ 64) (hm : m ≤ 64) : ∃ r, p2 .ne a b = some (.bl r) ∧ (r = true ↔ a ≠ b) := by
  obtain ⟨r, h1, h2⟩ := eqD_sane ha hb hn hm
  refine ⟨!r, by show (eqD a b).map (fun r => D.bl (!r)) = _; rw [h1]; rfl, ?_⟩
  rw [Bool.not_eq_true', ne_eq, ← h2]
  cases r <;> simp
theorem ne_bl (x y : Bool) : p2 .ne (.bl x) (.bl y) = some (.bl (x != y)) := by cases x <;> cases y <;> rfl
theorem eq_bl (x y : Bool) : p2 .eq (.bl x) (.bl y) = some (.bl (x == y)) := by cases x <;> cases y <;> rfl
theorem isin_sane {ds : List D} (ha : sane n a = true) (hb : ds.all (sane m) = true) (hn : n ≤ 64) (hm : m < 64) : ∃ r, p2 .isin a (.lst ds) = some (.bl r) ∧ (r = true ↔ a ∈ ds) := by
  refine ⟨ds.any fun z => PyData.eqv z.py a.py, ?_, ?_⟩
  · show (if (a.shaped && (D.lst ds).shaped) = true then some (ds.any fun z => PyData.eqv z.py a.py) else none).map D.bl = _
    rw [sane_shaped ha hn, sane_shaped (n := m + 1) (d := .lst ds) hb hm]
    rfl
  · rw [List.any_eq_true]
    constructor
    · rintro ⟨z, hz, e⟩
      rw [sane_eqv (List.all_eq_true.mp hb z hz) ha] at e
      rw [← e]
      exact hz
    · exact fun h => ⟨a, h, (sane_eqv (List.all_eq_true.mp hb a h) ha).mpr rfl⟩
theorem nin_sane {ds : List D} (ha : sane n a = true) (hb : ds.all (sane m) = true) (hn : n ≤ 64) (hm : m < 64) : ∃ r, p2 .nin a (.lst ds) = some (.bl r) ∧ (r = true ↔ a ∉ ds) := by
  obtain ⟨r, h1, h2⟩ := isin_sane ha hb hn hm
  refine ⟨!r, ?_, by rw [Bool.not_eq_true', ← h2]; cases r <;> simp⟩
  have h1 : (p2.pIn a (.lst ds)).map D.bl = some (.bl r) := h1
  show (p2.pIn a (.lst ds)).map (fun r => D.bl (!r)) = _
  cases q : p2.pIn a (.lst ds) with
  | none => rw [q] at h1; cases h1
  | some x =>
    rw [q] at h1
    cases h1
    rfl
/-- an int in a tuple of ints -/
theorem nin_tup (i : Int) (bs : List Int) : p2 .nin (.int i) (.tup (dI bs)) = some (.bl (!decide (i ∈ bs))) := by
  have h : (dI bs).all D.flat = true := by
    rw [List.all_eq_true]
    intro x hx
    obtain ⟨j, _, rfl⟩ := List.mem_map.mp hx
    rfl
  show (if ((D.int i).flat && (dI bs).all D.flat) = true then some ((dI bs).any fun z => PyData.eqv z.py (D.int i).py) else none).map (fun r => D.bl (!r)) = _
  rw [h]
  show some (D.bl (!((dI bs).any fun z => PyData.eqv z.py (D.int i).py))) = _
  have : ((dI bs).any fun z => PyData.eqv z.py (D.int i).py) = decide (i ∈ bs) := by
    rw [Bool.eq_iff_iff, List.any_eq_true, decide_eq_true_eq]
    constructor
    · rintro ⟨z, hz, e⟩
      obtain ⟨j, hj, rfl⟩ := List.mem_map.mp hz
      have : j = i := by simpa [D.py, PyData.eqv] using e
      exact this ▸ hj
    · exact fun h => ⟨.int i, List.mem_map.mpr ⟨i, h, rfl⟩, by simp [D.py, PyData.eqv]⟩
  rw [this]
theorem sane_dI (ns : List Int) (n : Nat) : (dI ns).all (sane n) = true := by
  rw [List.all_eq_true]
  intro x hx
  obtain ⟨j, _, rfl⟩ := List.mem_map.mp hx
  cases n <;> rfl
end
end Y
/-! M4: the shared draws: take, pick, shuffled, begun. -/
namespace Y
open PySem L2
section
variable {T : Tb} {C : Calls} {W k : Nat}
theorem rest_at (ls cs : List Int) (r : Int) (t : Nat) (R : List D) : pIdx (view (St ls cs r t R) (.box 1)) (.str "rest") = some (.int r) := by kernel_rfl
theorem large_at (ls cs : List Int) (r : Int) (t : Nat) (R : List D) : pIdx (view (St ls cs r t R) (.box 1)) (.str "large") = some (.box 0) := by kernel_rfl
theorem view0 (ls cs : List Int) (r : Int) (t : Nat) (R : List D) : view (St ls cs r t R) (.box 0) = .lst (dI ls) := rfl
theorem ne_nil (ls : List D) (h : ls.all (sane 60) = true) : p2 .ne (.lst ls) (.lst []) = some (.bl (!ls.isEmpty)) := by
  obtain ⟨r, h1, h2⟩ := ne_sane (a := .lst ls) (b := .lst []) (n := 61) (m := 1) h rfl (by decide) (by decide)
  rw [h1]
  congr 2
  rw [Bool.eq_iff_iff, h2]
  cases ls <;> simp
theorem eq_nil (ls : List D) (h : ls.all (sane 60) = true) : p2 .eq (.lst ls) (.lst []) = some (.bl ls.isEmpty) := by
  obtain ⟨r, h1, h2⟩ := eq_sane (a := .lst ls) (b := .lst []) (n := 61) (m := 1) h rfl (by decide) (by decide)
  rw [h1]
  congr 2
  rw [Bool.eq_iff_iff, h2]
  cases ls <;> simp
/-- rest // size, kept -/
theorem take_end (size : Int) (hs : 0 < size ∧ size < 1073741824) (d2 : Option EV) (ls cs : List Int) (r : Int) (t : Nat) (R : List D) (Q : Out → Store → Prop) (h : Q (.rtv (.int (r % size)) false) (St ls cs (r / size) t R)) :
    Wp (sts T C W [some (.val (.box 1)), some (.val (.int size)), d2] (.cons (.set (.gn 2) (.o2 .mod (.idx (.var 0) (.ks "rest")) (.var 1)))
  (.cons (.bset (.var 0) (.ks "rest") (.o2 .fdiv (.idx (.var 0) (.ks "rest")) (.var 1)))
  (.cons (.rt (.var 2))
  .nil)))) (St ls cs r t R) Q := by
  refine sts_one (wp_eq (a := .nx [some (.val (.box 1)), some (.val (.int size)), some (.val (.int (r % size)))]) (S' := St ls cs r t R) ?_ ?_)
  · simp only [sts, st, ev, evl, evo, evt, evi, bnd, Res.bnd, Res.hush, hush, ret, lift, tryL, asg, asg.asgs, List.getElem?_cons_succ, List.getElem?_cons_zero, List.length_cons, List.length_nil, List.set_cons_succ, List.set_cons_zero, sizeOk0, reduceIte, v_str, v_int, rest_at, p2_mod hs.1]
    rfl
  refine sts_one (wp_eq (a := .nx [some (.val (.box 1)), some (.val (.int size)), some (.val (.int (r % size)))]) (S' := St ls cs (r / size) t R) ?_ ?_)
  · simp only [sts, st, ev, evl, evo, evt, evi, bnd, Res.bnd, Res.hush, hush, ret, lift, tryL, asg, asg.asgs, List.getElem?_cons_succ, List.getElem?_cons_zero, List.length_cons, List.length_nil, List.set_cons_succ, List.set_cons_zero, sizeOk0, reduceIte, v_str, v_int, rest_at, p2_fdiv hs]
    kernel_rfl
  exact sts_one (wp_eq (a := .rtv (.int (r % size)) false) (S' := St ls cs (r / size) t R) rfl h)
theorem pop_front (l : Int) (ls cs : List Int) (r : Int) (t : Nat) (R : List D) : popAt 0 (dI (l :: ls)) 0 (St (l :: ls) cs r t R) = .ok (.int l) (St ls cs r t R) := by
  have : ixN (dI (l :: ls)).length 0 = some 0 := by
    unfold ixN
    rw [if_pos (by decide), if_pos (by simp)]
    rfl
  unfold popAt
  rw [if_pos (by decide), this]
  rfl
theorem take_ok {i m : Nat} (hT : T.fns[i]? = some ⟨2, 3, irTake m⟩) (hM : T.fns[m]? = some ⟨1, 6, irMixed⟩) {n : Nat} {R S : List D} (h : Dr n R S) (hn : n < 2 ^ 40) {size : Int} (hs : 0 < size ∧ size < 1073741824) :
    Wp (callF T W (k + 2) i [.box 1, .int size]) S fun x S' => ∃ v, x.1 = .int v ∧ 0 ≤ v ∧ v < size ∧ Dr (n + 1) R S' := by
  obtain ⟨ls, cs, r, t, rfl, ht⟩ := h
  refine wp_callE (de0 := [some (.val (.box 1)), some (.val (.int size)), none]) hT rfl rfl ?_
  have fin : ∀ (ls : List Int) (r : Int) (t : Nat), t ≤ n + 1 → Wp (sts T (callF T W (k + 1)) W [some (.val (.box 1)), some (.val (.int size)), none] (.cons (.set (.gn 2) (.o2 .mod (.idx (.var 0) (.ks "rest")) (.var 1)))
  (.cons (.bset (.var 0) (.ks "rest") (.o2 .fdiv (.idx (.var 0) (.ks "rest")) (.var 1)))
  (.cons (.rt (.var 2))
  .nil)))) (St ls cs r t R) fun o S' => match o with | .nx _ => ∃ v, (D.non) = .int v ∧ 0 ≤ v ∧ v < size ∧ Dr (n + 1) R S' | .rtv d f => ∃ v, d = .int v ∧ 0 ≤ v ∧ v < size ∧ Dr (n + 1) R S' | _ => False := fun ls r t ht =>
    take_end size hs none ls cs r t R _ ⟨_, rfl, Int.emod_nonneg _ (by omega), Int.emod_lt_of_pos _ hs.1, ls, cs, _, t, rfl, ht⟩
  refine sts_one ?_
  show Wp (bnd (evt T _ _ _) fun c => if c = true then sts T _ W _ _ else sts T _ W _ _) _ _
  have e0 : ∀ r : Int, p2 .eq (.int r) (.int 0) = some (.bl (decide (r = 0))) := fun r => p2_eqi r 0
  by_cases hr : r = 0
  · subst hr
    cases ls with
    | nil =>
      refine wp_bnd (wp_eq (a := false) (S' := St [] cs 0 t R) ?_ ?_)
      · simp only [sts, st, ev, evl, evo, evt, evi, bnd, Res.bnd, Res.hush, hush, ret, lift, tryL, asg, asg.asgs, List.getElem?_cons_succ, List.getElem?_cons_zero, List.length_cons, List.length_nil, List.set_cons_succ, List.set_cons_zero, sizeOk0, reduceIte, v_str, v_int, rest_at, large_at, e0, view0, v_lst, decide_true, if_true, ne_nil (dI []) rfl]
        rfl
      rw [if_neg (by simp)]
      refine sts_one ?_
      show Wp (bnd (evt T _ _ _) fun c => if c = true then sts T _ W _ _ else sts T _ W _ _) _ _
      refine wp_bnd (wp_eq (a := true) (S' := St [] cs 0 t R) ?_ ?_)
      · simp only [sts, st, ev, evl, evo, evt, evi, bnd, Res.bnd, Res.hush, hush, ret, lift, tryL, asg, asg.asgs, List.getElem?_cons_succ, List.getElem?_cons_zero, List.length_cons, List.length_nil, List.set_cons_succ, List.set_cons_zero, sizeOk0, reduceIte, v_str, v_int, rest_at, e0, decide_true]
      rw [if_pos rfl]
      refine sts_one ?_
      show Wp (bnd (ev T _ _ (.call m _)) _) _ _
      refine wp_bnd ?_
      show Wp (bnd (evl T _ _ _) _) _ _
      refine wp_bnd (wp_eq (a := [.box 1]) (S' := St [] cs 0 t R) rfl ?_)
      refine wp_bnd ((mixed_ok hM [] cs 0 t R (by omega)).imp fun x S' hx => ?_)
      obtain ⟨v, e, rfl⟩ := hx
      rw [e]
      refine wp_ret ?_
      refine wp_eq (a := .nx [some (.val (.box 1)), some (.val (.int size)), none]) (S' := St [] cs v (t + 1) R) (by kernel_rfl) ?_
      exact wp_ret (wp_ret (fin [] v (t + 1) (by omega)))
    | cons l ls =>
      refine wp_bnd (wp_eq (a := true) (S' := St (l :: ls) cs 0 t R) ?_ ?_)
      · simp only [sts, st, ev, evl, evo, evt, evi, bnd, Res.bnd, Res.hush, hush, ret, lift, tryL, asg, asg.asgs, List.getElem?_cons_succ, List.getElem?_cons_zero, List.length_cons, List.length_nil, List.set_cons_succ, List.set_cons_zero, sizeOk0, reduceIte, v_str, v_int, rest_at, large_at, e0, view0, v_lst, decide_true, if_true, ne_nil (dI (l :: ls)) (sane_dI _ _)]
        rfl
      rw [if_pos rfl]
      refine sts_one (wp_eq (a := .nx [some (.val (.box 1)), some (.val (.int size)), none]) (S' := St ls cs l t R) ?_ ?_)
      · have e : ev T (callF T W (k + 1)) [some (.val (.box 1)), some (.val (.int size)), none] (.bpop (.idx (.var 0) (.ks "large")) (.cons (.ki 0) .nil)) (St (l :: ls) cs 0 t R) = popAt 0 (dI (l :: ls)) 0 (St (l :: ls) cs 0 t R) := by kernel_rfl
        show Res.bnd (ev T (callF T W (k + 1)) [some (.val (.box 1)), some (.val (.int size)), none] (.bpop (.idx (.var 0) (.ks "large")) (.cons (.ki 0) .nil)) (St (l :: ls) cs 0 t R)) _ = _
        rw [e, pop_front]
        kernel_rfl
      exact wp_ret (fin ls l t (by omega))
  · refine wp_bnd (wp_eq (a := false) (S' := St ls cs r t R) ?_ ?_)
    · simp only [sts, st, ev, evl, evo, evt, evi, bnd, Res.bnd, Res.hush, hush, ret, lift, tryL, asg, asg.asgs, List.getElem?_cons_succ, List.getElem?_cons_zero, List.length_cons, List.length_nil, List.set_cons_succ, List.set_cons_zero, sizeOk0, reduceIte, v_str, v_int, rest_at, e0, decide_eq_false hr, if_false]
      rfl
    rw [if_neg (by simp)]
    refine sts_one ?_
    show Wp (bnd (evt T _ _ _) fun c => if c = true then sts T _ W _ _ else sts T _ W _ _) _ _
    refine wp_bnd (wp_eq (a := false) (S' := St ls cs r t R) ?_ ?_)
    · simp only [sts, st, ev, evl, evo, evt, evi, bnd, Res.bnd, Res.hush, hush, ret, lift, tryL, asg, asg.asgs, List.getElem?_cons_succ, List.getElem?_cons_zero, List.length_cons, List.length_nil, List.set_cons_succ, List.set_cons_zero, sizeOk0, reduceIte, v_str, v_int, rest_at, e0, decide_eq_false hr]
    rw [if_neg (by simp)]
    exact wp_ret (wp_ret (fin ls r t (by omega)))
end
end Y
/-! M5: pick, shuffled. -/
namespace Y
open PySem L2
section
variable {T : Tb} {C : Calls} {W k : Nat}
theorem ixN_in {n : Nat} {v : Int} (h0 : 0 ≤ v) (h1 : v < n) : ixN n v = some v.toNat ∧ v.toNat < n := by
  unfold ixN
  rw [if_pos h0, if_pos h1]
  exact ⟨rfl, by omega⟩
theorem atI_in {α : Type} {xs : List α} {v : Int} (h0 : 0 ≤ v) (h1 : v < xs.length) : ∃ h : v.toNat < xs.length, atI xs v = some xs[v.toNat] := by
  obtain ⟨e, h⟩ := ixN_in h0 h1
  refine ⟨h, ?_⟩
  show (ixN xs.length v).bind (fun j => xs[j]?) = _
  rw [e]
  exact List.getElem?_eq_getElem h
theorem pick_ok {i j m : Nat} (hP : T.fns[i]? = some ⟨2, 2, irPick j⟩) (hT : T.fns[j]? = some ⟨2, 3, irTake m⟩) (hM : T.fns[m]? = some ⟨1, 6, irMixed⟩) {n : Nat} {R S : List D} (h : Dr n R S) (hn : n < 2 ^ 40) {xs : List D} (hx : 0 < xs.length) (hx2 : xs.length < 1073741824) :
    Wp (callF T W (k + 3) i [.box 1, .lst xs]) S fun x S' => x.1 ∈ xs ∧ Dr (n + 1) R S' := by
  refine wp_callE (de0 := [some (.val (.box 1)), some (.val (.lst xs))]) hP rfl rfl ?_
  refine sts_one ?_
  show Wp (bnd (ev T _ _ (.idx (.var 1) (.call j _))) fun d => ret (Out.rtv d false)) _ _
  refine wp_bnd ?_
  show Wp (bnd (ret (D.lst xs)) _) _ _
  refine wp_bnd (wp_ret ?_)
  refine wp_bnd ?_
  show Wp (bnd (evl T _ _ _) _) _ _
  refine wp_bnd (wp_eq (a := [.box 1, .int xs.length]) (S' := S) rfl ?_)
  refine wp_bnd ((take_ok hT hM h hn (size := (xs.length : Int)) ⟨by omega, by omega⟩).imp fun x S' hx => ?_)
  obtain ⟨v, e, h0, h1, hd⟩ := hx
  rw [e]
  refine wp_ret ?_
  obtain ⟨hv, e2⟩ := atI_in h0 h1
  refine wp_eq (a := xs[v.toNat]) (S' := S') ?_ ?_
  · show lift (atI xs v) S' = _
    rw [e2]
    rfl
  · exact wp_ret ⟨List.getElem_mem hv, hd⟩
theorem perm_erase {α : Type} : ∀ (l : List α) (i : Nat) (h : i < l.length), (l[i] :: l.eraseIdx i).Perm l
  | x :: l, 0, _ => List.Perm.refl _
  | x :: l, i + 1, h => (List.Perm.swap _ _ _).trans (List.Perm.cons _ (perm_erase l i (by simpa using h)))
theorem St_len (ls cs : List Int) (r : Int) (t : Nat) (R : List D) : (St ls cs r t R).length = 2 + R.length := by
  show R.length + 1 + 1 = _
  omega
theorem St_at (ls cs : List Int) (r : Int) (t : Nat) (R : List D) (d : D) : (St ls cs r t (R ++ [d]))[2 + R.length]? = some d := by
  show (_ :: _ :: (R ++ [d]))[2 + R.length]? = _
  rw [show 2 + R.length = R.length + 1 + 1 from by omega, List.getElem?_cons_succ, List.getElem?_cons_succ, List.getElem?_append_right (Nat.le_refl _), Nat.sub_self]
  rfl
theorem St_set (ls cs : List Int) (r : Int) (t : Nat) (R : List D) (d e : D) : (St ls cs r t (R ++ [d])).set (2 + R.length) e = St ls cs r t (R ++ [e]) := by
  show (_ :: _ :: (R ++ [d])).set (2 + R.length) e = _
  rw [show 2 + R.length = R.length + 1 + 1 from by omega, List.set_cons_succ, List.set_cons_succ, List.set_append_right _ _ (Nat.le_refl _), Nat.sub_self]
  rfl
theorem Dr_at {n : Nat} {R S : List D} {d : D} (h : Dr n (R ++ [d]) S) : S[2 + R.length]? = some d := by
  obtain ⟨ls, cs, r, t, rfl, _⟩ := h
  exact St_at _ _ _ _ _ _
theorem Dr_set {n : Nat} {R S : List D} {d : D} (h : Dr n (R ++ [d]) S) (e : D) : Dr n (R ++ [e]) (S.set (2 + R.length) e) := by
  obtain ⟨ls, cs, r, t, rfl, ht⟩ := h
  exact ⟨ls, cs, r, t, St_set _ _ _ _ _ _ _, ht⟩
theorem view_box {S : Store} {n : Nat} {d : D} (h : S[n]? = some d) : view S (.box n) = d := by
  show S.getD n .non = d
  rw [List.getD_eq_getElem?_getD, h]
  rfl
theorem shuffled_ok {i j m : Nat} (hP : T.fns[i]? = some ⟨2, 4, irShuffled j⟩) (hT : T.fns[j]? = some ⟨2, 3, irTake m⟩) (hM : T.fns[m]? = some ⟨1, 6, irMixed⟩) {n : Nat} {R S : List D} (h : Dr n R S) {xs : List D} (hx2 : xs.length < 100000) (hn : n + xs.length < 2 ^ 40) (hW : xs.length < W) (hs : xs.all (sane 60) = true) :
    Wp (callF T W (k + 3) i [.box 1, .lst xs]) S fun x S' => ∃ ys, x.1 = .lst ys ∧ ys.Perm xs ∧ Dr (n + xs.length) (R ++ [.lst []]) S' := by
  obtain ⟨ls, cs, r, t, rfl, ht⟩ := h
  refine wp_callE (de0 := [some (.val (.box 1)), some (.val (.lst xs)), none, none]) hP rfl rfl ?_
  refine sts_one (wp_eq (a := .nx [some (.val (.box 1)), some (.val (.lst xs)), some (.val (.box (2 + R.length))), some (.own (.lst []))]) (S' := St ls cs r t (R ++ [.lst xs])) ?_ ?_)
  · show Res.ok (Out.nx [_, _, some (EV.val (.box (St ls cs r t R).length)), _]) (St ls cs r t R ++ [.lst xs]) = _
    rw [St_len]
    rfl
  have all_sub : ∀ {ys : List D}, (∀ y ∈ ys, y ∈ xs) → ys.all (sane 60) = true := fun h => List.all_eq_true.mpr fun y hy => List.all_eq_true.mp hs y (h y hy)
  refine sts_one ?_
  show Wp (wloop W (fun d1 => evt T (callF T W (k + 2)) d1 _) (fun d1 => sts T (callF T W (k + 2)) W d1 _) _) _ _
  refine wp_wloop (I := fun q de S => ∃ left acc, q = left.length ∧ de = [some (.val (.box 1)), some (.val (.lst xs)), some (.val (.box (2 + R.length))), some (.own (.lst acc))] ∧ Dr (n + acc.length) (R ++ [.lst left]) S ∧ (acc ++ left).Perm xs) ?_ W xs.length _ _ hW ⟨xs, [], rfl, rfl, ⟨ls, cs, r, t, rfl, ht⟩, List.Perm.refl _⟩
  rintro q de S ⟨left, acc, rfl, rfl, hd, hp⟩
  have hl : acc.length + left.length = xs.length := by rw [← List.length_append]; exact hp.length_eq
  have sub : ∀ y ∈ left, y ∈ xs := fun y hy => hp.mem_iff.mp (List.mem_append_right _ hy)
  have va : view S (.box (2 + R.length)) = .lst left := view_box (Dr_at hd)
  refine wp_eq (a := !left.isEmpty) (S' := S) ?_ ?_
  · simp only [sts, st, ev, evl, evo, evt, evi, bnd, Res.bnd, Res.hush, hush, ret, lift, tryL, asg, asg.asgs, List.getElem?_cons_succ, List.getElem?_cons_zero, List.length_cons, List.length_nil, List.set_cons_succ, List.set_cons_zero, sizeOk0, reduceIte, va, v_lst, ne_nil left (all_sub sub)]
  cases left with
  | nil =>
    rw [if_neg (by simp)]
    rw [List.append_nil] at hp
    refine sts_one (wp_eq (a := .nx [some (.val (.box 1)), some (.val (.lst xs)), some (.val (.box (2 + R.length))), some (.val (.lst acc))]) (S' := S) rfl ?_)
    refine sts_one (wp_eq (a := .rtv (.lst acc) false) (S' := S) rfl ?_)
    refine ⟨acc, rfl, hp, ?_⟩
    rw [← hp.length_eq]
    exact hd
  | cons l left =>
    rw [if_pos (by simp)]
    refine ⟨by simp, sts_one ?_⟩
    show Wp (bnd (ev T _ _ (.bpop _ _)) fun d => if decide (acc.length < sizeLine) = true then ret _ else fail) _ _
    refine wp_bnd ?_
    show Wp (bnd (ret (D.box (2 + R.length))) _) _ _
    refine wp_bnd (wp_ret ?_)
    refine wp_bnd (wp_eq (a := ()) (S' := S) ?_ ?_)
    · show (match S[2 + R.length]? with | some (.lst _) => Res.ok () S | _ => .bad) = _
      rw [Dr_at hd]
    show Wp (bnd (bnd (bnd (evl T _ _ _) _) _) _) _ _
    refine wp_bnd (wp_bnd (wp_bnd (wp_eq (a := [.box 1, .int ((l :: left).length : Int)]) (S' := S) ?_ ?_)))
    · have : pBi .len [D.lst (l :: left)] = some (.int ((l :: left).length : Int)) := rfl
      simp only [sts, st, ev, evl, evo, evt, evi, bnd, Res.bnd, Res.hush, hush, ret, lift, tryL, asg, asg.asgs, List.getElem?_cons_succ, List.getElem?_cons_zero, List.length_cons, List.length_nil, List.set_cons_succ, List.set_cons_zero, sizeOk0, reduceIte, va, List.map_cons, List.map_nil, this]
    rw [List.length_cons] at hl
    refine wp_bnd ((take_ok hT hM hd (by omega) (size := ((l :: left).length : Int)) ⟨by rw [List.length_cons]; omega, by rw [List.length_cons]; omega⟩).imp fun x S' hx => ?_)
    obtain ⟨v, e, h0, h1, hd'⟩ := hx
    rw [e]
    refine wp_ret (wp_ret ?_)
    obtain ⟨e3, hv⟩ := ixN_in h0 h1
    rw [List.length_cons] at h1
    refine wp_eq (a := (l :: left)[v.toNat]) (S' := S'.set (2 + R.length) (.lst ((l :: left).eraseIdx v.toNat))) ?_ ?_
    · show popR (.box (2 + R.length)) (some v) S' = _
      unfold popR
      dsimp only
      rw [Dr_at hd']
      show popAt (2 + R.length) (l :: left) v S' = _
      unfold popAt
      rw [if_pos ⟨by omega, by omega⟩, e3]
      dsimp only
      rw [List.getElem?_eq_getElem hv]
    rw [if_pos (decide_eq_true (by rw [sizeLine_eq]; omega))]
    refine wp_ret (wp_ret ⟨(l :: left).eraseIdx v.toNat, acc ++ [(l :: left)[v.toNat]], ?_, rfl, ?_, ?_⟩)
    · rw [List.length_eraseIdx_of_lt hv]
    · rw [List.length_append, ← Nat.add_assoc]
      exact Dr_set hd' _
    · refine List.Perm.trans ?_ hp
      rw [List.append_assoc]
      exact List.Perm.append_left _ (perm_erase _ _ hv)
end
end Y
/-! M6: begun, cuts, gaps, below, every. -/
namespace Y
open PySem L2
section
variable {T : Tb} {C : Calls} {W k : Nat}
theorem dI_app (a b : List Int) : dI (a ++ b) = dI a ++ dI b := List.map_append
theorem wp_lc {de : Env} {vs : List Nat} {g it c e : IR} {S : Store} {Q : D → Store → Prop} (h : Wp (evi T C de it) S fun items S1 => Wp (comp items (stepE T C de vs g c e)) S1 fun ds S2 => Q (.lst ds) S2) : Wp (ev T C de (.lc vs g it c e)) S Q :=
  wp_bnd (h.imp fun items S1 q => wp_bnd (q.imp fun ds S2 q => wp_ret q))
theorem abs_i (i : Int) : pBi .abs [.int i] = some (.int (if i < 0 then -i else i)) := rfl
theorem big_i : p2 .pow (.int 10) (.int 18) = some (.int 1000000000000000000) := by
  rw [p2_pow ⟨by decide, by decide, by decide⟩]
  rfl
theorem begun_ok {i : Nat} (hT : T.fns[i]? = some ⟨1, 3, irBegun⟩) (ns : List Int) : Wp (callF T W (k + 1) i [.ro (dI ns)]) [] fun x S' => x.1 = .box 1 ∧ Dr 0 [] S' := by
  refine wp_callE (de0 := [some (.val (.ro (dI ns))), none, none]) hT rfl rfl ?_
  refine sts_one ?_
  show Wp (bnd (bnd (ev T _ _ (.lc _ _ _ _ _)) _) _) _ _
  refine wp_bnd (wp_bnd (wp_lc (wp_eq (a := dI ns) (S' := []) rfl ?_)))
  have s1 : ∀ c : Int, stepE T (callF T W k) [some (.val (.ro (dI ns))), none, none] [2] (.gn 2) (.tb (.o2 .ge (.bi .abs (.cons (.var 2) .nil)) (.o2 .pow (.ki 10) (.ki 18)))) (.o2 .sub (.bi .abs (.cons (.var 2) .nil)) (.o2 .pow (.ki 10) (.ki 18))) (.int c) [] = .ok (if (1000000000000000000 : Int) ≤ (if c < 0 then -c else c) then some (.int ((if c < 0 then -c else c) - 1000000000000000000)) else none) [] := fun c => by
    have ha : asg (.gn 2) (.int c) (wipeE [some (.val (.ro (dI ns))), none, none] [2]) = some [some (.val (.ro (dI ns))), none, some (.val (.int c))] := rfl
    unfold stepE
    rw [ha]
    by_cases hc : (1000000000000000000 : Int) ≤ (if c < 0 then -c else c)
    · rw [if_pos hc]
      simp only [sts, st, ev, evl, evo, evt, evi, bnd, Res.bnd, Res.hush, hush, ret, lift, tryL, asg, asg.asgs, List.getElem?_cons_succ, List.getElem?_cons_zero, List.length_cons, List.length_nil, List.set_cons_succ, List.set_cons_zero, sizeOk0, reduceIte, List.map_cons, List.map_nil, v_int, abs_i, big_i, p2_ge, p2_sub, decide_eq_true hc]
    · rw [if_neg hc]
      simp only [sts, st, ev, evl, evo, evt, evi, bnd, Res.bnd, Res.hush, hush, ret, lift, tryL, asg, asg.asgs, List.getElem?_cons_succ, List.getElem?_cons_zero, List.length_cons, List.length_nil, List.set_cons_succ, List.set_cons_zero, sizeOk0, reduceIte, List.map_cons, List.map_nil, v_int, abs_i, big_i, p2_ge, p2_sub, decide_eq_false hc]
      rfl
  have e1 : ∃ ls, comp (dI ns) (stepE T (callF T W k) [some (.val (.ro (dI ns))), none, none] [2] (.gn 2) (.tb (.o2 .ge (.bi .abs (.cons (.var 2) .nil)) (.o2 .pow (.ki 10) (.ki 18)))) (.o2 .sub (.bi .abs (.cons (.var 2) .nil)) (.o2 .pow (.ki 10) (.ki 18)))) [] = .ok (dI ls) [] := by
    generalize ns = ms at s1 ⊢
    have gen : ∀ (de : Env) (st : D → M (Option D)) (f : Int → Option Int), (∀ c, st (.int c) [] = .ok ((f c).map D.int) []) → ∀ ns, ∃ ls, comp (dI ns) st [] = .ok (dI ls) [] := fun _ st f hf ns => by
      induction ns with
      | nil => exact ⟨[], rfl⟩
      | cons c ns ih =>
        obtain ⟨ls, h⟩ := ih
        refine ⟨(match f c with | some x => x :: ls | none => ls), ?_⟩
        show (st (.int c) []).bnd (fun o => bnd (comp (dI ns) st) fun ds => ret (match o with | some d => d :: ds | none => ds)) = _
        rw [hf]
        show (comp (dI ns) st []).bnd _ = _
        rw [h]
        cases f c <;> rfl
    refine gen [] _ (fun c => if (1000000000000000000 : Int) ≤ (if c < 0 then -c else c) then some ((if c < 0 then -c else c) - 1000000000000000000) else none) (fun c => ?_) ms
    rw [s1]
    congr 1
    generalize (if c < 0 then -c else c) = z
    split <;> rfl
  obtain ⟨ls, e1⟩ := e1
  refine wp_eq e1 ?_
  refine wp_eq (a := D.box 0) (S' := [.lst (dI ls)]) rfl ?_
  refine wp_ret ?_
  refine sts_one ?_
  show Wp (bnd (bnd (bnd (evl T _ _ (.cons _ (.cons _ (.cons _ (.cons (.lc _ _ _ _ _) _))))) _) _) _) _ _
  have s2 : ∀ c : Int, stepE T (callF T W k) [some (.val (.ro (dI ns))), some (.val (.box 0)), none] [2] (.gn 2) (.kb true) (.o2 .mod (.bi .abs (.cons (.var 2) .nil)) (.ki 2147483629)) (.int c) [.lst (dI ls)] = .ok (some (.int ((if c < 0 then -c else c) % 2147483629))) [.lst (dI ls)] := fun c => by
    have ha : asg (.gn 2) (.int c) (wipeE [some (.val (.ro (dI ns))), some (.val (.box 0)), none] [2]) = some [some (.val (.ro (dI ns))), some (.val (.box 0)), some (.val (.int c))] := rfl
    unfold stepE
    rw [ha]
    simp only [sts, st, ev, evl, evo, evt, evi, bnd, Res.bnd, Res.hush, hush, ret, lift, tryL, asg, asg.asgs, List.getElem?_cons_succ, List.getElem?_cons_zero, List.length_cons, List.length_nil, List.set_cons_succ, List.set_cons_zero, sizeOk0, reduceIte, List.map_cons, List.map_nil, v_int, abs_i, p2_mod (show (0 : Int) < 2147483629 from by decide)]
  have e2 : comp (dI ns) (stepE T (callF T W k) [some (.val (.ro (dI ns))), some (.val (.box 0)), none] [2] (.gn 2) (.kb true) (.o2 .mod (.bi .abs (.cons (.var 2) .nil)) (.ki 2147483629))) [.lst (dI ls)] = .ok (dI (ns.map fun c => (if c < 0 then -c else c) % 2147483629)) [.lst (dI ls)] := by
    rw [comp_pure (f := fun d => match d with | .int c => some (.int ((if c < 0 then -c else c) % 2147483629)) | _ => none) fun x hx => by
      obtain ⟨c, _, rfl⟩ := List.mem_map.mp hx
      exact s2 c]
    congr 1
    generalize ns = ms
    induction ms with
    | nil => rfl
    | cons c ms ih =>
      show _ :: List.filterMap _ (dI ms) = _
      rw [ih]
      rfl
  refine wp_bnd (wp_bnd (wp_bnd ?_))
  refine wp_bnd (wp_eq (a := D.str "large") (S' := [.lst (dI ls)]) rfl ?_)
  refine wp_bnd (wp_bnd (wp_eq (a := D.box 0) (S' := [.lst (dI ls)]) rfl ?_))
  refine wp_bnd (wp_bnd (wp_eq (a := D.str "cells") (S' := [.lst (dI ls)]) rfl ?_))
  refine wp_bnd (wp_bnd (wp_lc (wp_eq (a := dI ns) (S' := [.lst (dI ls)]) rfl (wp_eq e2 ?_))))
  refine wp_bnd (wp_eq (a := [D.str "rest", .int 0, .str "turn", .int 0]) (S' := [.lst (dI ls)]) rfl ?_)
  refine wp_ret (wp_ret (wp_ret (wp_ret ?_)))
  refine wp_eq (a := D.dct kDraw [.box 0, .lst (dI (ns.map fun c => (if c < 0 then -c else c) % 2147483629)), .int 0, .int 0]) (S' := [.lst (dI ls)]) (by kernel_rfl) ?_
  refine wp_eq (a := D.box 1) (S' := St ls (ns.map fun c => (if c < 0 then -c else c) % 2147483629) 0 0 []) rfl ?_
  exact wp_ret ⟨rfl, ls, _, 0, 0, rfl, Nat.le_refl _⟩

/-! ### cuts, gaps -/
def irCuts (take : Nat) : IR := (.cons (.rt (.bi .tuple (.cons (.lc [3] (.gn 3) (.ir1 (.var 1)) (.kb true) (.call take (.cons (.var 0) (.cons (.var 2) .nil)))) .nil)))
  .nil)
def irGaps (take : Nat) : IR := (.cons (.seto 3 (.lst .nil))
  (.cons (.forl (.gn 4) (.ir1 (.var 1))
 (.cons (.set (.gn 5) (.lc [6] (.gn 6) (.ir1 (.var 2)) (.tb (.o2 .eq (.call take (.cons (.var 0) (.cons (.ki 3) .nil))) (.ki 0))) (.var 6)))
  (.cons (.app 3 (.ife (.tb (.o2 .ne (.var 5) (.lst .nil))) (.bi .tuple (.cons (.var 5) .nil)) (.tup (.cons (.call take (.cons (.var 0) (.cons (.var 2) .nil))) .nil))))
  .nil)))
  (.cons (.rt (.bi .tuple (.cons (.own 3) .nil)))
  .nil)))
def dR (n : Nat) : List D := (List.range n).map fun i => .int (i : Nat)
theorem evi_r {de : Env} {a : IR} {S : Store} {n : Nat} (e : ev T C de a S = .ok (.int (n : Int)) S) (hn : n ≤ 16777216) : evi T C de (.ir1 a) S = .ok (dR n) S := by
  show (ev T C de a S).bnd _ = _
  rw [e]
  show (if (n : Int) ≤ 16777216 ∧ -(2 ^ 62) ≤ (n : Int) then ret ((List.range (n : Int).toNat).map fun i => D.int (i : Nat)) else fail : M (List D)) S = _
  rw [if_pos ⟨by omega, by omega⟩]
  rfl
theorem dR_len (n : Nat) : (dR n).length = n := by
  unfold dR
  rw [List.length_map, List.length_range]
/-- a call in the middle of a run -/
theorem wp_ecall {de : Env} {f : Nat} {a : IR} {S : Store} {ds : List D} {Q : D → Store → Prop} (e : evl T C de a S = .ok ds S) (h : Wp (C f ds) S fun r S' => Q r.1 S') : Wp (ev T C de (.call f a)) S Q :=
  wp_bnd (wp_eq e (wp_bnd (h.imp fun r S' q => wp_ret q)))
theorem cuts_ok {i j m : Nat} (hP : T.fns[i]? = some ⟨3, 4, irCuts j⟩) (hT : T.fns[j]? = some ⟨2, 3, irTake m⟩) (hM : T.fns[m]? = some ⟨1, 6, irMixed⟩) {n : Nat} {R S : List D} (h : Dr n R S) {size far : Nat} (hs : size ≤ 1000) (hn : n + size < 2 ^ 40) (hf : 0 < far ∧ far < 1000000) :
    Wp (callF T W (k + 3) i [.box 1, .int size, .int far]) S fun x S' => ∃ cs : List Nat, x.1 = .tup (dI (cs.map Int.ofNat)) ∧ cs.length = size ∧ (∀ c ∈ cs, c < far) ∧ Dr (n + size) R S' := by
  refine wp_callE (de0 := [some (.val (.box 1)), some (.val (.int size)), some (.val (.int far)), none]) hP rfl rfl ?_
  refine sts_one ?_
  show Wp (bnd (bnd (bnd (ev T _ _ (.lc _ _ _ _ _)) _) _) _) _ _
  refine wp_bnd (wp_bnd (wp_bnd (wp_lc (wp_eq (evi_r (n := size) rfl (by omega)) ?_))))
  refine Wp.imp (wp_comp (I := fun items acc S' => ∃ cs : List Nat, acc = dI (cs.map Int.ofNat) ∧ (∀ c ∈ cs, c < far) ∧ cs.length + items.length = size ∧ Dr (n + cs.length) R S') (Q := fun ds S' => ∃ cs : List Nat, ds = dI (cs.map Int.ofNat) ∧ cs.length = size ∧ (∀ c ∈ cs, c < far) ∧ Dr (n + size) R S') (dR size) [] S ⟨[], rfl, by simp, by rw [dR_len]; simp, h⟩ ?_ ?_) ?_
  · rintro x r acc S' ⟨cs, rfl, hc, hl, hd⟩
    rw [List.length_cons] at hl
    refine wp_try (a := [some (.val (.box 1)), some (.val (.int size)), some (.val (.int far)), some (.val x)]) rfl ?_
    refine wp_bnd (wp_eq (a := true) (S' := S') rfl ?_)
    rw [if_pos rfl]
    refine wp_bnd (wp_hush (wp_ecall (ds := [.box 1, .int far]) rfl ((take_ok hT hM hd (by omega) (size := (far : Int)) ⟨by omega, by omega⟩).imp fun y S2 hy => ?_)))
    obtain ⟨v, e, h0, h1, hd'⟩ := hy
    rw [e]
    refine wp_ret ⟨cs ++ [v.toNat], ?_, fun c hc' => ?_, by rw [List.length_append]; simp; omega, by rw [List.length_append, ← Nat.add_assoc]; exact hd'⟩
    · rw [List.map_append, dI_app]
      show _ ++ [D.int v] = _ ++ [D.int (Int.ofNat v.toNat)]
      rw [show Int.ofNat v.toNat = v from Int.toNat_of_nonneg h0]
    · rcases List.mem_append.mp hc' with z | z
      · exact hc c z
      · rw [List.mem_singleton.mp z]
        omega
  · rintro acc S' ⟨cs, rfl, hc, hl, hd⟩
    rw [List.length_nil, Nat.add_zero] at hl
    exact ⟨cs, rfl, hl, hc, by rw [← hl]; exact hd⟩
  · rintro ds S' ⟨cs, e, hl, hc, hd⟩
    rw [List.nil_append] at e
    subst e
    refine wp_ret (wp_eq (a := D.tup (dI (cs.map Int.ofNat))) (S' := S') rfl ?_)
    exact wp_ret ⟨cs, rfl, hl, hc, hd⟩
/-- ascending -/
def Asc (l : List Nat) : Prop := l.Pairwise (· < ·)
theorem gaps_ok {i j m : Nat} (hP : T.fns[i]? = some ⟨3, 7, irGaps j⟩) (hT : T.fns[j]? = some ⟨2, 3, irTake m⟩) (hM : T.fns[m]? = some ⟨1, 6, irMixed⟩) {n : Nat} {R S : List D} (h : Dr n R S) {size far : Nat} (hs : size ≤ 1000) (hf : 0 < far ∧ far < 1000) (hn : n + size * (far + 1) < 2 ^ 40) :
    Wp (callF T W (k + 3) i [.box 1, .int size, .int far]) S fun x S' => ∃ gs : List (List Nat), x.1 = .tup (gs.map fun g => .tup (dI (g.map Int.ofNat))) ∧ gs.length = size ∧ (∀ g ∈ gs, Asc g ∧ g ≠ [] ∧ ∀ c ∈ g, c < far) ∧ Dr (n + size * (far + 1)) R S' := by
  refine wp_callE (de0 := [some (.val (.box 1)), some (.val (.int size)), some (.val (.int far)), none, none, none, none]) hP rfl rfl ?_
  refine sts_one (wp_eq (a := .nx [some (.val (.box 1)), some (.val (.int size)), some (.val (.int far)), some (.own (.lst [])), none, none, none]) (S' := S) rfl ?_)
  refine sts_one ?_
  show Wp (bnd (evi T _ _ (.ir1 _)) fun items => loop items _ _ _) _ _
  refine wp_bnd (wp_eq (evi_r (n := size) rfl (by omega)) ?_)
  refine wp_loop (I := fun items de S' => ∃ (gs : List (List Nat)) (d4 d5 d6 : Option EV), de = [some (.val (.box 1)), some (.val (.int size)), some (.val (.int far)), some (.own (.lst (gs.map fun g => .tup (dI (g.map Int.ofNat))))), d4, d5, d6] ∧ gs.length + items.length = size ∧ (∀ g ∈ gs, Asc g ∧ g ≠ [] ∧ ∀ c ∈ g, c < far) ∧ Dr (n + gs.length * (far + 1)) R S') _ _ _ ⟨[], none, none, none, rfl, by rw [dR_len]; simp, by simp, by simpa using h⟩ ?_ ?_
  · rintro x r de S' ⟨gs, d4, d5, d6, rfl, hl, hg, hd⟩
    rw [List.length_cons] at hl
    have hmul : gs.length * (far + 1) + (far + 1) ≤ size * (far + 1) := by
      rw [← Nat.succ_mul]
      exact Nat.mul_le_mul_right _ (by omega)
    refine ⟨_, rfl, sts_one ?_⟩
    show Wp (bnd (ev T _ _ (.lc _ _ _ _ _)) _) _ _
    refine wp_bnd (wp_lc (wp_eq (evi_r (n := far) rfl (by omega)) ?_))
    refine Wp.imp (wp_comp (I := fun items acc S' => ∃ (g : List Nat) (q : Nat), acc = dI (g.map Int.ofNat) ∧ items = (List.range' q (far - q)).map (fun i => D.int (i : Nat)) ∧ q ≤ far ∧ Asc g ∧ (∀ c ∈ g, c < q) ∧ Dr (n + gs.length * (far + 1) + q) R S') (Q := fun ds S' => ∃ g : List Nat, ds = dI (g.map Int.ofNat) ∧ Asc g ∧ (∀ c ∈ g, c < far) ∧ Dr (n + gs.length * (far + 1) + far) R S') (dR far) [] S' ⟨[], 0, rfl, by unfold dR; rw [List.range_eq_range', Nat.sub_zero], Nat.zero_le _, List.Pairwise.nil, by simp, hd⟩ ?_ ?_) ?_
    · rintro y r' acc S2 ⟨g, q, rfl, hr, hq, ha, hc, hd2⟩
      have hlt : q < far := by
        refine Decidable.byContradiction fun z => ?_
        rw [show far - q = 0 from by omega] at hr
        cases hr
      rw [show far - q = (far - (q + 1)) + 1 from by omega, List.range'_succ, List.map_cons] at hr
      obtain ⟨rfl, rfl⟩ := List.cons.inj hr
      refine wp_try (a := [some (.val (.box 1)), some (.val (.int size)), some (.val (.int far)), some (.own (.lst (gs.map fun g => .tup (dI (g.map Int.ofNat))))), some (.val x), d5, some (.val (.int (q : Nat)))]) rfl ?_
      refine wp_bnd (wp_hush ?_)
      show Wp (bnd (bnd (ev T _ _ (.call j _)) _) _) _ _
      refine wp_bnd (wp_bnd (wp_ecall (ds := [.box 1, .int 3]) rfl ((take_ok hT hM hd2 (by omega) (size := 3) ⟨by decide, by decide⟩).imp fun y S3 hy => ?_)))
      obtain ⟨v, e, h0, h1, hd3⟩ := hy
      rw [e]
      refine wp_bnd (wp_ret (wp_eq (a := D.bl (decide (v = 0))) (S' := S3) ?_ ?_))
      · rw [v_int, v_int, p2_eqi]
        rfl
      refine wp_ret ?_
      by_cases hv : v = 0
      · rw [decide_eq_true hv, if_pos rfl]
        refine wp_bnd (wp_hush (wp_eq (a := D.int (q : Nat)) (S' := S3) rfl (wp_ret ?_)))
        refine ⟨g ++ [q], q + 1, ?_, rfl, by omega, ?_, fun c hc' => ?_, by rw [← Nat.add_assoc]; exact hd3⟩
        · rw [List.map_append, dI_app]
          rfl
        · refine List.pairwise_append.mpr ⟨ha, List.pairwise_singleton _ _, fun a ha' b hb => ?_⟩
          rw [List.mem_singleton.mp hb]
          exact hc a ha'
        · rcases List.mem_append.mp hc' with z | z
          · have := hc c z; omega
          · rw [List.mem_singleton.mp z]; omega
      · rw [decide_eq_false hv, if_neg (by simp)]
        refine wp_ret ⟨g, q + 1, rfl, rfl, by omega, ha, fun c hc' => by have := hc c hc'; omega, by rw [← Nat.add_assoc]; exact hd3⟩
    · rintro acc S2 ⟨g, q, rfl, hr, hq, ha, hc, hd2⟩
      have : q = far := by
        refine Decidable.byContradiction fun z => ?_
        rw [show far - q = (far - (q + 1)) + 1 from by omega, List.range'_succ] at hr
        cases hr
      subst this
      exact ⟨g, rfl, ha, hc, hd2⟩
    · rintro ds S2 ⟨g, e, ha, hc, hd2⟩
      rw [List.nil_append] at e
      subst e
      refine wp_ret (sts_one ?_)
      show Wp (bnd (ev T _ _ (.ife _ _ _)) fun d => if decide ((gs.map fun g => D.tup (dI (g.map Int.ofNat))).length < sizeLine) = true then ret _ else fail) _ _
      have fin : ∀ (g : List Nat) (S3 : Store), Asc g → g ≠ [] → (∀ c ∈ g, c < far) → Dr (n + gs.length * (far + 1) + (far + 1)) R S3 → ∀ (d4 d5 d6 : Option EV), ∃ (gs' : List (List Nat)) (d4' d5' d6' : Option EV), ([some (.val (.box 1)), some (.val (.int size)), some (.val (.int far)), some (.own (.lst (gs.map (fun g => D.tup (dI (g.map Int.ofNat))) ++ [.tup (dI (g.map Int.ofNat))]))), d4, d5, d6] : Env) = [some (.val (.box 1)), some (.val (.int size)), some (.val (.int far)), some (.own (.lst (gs'.map fun g => .tup (dI (g.map Int.ofNat))))), d4', d5', d6'] ∧ gs'.length + r.length = size ∧ (∀ g ∈ gs', Asc g ∧ g ≠ [] ∧ ∀ c ∈ g, c < far) ∧ Dr (n + gs'.length * (far + 1)) R S3 := fun g S3 h1 h2 h3 h4 d4 d5 d6 => by
        refine ⟨gs ++ [g], d4, d5, d6, by rw [List.map_append]; rfl, by rw [List.length_append]; simp; omega, fun g' hg' => ?_, ?_⟩
        · rcases List.mem_append.mp hg' with z | z
          · exact hg g' z
          · rw [List.mem_singleton.mp z]
            exact ⟨h1, h2, h3⟩
        · rw [List.length_append, List.length_singleton, Nat.succ_mul, ← Nat.add_assoc]
          exact h4
      have hz : decide ((gs.map fun g => D.tup (dI (g.map Int.ofNat))).length < sizeLine) = true := decide_eq_true (by rw [List.length_map, sizeLine_eq]; omega)
      refine wp_bnd ?_
      show Wp (bnd (evt T _ _ (.tb _)) fun k => if k = true then ev T _ _ _ else ev T _ _ _) _ _
      refine wp_bnd (wp_eq (a := !(dI (g.map Int.ofNat)).isEmpty) (S' := S2) ?_ ?_)
      · simp only [sts, st, ev, evl, evo, evt, evi, bnd, Res.bnd, Res.hush, hush, ret, lift, tryL, asg, asg.asgs, List.getElem?_cons_succ, List.getElem?_cons_zero, List.length_cons, List.length_nil, List.set_cons_succ, List.set_cons_zero, sizeOk0, reduceIte, v_lst, ne_nil (dI (g.map Int.ofNat)) (sane_dI _ _)]
      cases g with
      | nil =>
        rw [if_neg (by simp)]
        show Wp (bnd (bnd (ev T _ _ (.call j _)) _) _) _ _
        refine wp_bnd (wp_bnd (wp_ecall (ds := [.box 1, .int far]) rfl ((take_ok hT hM hd2 (by omega) (size := (far : Int)) ⟨by omega, by omega⟩).imp fun y S3 hy => ?_)))
        obtain ⟨v, e, h0, h1, hd3⟩ := hy
        rw [e]
        refine wp_bnd (wp_ret (wp_ret ?_))
        refine wp_eq (a := D.tup [.int v]) (S' := S3) rfl ?_
        rw [if_pos hz]
        refine wp_ret (wp_ret ?_)
        have hv : D.int v = D.int (Int.ofNat v.toNat) := by rw [show Int.ofNat v.toNat = v from Int.toNat_of_nonneg h0]
        rw [hv]
        exact fin [v.toNat] S3 (List.pairwise_singleton _ _) (by simp) (fun c hc => by rw [List.mem_singleton.mp hc]; omega) hd3 _ _ _
      | cons c g =>
        rw [if_pos (by simp)]
        refine wp_eq (a := D.tup (dI ((c :: g).map Int.ofNat))) (S' := S2) rfl ?_
        rw [if_pos hz]
        refine wp_ret (wp_ret ?_)
        obtain ⟨ls, cs, rr, tt, rfl, ht⟩ := hd2
        exact fin (c :: g) _ ha (by simp) hc ⟨ls, cs, rr, tt, rfl, by omega⟩ _ _ _
  · rintro de S' ⟨gs, d4, d5, d6, rfl, hl, hg, hd⟩
    rw [List.length_nil, Nat.add_zero] at hl
    refine sts_one (wp_eq (a := .rtv (.tup (gs.map fun g => .tup (dI (g.map Int.ofNat)))) false) (S' := S') rfl ?_)
    exact ⟨gs, rfl, hl, hg, by rw [← hl]; exact hd⟩
end
end Y
/-! M7: keys and locks: is_filing, deepest_breaks, filed_to_open, below, every. -/
namespace Y
open PySem L2
abbrev dN (g : List Nat) : List D := dI (g.map Int.ofNat)
abbrev tN' (g : List Nat) : D := .tup (dN g)
abbrev dG (gs : List (List Nat)) : List D := gs.map tN'
def irFiling : IR := (.cons (.rt (.bi .all (.cons (.lc [2, 3] (.gt (.cons (.gn 2) (.cons (.gn 3) .nil))) (.zip (.var 0) (.var 1)) (.kb true) (.o2 .ge (.var 3) (.var 2))) .nil)))
  .nil)
def irDeepest : IR := (.cons (.rt (.bi .tuple (.cons (.lc [1] (.gn 1) (.iv (.var 0)) (.kb true) (.idx (.var 1) (.neg (.ki 1)))) .nil)))
  .nil)
def irFiled : IR := (.cons (.seto 2 (.lst .nil))
  (.cons (.forl (.gt (.cons (.gn 3) (.cons (.gn 4) .nil))) (.zip (.var 0) (.var 1))
 (.cons (.set (.gn 5) (.lc [6] (.gn 6) (.iv (.var 4)) (.tb (.o2 .ge (.var 6) (.var 3))) (.var 6)))
  (.cons (.cond (.tb (.o2 .eq (.var 5) (.lst .nil)))
 (.cons (.rt .kn)
  .nil)
 .nil)
  (.cons (.app 2 (.idx (.var 5) (.ki 0)))
  .nil))))
  (.cons (.rt (.bi .tuple (.cons (.own 2) .nil)))
  .nil)))
def irBelow : IR := (.cons (.rt (.o2 .eq (.lc [2, 3] (.gt (.cons (.gn 2) (.cons (.gn 3) .nil))) (.zip (.var 0) (.var 1)) (.tb (.o2 .lt (.var 3) (.var 2))) (.ki 1)) (.lst .nil)))
  .nil)
def irEvery : IR := (.cons (.set (.gn 2) (.lst (.cons (.tup .nil) .nil)))
  (.cons (.forl (.gn 3) (.ir1 (.var 0))
 (.cons (.set (.gn 4) (.lst .nil))
  (.cons (.forl (.gn 5) (.iv (.var 2))
 (.cons (.set (.gn 4) (.o2 .add (.var 4) (.lc [6] (.gn 6) (.ir1 (.var 1)) (.kb true) (.o2 .add (.var 5) (.tup (.cons (.var 6) .nil))))))
  .nil))
  (.cons (.set (.gn 2) (.var 4))
  .nil))))
  (.cons (.rt (.var 2))
  .nil)))
section
variable {T : Tb} {C : Calls} {W k : Nat}
theorem comp_map {α : Type} {step : D → M (Option D)} (enc : α → D) (f : α → Option D) {S : Store} : ∀ {l : List α}, (∀ x ∈ l, step (enc x) S = .ok (f x) S) → comp (l.map enc) step S = .ok (l.filterMap f) S
  | [], _ => rfl
  | x :: r, h => by
    show (step (enc x) S).bnd (fun o => bnd (comp (r.map enc) step) fun ds => ret (match o with | some d => d :: ds | none => ds)) = _
    rw [h x List.mem_cons_self]
    show (comp (r.map enc) step S).bnd (fun ds => ret (match f x with | some d => d :: ds | none => ds)) = _
    rw [comp_map enc f fun y hy => h y (List.mem_cons_of_mem _ hy), List.filterMap_cons]
    cases f x <;> rfl
theorem zip_enc {α β : Type} (f : α → D) (g : β → D) (xs : List α) (ys : List β) : ((xs.map f).zip (ys.map g)).map (fun p => D.tup [p.1, p.2]) = (xs.zip ys).map fun p => .tup [f p.1, g p.2] := by
  rw [List.zip_map, List.map_map]
  rfl
theorem dN_map (xs : List Nat) : dN xs = xs.map fun (n : Nat) => D.int n := by
  show (xs.map Int.ofNat).map D.int = _
  rw [List.map_map]
  rfl
theorem dN_app (a b : List Nat) : dN (a ++ b) = dN a ++ dN b := by
  show dI ((a ++ b).map Int.ofNat) = _
  rw [List.map_append, dI_app]
/-- each not above -/
def leAll (xs ys : List Nat) : Bool := (xs.zip ys).all fun p => decide (p.1 ≤ p.2)
theorem dBls_map {α : Type} (f : α → Bool) : ∀ l : List α, dBls (l.map fun x => D.bl (f x)) = some (l.map f)
  | [] => rfl
  | x :: l => by
    show (dBls (l.map fun x => D.bl (f x))).map (f x :: ·) = _
    rw [dBls_map f l]
    rfl
theorem filing_ok {i : Nat} (hT : T.fns[i]? = some ⟨2, 4, irFiling⟩) (xs ys : List Nat) (S : Store) : ∃ f, callF T W (k + 1) i [tN' xs, tN' ys] S = .ok (.bl (leAll xs ys), f) S := by
  have : Wp (callF T W (k + 1) i [tN' xs, tN' ys]) S fun x S' => x.1 = .bl (leAll xs ys) ∧ S' = S := by
    refine wp_callE (de0 := [some (.val (tN' xs)), some (.val (tN' ys)), none, none]) hT rfl rfl ?_
    refine sts_one ?_
    show Wp (bnd (bnd (bnd (ev T _ _ (.lc _ _ _ _ _)) _) _) _) _ _
    refine wp_bnd (wp_bnd (wp_bnd (wp_lc (wp_eq (a := (xs.zip ys).map fun p => D.tup [.int (p.1 : Nat), .int (p.2 : Nat)]) (S' := S) ?_ ?_))))
    · show Res.ok (((dN xs).zip (dN ys)).map fun p => D.tup [p.1, p.2]) S = _
      rw [dN_map, dN_map, zip_enc]
    refine wp_eq (comp_map (fun p : Nat × Nat => D.tup [.int (p.1 : Nat), .int (p.2 : Nat)]) (fun p => some (.bl (decide (p.1 ≤ p.2)))) fun p _ => ?_) ?_
    · show Res.ok (some (D.bl (decide ((p.1 : Int) ≤ (p.2 : Int))))) S = _
      congr 3
      exact decide_eq_decide.mpr (by omega)
    refine wp_ret ?_
    refine wp_eq (a := D.bl (leAll xs ys)) (S' := S) ?_ (wp_ret ⟨rfl, rfl⟩)
    have e : (xs.zip ys).filterMap (fun p => some (D.bl (decide (p.1 ≤ p.2)))) = (xs.zip ys).map fun p => D.bl (decide (p.1 ≤ p.2)) := congrFun (List.filterMap_eq_map (f := fun p : Nat × Nat => D.bl (decide (p.1 ≤ p.2)))) _
    rw [e]
    show lift ((dBls ((xs.zip ys).map fun p => D.bl (decide (p.1 ≤ p.2)))).map fun bs => D.bl (bs.all id)) S = _
    rw [dBls_map]
    show Res.ok (D.bl (((xs.zip ys).map fun p => decide (p.1 ≤ p.2)).all id)) S = _
    rw [List.all_map]
    rfl
  obtain ⟨⟨a, f⟩, S', e, h1, h2⟩ := this
  have h1 : a = _ := h1
  subst h1 h2
  exact ⟨f, e⟩
theorem filterMap_if_nil {α : Type} (p : α → Bool) (d : D) (l : List α) : (l.filterMap fun x => if p x = true then some d else none).isEmpty = l.all fun x => !p x := by
  induction l with
  | nil => rfl
  | cons x l ih =>
    rw [List.filterMap_cons, List.all_cons]
    cases h : p x with
    | true => simp
    | false => simpa using ih
theorem sane_ones {α : Type} (p : α → Bool) (l : List α) : (l.filterMap fun x => if p x = true then some (D.int 1) else none).all (sane 60) = true := by
  rw [List.all_eq_true]
  intro y hy
  obtain ⟨x, _, e⟩ := List.mem_filterMap.mp hy
  split at e <;> cases e
  rfl
theorem below_ok {i : Nat} (hT : T.fns[i]? = some ⟨2, 4, irBelow⟩) (xs ys : List Nat) (S : Store) : ∃ f, callF T W (k + 1) i [tN' xs, tN' ys] S = .ok (.bl (leAll xs ys), f) S := by
  have : Wp (callF T W (k + 1) i [tN' xs, tN' ys]) S fun x S' => x.1 = .bl (leAll xs ys) ∧ S' = S := by
    refine wp_callE (de0 := [some (.val (tN' xs)), some (.val (tN' ys)), none, none]) hT rfl rfl ?_
    refine sts_one ?_
    show Wp (bnd (bnd (ev T _ _ (.lc _ _ _ _ _)) _) _) _ _
    refine wp_bnd (wp_bnd (wp_lc (wp_eq (a := (xs.zip ys).map fun p => D.tup [.int (p.1 : Nat), .int (p.2 : Nat)]) (S' := S) ?_ ?_)))
    · show Res.ok (((dN xs).zip (dN ys)).map fun p => D.tup [p.1, p.2]) S = _
      rw [dN_map, dN_map, zip_enc]
    refine wp_eq (comp_map (fun p : Nat × Nat => D.tup [.int (p.1 : Nat), .int (p.2 : Nat)]) (fun p => if decide (p.2 < p.1) = true then some (.int 1) else none) fun p _ => ?_) ?_
    · have ha : asg (.gt (.cons (.gn 2) (.cons (.gn 3) .nil))) (.tup [.int (p.1 : Nat), .int (p.2 : Nat)]) (wipeE [some (.val (tN' xs)), some (.val (tN' ys)), none, none] [2, 3]) = some [some (.val (tN' xs)), some (.val (tN' ys)), some (.val (.int (p.1 : Nat))), some (.val (.int (p.2 : Nat)))] := rfl
      have : decide ((p.2 : Int) < (p.1 : Int)) = decide (p.2 < p.1) := decide_eq_decide.mpr (by omega)
      unfold stepE
      rw [ha]
      by_cases h : p.2 < p.1
      · simp only [sts, st, ev, evl, evo, evt, evi, bnd, Res.bnd, Res.hush, hush, ret, lift, tryL, asg, asg.asgs, List.getElem?_cons_succ, List.getElem?_cons_zero, List.length_cons, List.length_nil, List.set_cons_succ, List.set_cons_zero, sizeOk0, reduceIte, v_int, p2_lt, this, decide_eq_true h]
      · simp only [sts, st, ev, evl, evo, evt, evi, bnd, Res.bnd, Res.hush, hush, ret, lift, tryL, asg, asg.asgs, List.getElem?_cons_succ, List.getElem?_cons_zero, List.length_cons, List.length_nil, List.set_cons_succ, List.set_cons_zero, sizeOk0, reduceIte, v_int, p2_lt, this, decide_eq_false h]
        rfl
    refine wp_bnd (wp_eq (a := D.lst []) (S' := S) rfl ?_)
    refine wp_eq (a := D.bl (leAll xs ys)) (S' := S) ?_ (wp_ret ⟨rfl, rfl⟩)
    show lift (p2 .eq (.lst _) (.lst [])) S = _
    rw [eq_nil _ (sane_ones _ _), filterMap_if_nil]
    show Res.ok (D.bl ((xs.zip ys).all fun p => !decide (p.2 < p.1))) S = _
    have : ((xs.zip ys).all fun p => !decide (p.2 < p.1)) = leAll xs ys := by
      unfold leAll
      congr 1
      funext p
      by_cases h : p.2 < p.1
      · rw [decide_eq_true h, decide_eq_false (by omega)]; rfl
      · rw [decide_eq_false h, decide_eq_true (by omega)]; rfl
    rw [this]
  obtain ⟨⟨a, f⟩, S', e, h1, h2⟩ := this
  have h1 : a = _ := h1
  subst h1 h2
  exact ⟨f, e⟩

/-! ### filed_to_open -/
def filedZ : List (Nat × List Nat) → Option (List Nat)
  | [] => some []
  | (c, g) :: r => match g.filter fun b => decide (c ≤ b) with
    | [] => none
    | b :: _ => (filedZ r).map (b :: ·)
def optT : Option (List Nat) → D
  | none => .non
  | some l => tN' l
abbrev encZ (p : Nat × List Nat) : D := .tup [.int (p.1 : Nat), tN' p.2]
theorem filter_enc (c : Nat) (g : List Nat) : (g.filterMap fun (b : Nat) => if decide (c ≤ b) = true then some (D.int (b : Nat)) else none) = dN (g.filter fun b => decide (c ≤ b)) := by
  induction g with
  | nil => rfl
  | cons b g ih =>
    rw [List.filterMap_cons, List.filter_cons]
    cases h : decide (c ≤ b) with
    | true =>
      simp only [if_true]
      rw [ih]
      rfl
    | false =>
      simp only [Bool.false_eq_true, if_false]
      exact ih
theorem filed_ok {i : Nat} (hT : T.fns[i]? = some ⟨2, 7, irFiled⟩) (cs : List Nat) (gs : List (List Nat)) (hl : cs.length ≤ 1000) (S : Store) : ∃ f, callF T W (k + 1) i [tN' cs, .tup (dG gs)] S = .ok (optT (filedZ (cs.zip gs)), f) S := by
  have : Wp (callF T W (k + 1) i [tN' cs, .tup (dG gs)]) S fun x S' => x.1 = optT (filedZ (cs.zip gs)) ∧ S' = S := by
    refine wp_callE (de0 := [some (.val (tN' cs)), some (.val (.tup (dG gs))), none, none, none, none, none]) hT rfl rfl ?_
    refine sts_one (wp_eq (a := .nx [some (.val (tN' cs)), some (.val (.tup (dG gs))), some (.own (.lst [])), none, none, none, none]) (S' := S) rfl ?_)
    refine sts_one ?_
    show Wp (bnd (evi T _ _ (.zip _ _)) fun items => loop items _ _ _) _ _
    refine wp_bnd (wp_eq (a := (cs.zip gs).map encZ) (S' := S) ?_ ?_)
    · show Res.ok (((dN cs).zip (dG gs)).map fun p => D.tup [p.1, p.2]) S = _
      rw [dN_map, zip_enc]
    refine wp_loop (I := fun items de S' => S' = S ∧ ∃ (r : List (Nat × List Nat)) (acc : List Nat) (d3 d4 d5 d6 : Option EV), items = r.map encZ ∧ de = [some (.val (tN' cs)), some (.val (.tup (dG gs))), some (.own (.lst (dN acc))), d3, d4, d5, d6] ∧ filedZ (cs.zip gs) = (filedZ r).map (acc ++ ·) ∧ acc.length + r.length ≤ 1000) _ _ _ ⟨rfl, cs.zip gs, [], none, none, none, none, rfl, rfl, by cases filedZ (cs.zip gs) <;> rfl, by rw [List.length_zip]; simp; omega⟩ ?_ ?_
    · rintro x it de S' ⟨rfl, r, acc, d3, d4, d5, d6, hi, rfl, hf, hz⟩
      cases r with
      | nil => cases hi
      | cons p r =>
        obtain ⟨c, g⟩ := p
        obtain ⟨rfl, rfl⟩ := List.cons.inj hi
        rw [List.length_cons] at hz
        refine ⟨[some (.val (tN' cs)), some (.val (.tup (dG gs))), some (.own (.lst (dN acc))), some (.val (.int (c : Nat))), some (.val (tN' g)), d5, d6], rfl, sts_one ?_⟩
        show Wp (bnd (ev T _ _ (.lc _ _ _ _ _)) _) _ _
        refine wp_bnd (wp_lc (wp_eq (a := g.map fun (b : Nat) => D.int (b : Nat)) (S' := S') ?_ ?_))
        · show Res.ok (dN g) S' = _
          rw [dN_map]
        refine wp_eq (comp_map (fun (b : Nat) => D.int (b : Nat)) (fun b => if decide (c ≤ b) = true then some (D.int (b : Nat)) else none) fun b _ => ?_) ?_
        · have ha : asg (.gn 6) (.int (b : Nat)) (wipeE [some (.val (tN' cs)), some (.val (.tup (dG gs))), some (.own (.lst (dN acc))), some (.val (.int (c : Nat))), some (.val (tN' g)), d5, d6] [6]) = some [some (.val (tN' cs)), some (.val (.tup (dG gs))), some (.own (.lst (dN acc))), some (.val (.int (c : Nat))), some (.val (tN' g)), d5, some (.val (.int (b : Nat)))] := rfl
          have : decide ((c : Int) ≤ (b : Int)) = decide (c ≤ b) := decide_eq_decide.mpr (by omega)
          unfold stepE
          rw [ha]
          by_cases h : c ≤ b
          · simp only [sts, st, ev, evl, evo, evt, evi, bnd, Res.bnd, Res.hush, hush, ret, lift, tryL, asg, asg.asgs, List.getElem?_cons_succ, List.getElem?_cons_zero, List.length_cons, List.length_nil, List.set_cons_succ, List.set_cons_zero, sizeOk0, reduceIte, v_int, p2_ge, this, decide_eq_true h]
          · simp only [sts, st, ev, evl, evo, evt, evi, bnd, Res.bnd, Res.hush, hush, ret, lift, tryL, asg, asg.asgs, List.getElem?_cons_succ, List.getElem?_cons_zero, List.length_cons, List.length_nil, List.set_cons_succ, List.set_cons_zero, sizeOk0, reduceIte, v_int, p2_ge, this, decide_eq_false h]
            rfl
        rw [filter_enc]
        refine wp_ret (sts_one ?_)
        show Wp (bnd (evt T _ _ (.tb _)) _) _ _
        have hq : filedZ ((c, g) :: r) = match g.filter fun b => decide (c ≤ b) with
          | [] => none
          | b :: _ => (filedZ r).map (b :: ·) := rfl
        rw [hq] at hf
        generalize g.filter (fun b => decide (c ≤ b)) = us at hf ⊢
        refine wp_bnd (wp_eq (a := (dN us).isEmpty) (S' := S') ?_ ?_)
        · simp only [sts, st, ev, evl, evo, evt, evi, bnd, Res.bnd, Res.hush, hush, ret, lift, tryL, asg, asg.asgs, List.getElem?_cons_succ, List.getElem?_cons_zero, List.length_cons, List.length_nil, List.set_cons_succ, List.set_cons_zero, sizeOk0, reduceIte, v_lst, eq_nil (dN us) (sane_dI _ _)]
        cases us with
        | nil =>
          refine wp_ifT rfl ?_
          refine sts_one (wp_eq (a := .rtv .non false) (S' := S') rfl ?_)
          rw [hf]
          exact ⟨rfl, rfl⟩
        | cons b us =>
          refine wp_ifF rfl ?_
          refine wp_ret (sts_one ?_)
          refine wp_eq (a := .nx [some (.val (tN' cs)), some (.val (.tup (dG gs))), some (.own (.lst (dN acc ++ [.int (b : Nat)]))), some (.val (.int (c : Nat))), some (.val (tN' g)), some (.val (.lst (dN (b :: us)))), d6]) (S' := S') ?_ ?_
          · have hi : pIdx (view S' (.lst (dN (b :: us)))) (.int 0) = some (.int (b : Nat)) := by
              show (ixN (dN (b :: us)).length 0).bind (fun j => (dN (b :: us))[j]?) = _
              have : ixN (dN (b :: us)).length 0 = some 0 := by
                unfold ixN
                rw [if_pos (by decide), if_pos (by simp)]
                rfl
              rw [this]
              rfl
            have hs : decide ((dN acc).length < sizeLine) = true := decide_eq_true (by rw [List.length_map, List.length_map, sizeLine_eq]; omega)
            simp only [sts, st, ev, evl, evo, evt, evi, bnd, Res.bnd, Res.hush, hush, ret, lift, tryL, asg, asg.asgs, List.getElem?_cons_succ, List.getElem?_cons_zero, List.length_cons, List.length_nil, List.set_cons_succ, List.set_cons_zero, sizeOk0, reduceIte, hi, hs]
          refine wp_ret ⟨rfl, r, acc ++ [b], some (.val (.int (c : Nat))), some (.val (tN' g)), some (.val (.lst (dN (b :: us)))), d6, rfl, ?_, ?_, by rw [List.length_append]; simp; omega⟩
          · rw [dN_app]
            rfl
          · rw [hf]
            cases filedZ r with
            | none => rfl
            | some l =>
              show some (acc ++ b :: l) = some (acc ++ [b] ++ l)
              rw [List.append_assoc]
              rfl
    · rintro de S' ⟨rfl, r, acc, d3, d4, d5, d6, hi, rfl, hf, hz⟩
      cases r with
      | cons p r => cases hi
      | nil =>
        refine sts_one (wp_eq (a := .rtv (tN' acc) false) (S' := S') rfl ?_)
        rw [hf]
        refine ⟨?_, rfl⟩
        show tN' acc = tN' (acc ++ [])
        rw [List.append_nil]
  obtain ⟨⟨a, f⟩, S', e, h1, h2⟩ := this
  have h1 : a = _ := h1
  subst h1 h2
  exact ⟨f, e⟩

/-! ### deepest_breaks -/
theorem idx_last (g : List Nat) (h : g ≠ []) : pIdx (tN' g) (.int (-1)) = some (.int ((g.getLastD 0 : Nat) : Int)) := by
  show (ixN (dN g).length (-1)).bind (fun j => (dN g)[j]?) = _
  have hl : 0 < g.length := List.length_pos_iff.mpr h
  have : ixN (dN g).length (-1) = some (g.length - 1) := by
    unfold ixN
    rw [List.length_map, List.length_map, if_neg (by decide), if_pos (by omega)]
    congr 1
    omega
  rw [this]
  show (dN g)[g.length - 1]? = _
  rw [dN_map, List.getElem?_map, ← List.getLast?_eq_getElem?]
  cases g with
  | nil => exact absurd rfl h
  | cons x g => rw [List.getLast?_cons, List.getLastD_cons, List.getLastD_eq_getLast?]; rfl
theorem deepest_ok {i : Nat} (hT : T.fns[i]? = some ⟨1, 2, irDeepest⟩) (gs : List (List Nat)) (hg : ∀ g ∈ gs, g ≠ []) (S : Store) : ∃ f, callF T W (k + 1) i [.tup (dG gs)] S = .ok (tN' (gs.map fun g => g.getLastD 0), f) S := by
  have : Wp (callF T W (k + 1) i [.tup (dG gs)]) S fun x S' => x.1 = tN' (gs.map fun g => g.getLastD 0) ∧ S' = S := by
    refine wp_callE (de0 := [some (.val (.tup (dG gs))), none]) hT rfl rfl ?_
    refine sts_one ?_
    show Wp (bnd (bnd (bnd (ev T _ _ (.lc _ _ _ _ _)) _) _) _) _ _
    refine wp_bnd (wp_bnd (wp_bnd (wp_lc (wp_eq (a := gs.map tN') (S' := S) rfl ?_))))
    refine wp_eq (comp_map tN' (fun g => some (.int ((g.getLastD 0 : Nat) : Int))) fun g hm => ?_) ?_
    · have ha : asg (.gn 1) (tN' g) (wipeE [some (.val (.tup (dG gs))), none] [1]) = some [some (.val (.tup (dG gs))), some (.val (tN' g))] := rfl
      unfold stepE
      rw [ha]
      simp only [sts, st, ev, evl, evo, evt, evi, bnd, Res.bnd, Res.hush, hush, ret, lift, tryL, asg, asg.asgs, List.getElem?_cons_succ, List.getElem?_cons_zero, List.length_cons, List.length_nil, List.set_cons_succ, List.set_cons_zero, sizeOk0, reduceIte, v_tup, idx_last g (hg g hm)]
    refine wp_ret (wp_eq (a := tN' (gs.map fun g => g.getLastD 0)) (S' := S) ?_ (wp_ret ⟨rfl, rfl⟩))
    show Res.ok (D.tup (gs.filterMap fun g => some (D.int ((g.getLastD 0 : Nat) : Int)))) S = _
    have e : (gs.filterMap fun g => some (D.int ((g.getLastD 0 : Nat) : Int))) = gs.map fun g => D.int ((g.getLastD 0 : Nat) : Int) := congrFun (List.filterMap_eq_map (f := fun g : List Nat => D.int ((g.getLastD 0 : Nat) : Int))) _
    rw [e]
    show Res.ok (D.tup _) S = Res.ok (D.tup (dN _)) S
    rw [dN_map, List.map_map]
    rfl
  obtain ⟨⟨a, f⟩, S', e, h1, h2⟩ := this
  have h1 : a = _ := h1
  subst h1 h2
  exact ⟨f, e⟩

/-! ### all keys -/
def allT (far : Nat) : Nat → List (List Nat)
  | 0 => [[]]
  | n + 1 => (allT far n).flatMap fun s => (List.range far).map fun c => s ++ [c]
theorem allT_len (far : Nat) : ∀ n, (allT far n).length = far ^ n
  | 0 => rfl
  | n + 1 => by
    show ((allT far n).flatMap fun s => (List.range far).map fun c => s ++ [c]).length = _
    rw [List.length_flatMap]
    have : ((allT far n).map fun s => ((List.range far).map fun c => s ++ [c]).length) = List.replicate (allT far n).length far := by
      rw [List.map_eq_replicate_iff.mpr]
      intro s _
      rw [List.length_map, List.length_range]
    rw [this, List.sum_replicate_nat, allT_len far n, Nat.pow_succ]
theorem allT_mem {far : Nat} : ∀ {n : Nat} {l : List Nat}, l ∈ allT far n ↔ l.length = n ∧ ∀ c ∈ l, c < far
  | 0, l => by
    show l ∈ [[]] ↔ _
    rw [List.mem_singleton]
    constructor
    · rintro rfl
      exact ⟨rfl, by simp⟩
    · rintro ⟨h, _⟩
      exact List.length_eq_zero_iff.mp h
  | n + 1, l => by
    show l ∈ (allT far n).flatMap (fun s => (List.range far).map fun c => s ++ [c]) ↔ _
    rw [List.mem_flatMap]
    constructor
    · rintro ⟨s, hs, h⟩
      obtain ⟨c, hc, rfl⟩ := List.mem_map.mp h
      obtain ⟨h1, h2⟩ := allT_mem.mp hs
      rw [List.mem_range] at hc
      refine ⟨by rw [List.length_append, h1]; rfl, fun d hd => ?_⟩
      rcases List.mem_append.mp hd with z | z
      · exact h2 d z
      · rw [List.mem_singleton.mp z]
        exact hc
    · rintro ⟨h1, h2⟩
      have hne : l ≠ [] := fun e => by rw [e] at h1; cases h1
      refine ⟨l.dropLast, allT_mem.mpr ⟨by rw [List.length_dropLast, h1]; rfl, fun c hc => h2 c ((List.dropLast_subset _ hc))⟩, List.mem_map.mpr ⟨l.getLast hne, List.mem_range.mpr (h2 _ (List.getLast_mem hne)), List.dropLast_concat_getLast hne⟩⟩
end
end Y
/-! M8: all keys, listed. -/
namespace Y
open PySem L2
section
variable {T : Tb} {C : Calls} {W k : Nat}
theorem sizeOk_of {n : Nat} (h : n ≤ 1000000) : sizeOk n = true := decide_eq_true (by rw [sizeLine_eq]; omega)
theorem p2_addL {xs ys : List D} (h : xs.length + ys.length ≤ 1000000) : p2 .add (.lst xs) (.lst ys) = some (.lst (xs ++ ys)) := by
  show (if sizeOk (xs.length + ys.length) = true then some (D.lst (xs ++ ys)) else none) = _
  rw [if_pos (sizeOk_of h)]
theorem p2_addT {xs ys : List D} (h : xs.length + ys.length ≤ 1000000) : p2 .add (.tup xs) (.tup ys) = some (.tup (xs ++ ys)) := by
  show (if sizeOk (xs.length + ys.length) = true then some (D.tup (xs ++ ys)) else none) = _
  rw [if_pos (sizeOk_of h)]
theorem evi_l {de : Env} {a : IR} {S : Store} {xs : List D} (e : ev T C de a S = .ok (.lst xs) S) : evi T C de (.iv a) S = .ok xs S := by
  show (ev T C de a S).bnd _ = _
  rw [e]
  rfl
theorem every_ok {i : Nat} (hT : T.fns[i]? = some ⟨2, 7, irEvery⟩) (size far : Nat) (hs : size ≤ 1000) (hf : 0 < far) (hz : far ^ size ≤ 100000) (S : Store) : ∃ f, callF T W (k + 1) i [.int size, .int far] S = .ok (.lst ((allT far size).map tN'), f) S := by
  by_cases h0 : size = 0
  · subst h0
    exact ⟨false, by
      show (match T.fns[i]? with | some fe => run1 T W (callF T W k) fe _ | none => fail) S = _
      rw [hT]
      rfl⟩
  have hpow : ∀ q, q ≤ size → far ^ q ≤ 100000 := fun q hq => Nat.le_trans (Nat.pow_le_pow_right hf hq) hz
  have hfar : far ≤ 100000 := by have := hpow 1 (by omega); simpa using this
  have : Wp (callF T W (k + 1) i [.int size, .int far]) S fun x S' => x.1 = .lst ((allT far size).map tN') ∧ S' = S := by
    refine wp_callE (de0 := [some (.val (.int size)), some (.val (.int far)), none, none, none, none, none]) hT rfl rfl ?_
    refine sts_one (wp_eq (a := .nx [some (.val (.int size)), some (.val (.int far)), some (.val (.lst [tN' []])), none, none, none, none]) (S' := S) rfl ?_)
    refine sts_one ?_
    show Wp (bnd (evi T _ _ (.ir1 _)) fun items => loop items _ _ _) _ _
    refine wp_bnd (wp_eq (evi_r (n := size) rfl (by omega)) ?_)
    refine wp_loop (I := fun items de S' => S' = S ∧ ∃ (q : Nat) (d3 d4 d5 d6 : Option EV), q + items.length = size ∧ de = [some (.val (.int size)), some (.val (.int far)), some (.val (.lst ((allT far q).map tN'))), d3, d4, d5, d6]) _ _ _ ⟨rfl, 0, none, none, none, none, by rw [dR_len]; omega, rfl⟩ ?_ ?_
    · rintro x it de S' ⟨rfl, q, d3, d4, d5, d6, hq, rfl⟩
      rw [List.length_cons] at hq
      refine ⟨[some (.val (.int size)), some (.val (.int far)), some (.val (.lst ((allT far q).map tN'))), some (.val x), d4, d5, d6], rfl, ?_⟩
      refine sts_one (wp_eq (a := .nx [some (.val (.int size)), some (.val (.int far)), some (.val (.lst ((allT far q).map tN'))), some (.val x), some (.val (.lst [])), d5, d6]) (S' := S') rfl ?_)
      refine sts_one ?_
      show Wp (bnd (evi T _ _ (.iv _)) fun items => loop items _ _ _) _ _
      refine wp_bnd (wp_eq (evi_l (xs := (allT far q).map tN') rfl) ?_)
      have hp := hpow (q + 1) (by omega)
      refine wp_loop (I := fun items de S2 => S2 = S' ∧ ∃ (done rest : List (List Nat)) (e5 e6 : Option EV), allT far q = done ++ rest ∧ items = rest.map tN' ∧ de = [some (.val (.int size)), some (.val (.int far)), some (.val (.lst ((allT far q).map tN'))), some (.val x), some (.val (.lst ((done.flatMap fun s => (List.range far).map fun c => s ++ [c]).map tN'))), e5, e6]) _ _ _ ⟨rfl, [], allT far q, d5, d6, rfl, rfl, rfl⟩ ?_ ?_
      · rintro y it2 de2 S2 ⟨rfl, done, rest, e5, e6, hd, hi, rfl⟩
        cases rest with
        | nil => cases hi
        | cons s rest =>
          obtain ⟨rfl, rfl⟩ := List.cons.inj hi
          refine ⟨[some (.val (.int size)), some (.val (.int far)), some (.val (.lst ((allT far q).map tN'))), some (.val x), some (.val (.lst ((done.flatMap fun s => (List.range far).map fun c => s ++ [c]).map tN'))), some (.val (tN' s)), e6], rfl, sts_one ?_⟩
          show Wp (bnd (bnd (ret (D.lst _)) fun x => bnd (ev T _ _ (.lc _ _ _ _ _)) _) _) _ _
          refine wp_bnd (wp_bnd (wp_ret (wp_bnd (wp_lc (wp_eq (evi_r (n := far) rfl (by omega)) ?_)))))
          have hsl : s.length = q := by
            have : s ∈ allT far q := by rw [hd]; exact List.mem_append_right _ List.mem_cons_self
            exact (allT_mem.mp this).1
          refine wp_eq (comp_map (fun (c : Nat) => D.int (c : Nat)) (fun c => some (tN' (s ++ [c]))) fun c _ => ?_) ?_
          · have ha : asg (.gn 6) (.int (c : Nat)) (wipeE [some (.val (.int size)), some (.val (.int far)), some (.val (.lst ((allT far q).map tN'))), some (.val x), some (.val (.lst ((done.flatMap fun s => (List.range far).map fun c => s ++ [c]).map tN'))), some (.val (tN' s)), e6] [6]) = some [some (.val (.int size)), some (.val (.int far)), some (.val (.lst ((allT far q).map tN'))), some (.val x), some (.val (.lst ((done.flatMap fun s => (List.range far).map fun c => s ++ [c]).map tN'))), some (.val (tN' s)), some (.val (.int (c : Nat)))] := rfl
            have hadd : p2 .add (tN' s) (.tup [.int (c : Nat)]) = some (tN' (s ++ [c])) := by
              rw [p2_addT (by rw [List.length_map, List.length_map]; simp; omega)]
              show some (D.tup _) = some (D.tup (dN (s ++ [c])))
              rw [dN_app]
              rfl
            unfold stepE
            rw [ha]
            simp only [sts, st, ev, evl, evo, evt, evi, bnd, Res.bnd, Res.hush, hush, ret, lift, tryL, asg, asg.asgs, List.getElem?_cons_succ, List.getElem?_cons_zero, List.length_cons, List.length_nil, List.set_cons_succ, List.set_cons_zero, sizeOk0, reduceIte, v_tup, hadd, Nat.zero_add, sizeOk_of (show 1 ≤ 1000000 from by decide)]
          have e : ((List.range far).filterMap fun c => some (tN' (s ++ [c]))) = ((List.range far).map fun c => s ++ [c]).map tN' := by
            rw [List.map_map]
            exact congrFun (List.filterMap_eq_map (f := fun c : Nat => tN' (s ++ [c]))) _
          rw [e]
          have hlen : ((done.flatMap fun s => (List.range far).map fun c => s ++ [c]).map tN').length + ((((List.range far).map fun c => s ++ [c])).map tN').length ≤ 1000000 := by
            have h1 : (allT far (q + 1)).length = ((done ++ s :: rest).flatMap fun s => (List.range far).map fun c => s ++ [c]).length := by rw [← hd]; rfl
            rw [allT_len, List.flatMap_append, List.flatMap_cons, List.length_append, List.length_append] at h1
            rw [List.length_map, List.length_map]
            omega
          refine wp_eq (a := D.lst (((done ++ [s]).flatMap fun s => (List.range far).map fun c => s ++ [c]).map tN')) (S' := S2) ?_ ?_
          · show lift (p2 .add (.lst _) (.lst _)) S2 = _
            rw [p2_addL hlen, ← List.map_append]
            rw [List.flatMap_append, List.flatMap_cons, List.flatMap_nil, List.append_nil]
            rfl
          refine wp_ret (wp_ret ⟨rfl, done ++ [s], rest, some (.val (tN' s)), e6, by rw [hd, List.append_assoc]; rfl, rfl, rfl⟩)
      · rintro de2 S2 ⟨rfl, done, rest, e5, e6, hd, hi, rfl⟩
        cases rest with
        | cons s rest => cases hi
        | nil =>
          rw [List.append_nil] at hd
          subst hd
          refine sts_one (wp_eq (a := .nx [some (.val (.int size)), some (.val (.int far)), some (.val (.lst ((allT far (q + 1)).map tN'))), some (.val x), some (.val (.lst ((allT far (q + 1)).map tN'))), e5, e6]) (S' := S2) rfl ?_)
          exact wp_ret ⟨rfl, q + 1, some (.val x), _, e5, e6, by omega, rfl⟩
    · rintro de S' ⟨rfl, q, d3, d4, d5, d6, hq, rfl⟩
      rw [List.length_nil, Nat.add_zero] at hq
      subst hq
      exact sts_one (wp_eq (a := .rtv (.lst ((allT far q).map tN')) false) (S' := S') rfl ⟨rfl, rfl⟩)
  obtain ⟨⟨a, f⟩, S', e, h1, h2⟩ := this
  have h1 : a = _ := h1
  subst h1 h2
  exact ⟨f, e⟩
end
end Y
/-! M9: what filed_to_open finds (plain). -/
namespace Y
open PySem L2
def inAll (o : List Nat) (gs : List (List Nat)) : Bool := (o.zip gs).all fun p => decide (p.1 ∈ p.2)
def strk (xs ys : List Nat) : Nat := ((xs.zip ys).filter fun p => decide (p.1 ≠ p.2)).length
theorem filed_none : ∀ {cs : List Nat} {gs : List (List Nat)}, cs.length = gs.length → filedZ (cs.zip gs) = none → ∀ o : List Nat, o.length = cs.length → leAll cs o = true → inAll o gs = true → False
  | [], [], _, h, _, _, _, _ => by cases h
  | c :: cs, g :: gs, hl, h, o, ho, h1, h2 => by
    cases o with
    | nil => cases ho
    | cons a o =>
      have h1 : (decide (c ≤ a) && leAll cs o) = true := h1
      have h2 : (decide (a ∈ g) && inAll o gs) = true := h2
      rw [Bool.and_eq_true, decide_eq_true_eq] at h1 h2
      have h : (match g.filter fun b => decide (c ≤ b) with | [] => none | b :: _ => (filedZ (cs.zip gs)).map (b :: ·)) = none := h
      have hm : a ∈ g.filter fun b => decide (c ≤ b) := List.mem_filter.mpr ⟨h2.1, decide_eq_true h1.1⟩
      cases q : g.filter fun b => decide (c ≤ b) with
      | nil => rw [q] at hm; cases hm
      | cons b us =>
        rw [q] at h
        have h : (filedZ (cs.zip gs)).map (b :: ·) = none := h
        cases q2 : filedZ (cs.zip gs) with
        | none => exact filed_none (by simpa using hl) q2 o (by simpa using ho) h1.2 h2.2
        | some l => rw [q2] at h; cases h
theorem filed_some : ∀ {cs : List Nat} {gs : List (List Nat)} {l : List Nat}, cs.length = gs.length → (∀ g ∈ gs, Asc g) → filedZ (cs.zip gs) = some l →
    l.length = cs.length ∧ leAll cs l = true ∧ inAll l gs = true ∧ ∀ o : List Nat, o.length = cs.length → leAll cs o = true → inAll o gs = true → leAll l o = true ∧ strk cs l ≤ strk cs o
  | [], [], l, _, _, h => by
    cases h
    exact ⟨rfl, rfl, rfl, fun o ho _ _ => ⟨rfl, Nat.zero_le _⟩⟩
  | c :: cs, g :: gs, l, hl, ha, h => by
    have h : (match g.filter fun b => decide (c ≤ b) with | [] => none | b :: _ => (filedZ (cs.zip gs)).map (b :: ·)) = some l := h
    cases q : g.filter fun b => decide (c ≤ b) with
    | nil => rw [q] at h; cases h
    | cons b us =>
      rw [q] at h
      have h : (filedZ (cs.zip gs)).map (b :: ·) = some l := h
      cases q2 : filedZ (cs.zip gs) with
      | none => rw [q2] at h; cases h
      | some l' =>
        rw [q2] at h
        cases h
        have hb : b ∈ g ∧ c ≤ b := by
          have : b ∈ g.filter fun b => decide (c ≤ b) := by rw [q]; exact List.mem_cons_self
          rw [List.mem_filter, decide_eq_true_eq] at this
          exact this
        obtain ⟨i1, i2, i3, i4⟩ := filed_some (by simpa using hl) (fun g hg => ha g (List.mem_cons_of_mem _ hg)) q2
        refine ⟨by simp [i1], ?_, ?_, ?_⟩
        · show (decide (c ≤ b) && leAll cs l') = true
          rw [i2, decide_eq_true hb.2]
          rfl
        · show (decide (b ∈ g) && inAll l' gs) = true
          rw [i3, decide_eq_true hb.1]
          rfl
        · intro o ho h1 h2
          cases o with
          | nil => cases ho
          | cons a o =>
            have h1 : (decide (c ≤ a) && leAll cs o) = true := h1
            have h2 : (decide (a ∈ g) && inAll o gs) = true := h2
            rw [Bool.and_eq_true, decide_eq_true_eq] at h1 h2
            obtain ⟨j1, j2⟩ := i4 o (by simpa using ho) h1.2 h2.2
            have asc : Asc (b :: us) := by
              rw [← q]
              exact (ha g List.mem_cons_self).filter _
            have hm : a ∈ b :: us := by
              rw [← q]
              exact List.mem_filter.mpr ⟨h2.1, decide_eq_true h1.1⟩
            have hba : b ≤ a := by
              rcases List.mem_cons.mp hm with z | z
              · omega
              · exact Nat.le_of_lt (List.rel_of_pairwise_cons asc z)
            refine ⟨?_, ?_⟩
            · show (decide (b ≤ a) && leAll l' o) = true
              rw [j1, decide_eq_true hba]
              rfl
            · have e : ∀ x (ys : List Nat), strk (c :: cs) (x :: ys) = (if c ≠ x then 1 else 0) + strk cs ys := fun x ys => by
                show (((c, x) :: cs.zip ys).filter fun p => decide (p.1 ≠ p.2)).length = _
                rw [List.filter_cons]
                by_cases z : c ≠ x
                · rw [if_pos (decide_eq_true z), if_pos z, List.length_cons]
                  exact Nat.add_comm _ _
                · rw [if_neg (by simpa using z), if_neg z, Nat.zero_add]
                  rfl
              rw [e, e]
              have : c ≠ b → c ≠ a := fun h => by omega
              by_cases z : c ≠ b
              · rw [if_pos z, if_pos (this z)]
                omega
              · rw [if_neg z]
                omega
/-- is_filing of the deepest breaks: just if there is a filing -/
theorem reach_iff : ∀ {cs : List Nat} {gs : List (List Nat)}, cs.length = gs.length → (∀ g ∈ gs, Asc g ∧ g ≠ []) → (leAll cs (gs.map fun g => g.getLastD 0) = (filedZ (cs.zip gs)).isSome)
  | [], [], _, _ => rfl
  | c :: cs, g :: gs, hl, ha => by
    have ih := reach_iff (cs := cs) (gs := gs) (by simpa using hl) fun g hg => ha g (List.mem_cons_of_mem _ hg)
    show (decide (c ≤ g.getLastD 0) && leAll cs (gs.map fun g => g.getLastD 0)) = (match g.filter fun b => decide (c ≤ b) with | [] => none | b :: _ => (filedZ (cs.zip gs)).map (b :: ·)).isSome
    rw [ih]
    obtain ⟨a1, a2⟩ := ha g List.mem_cons_self
    have hlast : g.getLastD 0 ∈ g ∧ ∀ x ∈ g, x ≤ g.getLastD 0 := by
      cases g with
      | nil => exact absurd rfl a2
      | cons x g =>
        have e : (x :: g).getLastD 0 = (x :: g).getLast (by simp) := by
          rw [List.getLastD_eq_getLast?, List.getLast?_eq_some_getLast (by simp)]
          rfl
        rw [e]
        refine ⟨List.getLast_mem _, fun y hy => ?_⟩
        rw [← List.dropLast_concat_getLast (l := x :: g) (by simp)] at hy a1
        rcases List.mem_append.mp hy with z | z
        · exact Nat.le_of_lt ((List.pairwise_append.mp a1).2.2 y z _ (List.mem_singleton.mpr rfl))
        · rw [List.mem_singleton.mp z]
          exact Nat.le_refl _
    cases q : g.filter fun b => decide (c ≤ b) with
    | nil =>
      have : ¬ c ≤ g.getLastD 0 := fun z => by
        have : g.getLastD 0 ∈ g.filter fun b => decide (c ≤ b) := List.mem_filter.mpr ⟨hlast.1, decide_eq_true z⟩
        rw [q] at this
        cases this
      rw [decide_eq_false this]
      rfl
    | cons b us =>
      have hb : b ∈ g.filter fun b => decide (c ≤ b) := by rw [q]; exact List.mem_cons_self
      rw [List.mem_filter, decide_eq_true_eq] at hb
      rw [decide_eq_true (Nat.le_trans hb.2 (hlast.2 b hb.1)), Bool.true_and]
      show _ = ((filedZ (cs.zip gs)).map (b :: ·)).isSome
      rw [Option.isSome_map]
end Y
/-! M10: sorted names, reachable. -/
namespace Y
open PySem L2
section
variable {T : Tb} {C : Calls} {W k : Nat}
abbrev dS (ns : List Str) : List D := ns.map .str
def srt (ns : List Str) : List D := (dS ns).mergeSort leD
theorem srt_sane {ns : List Str} (h : ∀ x ∈ ns, PyData.strOk x = true) (n : Nat) : (srt ns).all (sane n) = true := by
  rw [List.all_eq_true]
  intro d hd
  obtain ⟨x, hx, rfl⟩ := List.mem_map.mp (List.mem_mergeSort.mp hd)
  cases n <;> exact h x hx
theorem sort_ok {ns : List Str} (h : ∀ x ∈ ns, PyData.strOk x = true) (hl : ns.length ≤ 100000) : pBi .sorted [.lst (dS ns)] = some (.lst (srt ns)) := by
  show (if sortable (dS ns) = true then some (D.lst ((dS ns).mergeSort leD)) else none) = _
  have e : sortable (dS ns) = true := by
    unfold sortable
    simp only [Bool.and_eq_true, decide_eq_true_eq, List.all_eq_true, Bool.or_eq_true]
    refine ⟨⟨⟨fun d hd => ?_, by rw [List.length_map, sizeLine_eq]; omega⟩, fun d hd e he => ?_⟩, .inr fun d hd => ?_⟩
    · obtain ⟨x, hx, rfl⟩ := List.mem_map.mp hd
      exact sane_shaped (n := 0) (d := .str x) (h x hx) (by decide)
    · obtain ⟨x, hx, rfl⟩ := List.mem_map.mp hd
      obtain ⟨y, hy, rfl⟩ := List.mem_map.mp he
      rfl
    · obtain ⟨x, hx, rfl⟩ := List.mem_map.mp hd
      rfl
  rw [if_pos e]
  rfl
def irReach (fil deep : Nat) : IR := (.cons (.rt (.bi .sorted (.cons (.lc [2, 3] (.gt (.cons (.gn 2) (.cons (.gn 3) .nil))) (.items (.var 1)) (.tt (.call fil (.cons (.var 0) (.cons (.call deep (.cons (.var 3) .nil)) .nil)))) (.var 2)) .nil)))
  .nil)
abbrev Locks := List (Str × List (List Nat))
abbrev dL (L : Locks) : D := .dct (L.map fun p => .str p.1) (L.map fun p => .tup (dG p.2))
def openB (cs : List Nat) (p : Str × List (List Nat)) : Bool := leAll cs (p.2.map fun g => g.getLastD 0)
theorem items_enc (L : Locks) : ((L.map fun p => D.str p.1).zip (L.map fun p => D.tup (dG p.2))).map (fun p => D.tup [p.1, p.2]) = L.map fun p => .tup [.str p.1, .tup (dG p.2)] := by
  induction L with
  | nil => rfl
  | cons p L ih =>
    show _ :: _ = _ :: _
    rw [← ih]
    rfl
theorem reach_ok {i fil deep : Nat} (hT : T.fns[i]? = some ⟨2, 4, irReach fil deep⟩) (hF : T.fns[fil]? = some ⟨2, 4, irFiling⟩) (hD : T.fns[deep]? = some ⟨1, 2, irDeepest⟩) (cs : List Nat) (L : Locks) (hg : ∀ p ∈ L, ∀ g ∈ p.2, g ≠ []) (hs : ∀ p ∈ L, PyData.strOk p.1 = true) (hl : L.length ≤ 1000) (S : Store) :
    ∃ f, callF T W (k + 2) i [tN' cs, dL L] S = .ok (.lst (srt ((L.filter (openB cs)).map (·.1))), f) S := by
  have : Wp (callF T W (k + 2) i [tN' cs, dL L]) S fun x S' => x.1 = .lst (srt ((L.filter (openB cs)).map (·.1))) ∧ S' = S := by
    refine wp_callE (de0 := [some (.val (tN' cs)), some (.val (dL L)), none, none]) hT rfl rfl ?_
    refine sts_one ?_
    show Wp (bnd (bnd (bnd (ev T _ _ (.lc _ _ _ _ _)) _) _) _) _ _
    refine wp_bnd (wp_bnd (wp_bnd (wp_lc (wp_eq (a := L.map fun p => D.tup [.str p.1, .tup (dG p.2)]) (S' := S) ?_ ?_))))
    · show (if (L.map fun p => D.str p.1).all (fun k => (dKey k).isSome) = true then ret (((L.map fun p => D.str p.1).zip (L.map fun p => D.tup (dG p.2))).map fun p => D.tup [p.1, p.2]) else fail : M (List D)) S = _
      rw [if_pos (by rw [List.all_map, List.all_eq_true]; intro p _; rfl), items_enc]
    refine wp_eq (comp_map (fun p : Str × List (List Nat) => D.tup [.str p.1, .tup (dG p.2)]) (fun p => if openB cs p = true then some (.str p.1) else none) fun p hp => ?_) ?_
    · have ha : asg (.gt (.cons (.gn 2) (.cons (.gn 3) .nil))) (.tup [.str p.1, .tup (dG p.2)]) (wipeE [some (.val (tN' cs)), some (.val (dL L)), none, none] [2, 3]) = some [some (.val (tN' cs)), some (.val (dL L)), some (.val (.str p.1)), some (.val (.tup (dG p.2)))] := rfl
      obtain ⟨f1, h1⟩ := deepest_ok (W := W) (k := k) hD p.2 (hg p hp) S
      obtain ⟨f2, h2⟩ := filing_ok (W := W) (k := k) hF cs (p.2.map fun g => g.getLastD 0) S
      have h3 : leAll cs (p.2.map fun g => g.getLastD 0) = openB cs p := rfl
      rw [h3] at h2
      have tb : ∀ b, (D.bl b).truth = some b := fun _ => rfl
      unfold stepE
      rw [ha]
      cases q : openB cs p with
      | true =>
        rw [q] at h2
        simp only [sts, st, ev, evl, evo, evt, evi, bnd, Res.bnd, Res.hush, hush, ret, lift, tryL, asg, asg.asgs, List.getElem?_cons_succ, List.getElem?_cons_zero, List.length_cons, List.length_nil, List.set_cons_succ, List.set_cons_zero, sizeOk0, reduceIte, h1, h2, v_bl, tb]
      | false =>
        rw [q] at h2
        simp only [sts, st, ev, evl, evo, evt, evi, bnd, Res.bnd, Res.hush, hush, ret, lift, tryL, asg, asg.asgs, List.getElem?_cons_succ, List.getElem?_cons_zero, List.length_cons, List.length_nil, List.set_cons_succ, List.set_cons_zero, sizeOk0, reduceIte, h1, h2, v_bl, tb]
        rfl
    have e : (L.filterMap fun p => if openB cs p = true then some (D.str p.1) else none) = dS ((L.filter (openB cs)).map (·.1)) := by
      clear hg hs hl
      induction L with
      | nil => rfl
      | cons p L ih =>
        rw [List.filterMap_cons, List.filter_cons]
        cases q : openB cs p with
        | true =>
          simp only [if_true]
          rw [ih]
          rfl
        | false =>
          simp only [Bool.false_eq_true, if_false]
          exact ih
    rw [e]
    refine wp_ret (wp_eq (a := D.lst (srt ((L.filter (openB cs)).map (·.1)))) (S' := S) ?_ (wp_ret ⟨rfl, rfl⟩))
    show lift (pBi .sorted [.lst (dS _)]) S = _
    have hs1 : ∀ x ∈ (L.filter (openB cs)).map (·.1), PyData.strOk x = true := fun x hx => by
      obtain ⟨p, hp, rfl⟩ := List.mem_map.mp hx
      exact hs p (List.mem_filter.mp hp).1
    have hl1 : ((L.filter (openB cs)).map (·.1)).length ≤ 100000 := by
      rw [List.length_map]
      have := List.length_filter_le (openB cs) L
      omega
    rw [sort_ok hs1 hl1]
    rfl
  obtain ⟨⟨a, f⟩, S', e, h1, h2⟩ := this
  have h1 : a = _ := h1
  subst h1 h2
  exact ⟨f, e⟩
end
end Y
/-! k03: the law's mathematics. -/
namespace Y
open PySem L2
open G (T Wh ir13 ir14 fe13)
theorem tBegun : T.fns[4]? = some ⟨1, 3, irBegun⟩ := by kernel_rfl
theorem tMixed : T.fns[5]? = some ⟨1, 6, irMixed⟩ := by kernel_rfl
theorem tTake : T.fns[6]? = some ⟨2, 3, irTake 5⟩ := by kernel_rfl
theorem tPick : T.fns[7]? = some ⟨2, 2, irPick 6⟩ := by kernel_rfl
theorem tShuf : T.fns[8]? = some ⟨2, 4, irShuffled 6⟩ := by kernel_rfl
theorem tEvery : T.fns[9]? = some ⟨2, 7, irEvery⟩ := by kernel_rfl
theorem tCuts : T.fns[10]? = some ⟨3, 4, irCuts 6⟩ := by kernel_rfl
theorem tGaps : T.fns[11]? = some ⟨3, 7, irGaps 6⟩ := by kernel_rfl
theorem tBelow : T.fns[12]? = some ⟨2, 4, irBelow⟩ := by kernel_rfl
theorem tFiling : T.fns[0]? = some ⟨2, 4, irFiling⟩ := by kernel_rfl
theorem tDeep : T.fns[1]? = some ⟨1, 2, irDeepest⟩ := by kernel_rfl
theorem tFiled : T.fns[2]? = some ⟨2, 7, irFiled⟩ := by kernel_rfl
theorem tReach : T.fns[3]? = some ⟨2, 4, irReach 0 1⟩ := by kernel_rfl
def shapes : List D := [.tup [.int 1, .int 2], .tup [.int 1, .int 10], .tup [.int 2, .int 3], .tup [.int 3, .int 2], .tup [.int 2, .int 5], .tup [.int 3, .int 4], .tup [.int 4, .int 3], .tup [.int 6, .int 2], .tup [.int 2, .int 10], .tup [.int 5, .int 2]]
theorem shape_ok {n : Nat} {R S : List D} (h : Dr n R S) (hn : n < 2 ^ 40) : Wp (callF T Wh 5 13 [.box 1, .int 300]) S fun x S' => ∃ size far : Nat, x.1 = .tup [.int size, .int far] ∧ 1 ≤ size ∧ size ≤ 6 ∧ 2 ≤ far ∧ far ≤ 10 ∧ far ^ size ≤ 300 ∧ Dr (n + 1) R S' := by
  refine wp_callE (fe := fe13) (de0 := [some (.val (.box 1)), some (.val (.int 300)), none, none, none, none, none, none]) (by kernel_rfl) rfl rfl ?_
  have e : sts T (callF T Wh 4) Wh [some (.val (.box 1)), some (.val (.int 300)), none, none, none, none, none, none] ir13 S = sts T (callF T Wh 4) Wh [some (.val (.box 1)), some (.val (.int 300)), some (.val (.lst [.tup [.int 1, .int 2], .tup [.int 1, .int 10], .tup [.int 2, .int 3], .tup [.int 3, .int 2], .tup [.int 2, .int 5], .tup [.int 3, .int 4], .tup [.int 4, .int 3], .tup [.int 6, .int 2], .tup [.int 2, .int 10], .tup [.int 5, .int 2], .tup [.int 4, .int 5], .tup [.int 3, .int 7]])), some (.val (.lst shapes)), some (.val (.int 3)), some (.val (.int 7)), some (.val (.int 343)), some (.val (.int 2))] (.cons (.rt (.call 7 (.cons (.var 0) (.cons (.var 3) .nil)))) .nil) S := by kernel_rfl
  refine wp_at e ?_
  refine sts_one (wp_bnd (wp_ecall (ds := [.box 1, .lst shapes]) rfl ((pick_ok (k := 1) tPick tTake tMixed h hn (xs := shapes) (by decide) (by decide)).imp fun x S' hx => wp_ret ?_)))
  obtain ⟨hm, hd⟩ := hx
  have : ∀ y ∈ shapes, ∃ size far : Nat, y = .tup [.int size, .int far] ∧ 1 ≤ size ∧ size ≤ 6 ∧ 2 ≤ far ∧ far ≤ 10 ∧ far ^ size ≤ 300 := by
    intro y hy
    simp only [shapes, List.mem_cons, List.not_mem_nil, or_false] at hy
    rcases hy with rfl | rfl | rfl | rfl | rfl | rfl | rfl | rfl | rfl | rfl
    · exact ⟨1, 2, rfl, by decide⟩
    · exact ⟨1, 10, rfl, by decide⟩
    · exact ⟨2, 3, rfl, by decide⟩
    · exact ⟨3, 2, rfl, by decide⟩
    · exact ⟨2, 5, rfl, by decide⟩
    · exact ⟨3, 4, rfl, by decide⟩
    · exact ⟨4, 3, rfl, by decide⟩
    · exact ⟨6, 2, rfl, by decide⟩
    · exact ⟨2, 10, rfl, by decide⟩
    · exact ⟨5, 2, rfl, by decide⟩
  obtain ⟨size, far, e1, h1, h2, h3, h4, h5⟩ := this _ hm
  exact ⟨size, far, e1, h1, h2, h3, h4, h5, hd⟩
def lap : IR := match ir14 with
  | .cons _ (.cons (.forl _ _ b) _) => b
  | _ => .nil
def inner : IR := match lap with
  | .cons _ (.cons _ (.cons _ (.cons _ (.cons (.forl _ _ b) _)))) => b
  | _ => .nil
end Y
namespace Y
open PySem L2
open G (T Wh ir13 ir14 fe13)
theorem filter_enc' {α : Type} (enc : α → D) (p : α → Bool) (l : List α) : (l.filterMap fun x => if p x = true then some (enc x) else none) = (l.filter p).map enc := by
  induction l with
  | nil => rfl
  | cons x l ih =>
    rw [List.filterMap_cons, List.filter_cons]
    cases q : p x with
    | true =>
      simp only [if_true]
      rw [ih]
      rfl
    | false =>
      simp only [Bool.false_eq_true, if_false]
      exact ih
theorem sane_keys (l : List (List Nat)) : (l.map tN').all (sane 2) = true := by
  rw [List.all_eq_true]
  intro d hd
  obtain ⟨o, _, rfl⟩ := List.mem_map.mp hd
  exact sane_dI _ _
theorem sane_keys60 (l : List (List Nat)) : (l.map tN').all (sane 60) = true := by
  rw [List.all_eq_true]
  intro d hd
  obtain ⟨o, _, rfl⟩ := List.mem_map.mp hd
  exact sane_dI _ _
theorem isEmpty_map {α β : Type} (f : α → β) (l : List α) : (l.map f).isEmpty = l.isEmpty := by cases l <;> rfl
/-- one key held against the locks' breaks -/
theorem in_step {de : Env} {S : Store} (o : List Nat) (gs : List (List Nat)) {C : Calls}
    (hz : evi T C de (.zip (.var 16) (.var 12)) S = .ok ((o.zip gs).map encZ) S)
    (ha : ∀ p : Nat × List Nat, ∃ d1 : Env, asg (.gt (.cons (.gn 18) (.cons (.gn 19) .nil))) (encZ p) (wipeE de [18, 19]) = some d1 ∧ d1[18]? = some (some (.val (.int (p.1 : Nat)))) ∧ d1[19]? = some (some (.val (tN' p.2)))) :
    evt T C de (.tb (.o2 .eq (.lc [18, 19] (.gt (.cons (.gn 18) (.cons (.gn 19) .nil))) (.zip (.var 16) (.var 12)) (.tb (.o2 .nin (.var 18) (.var 19))) (.ki 1)) (.lst .nil))) S = .ok (inAll o gs) S := by
  have e1 : comp ((o.zip gs).map encZ) (stepE T C de [18, 19] (.gt (.cons (.gn 18) (.cons (.gn 19) .nil))) (.tb (.o2 .nin (.var 18) (.var 19))) (.ki 1)) S = .ok ((o.zip gs).filterMap fun p => if (!decide (p.1 ∈ p.2)) = true then some (.int 1) else none) S := by
    refine comp_map encZ _ fun p _ => ?_
    obtain ⟨d1, h1, h2, h3⟩ := ha p
    have hm : p2 .nin (.int (p.1 : Nat)) (tN' p.2) = some (.bl (!decide (p.1 ∈ p.2))) := by
      show p2 .nin (.int (p.1 : Nat)) (.tup (dI (p.2.map Int.ofNat))) = _
      rw [nin_tup]
      congr 3
      refine decide_eq_decide.mpr ⟨fun h => ?_, fun h => List.mem_map.mpr ⟨_, h, rfl⟩⟩
      obtain ⟨x, hx, e⟩ := List.mem_map.mp h
      have : x = p.1 := by
        have : (x : Int) = (p.1 : Int) := e
        omega
      rw [← this]
      exact hx
    unfold stepE
    rw [h1]
    cases q : decide (p.1 ∈ p.2) with
    | true =>
      rw [q] at hm
      simp only [sts, st, ev, evl, evo, evt, evi, bnd, Res.bnd, Res.hush, hush, ret, lift, tryL, asg, asg.asgs, List.getElem?_cons_succ, List.getElem?_cons_zero, List.length_cons, List.length_nil, List.set_cons_succ, List.set_cons_zero, sizeOk0, reduceIte, h2, h3, v_int, v_tup, hm]
      rfl
    | false =>
      rw [q] at hm
      simp only [sts, st, ev, evl, evo, evt, evi, bnd, Res.bnd, Res.hush, hush, ret, lift, tryL, asg, asg.asgs, List.getElem?_cons_succ, List.getElem?_cons_zero, List.length_cons, List.length_nil, List.set_cons_succ, List.set_cons_zero, sizeOk0, reduceIte, h2, h3, v_int, v_tup, hm]
      rfl
  have e2 : ev T C de (.lc [18, 19] (.gt (.cons (.gn 18) (.cons (.gn 19) .nil))) (.zip (.var 16) (.var 12)) (.tb (.o2 .nin (.var 18) (.var 19))) (.ki 1)) S = .ok (.lst ((o.zip gs).filterMap fun p => if (!decide (p.1 ∈ p.2)) = true then some (.int 1) else none)) S := by
    show (evi T C de (.zip (.var 16) (.var 12)) S).bnd (fun items => bnd (comp items (stepE T C de [18, 19] (.gt (.cons (.gn 18) (.cons (.gn 19) .nil))) (.tb (.o2 .nin (.var 18) (.var 19))) (.ki 1))) fun ds => ret (D.lst ds)) = _
    rw [hz]
    show (comp _ _ S).bnd _ = _
    rw [e1]
    rfl
  show ((ev T C de (.lc _ _ _ _ _) S).bnd fun x => bnd (ret (D.lst [])) fun y => fun S => lift (p2 .eq (view S x) (view S y)) S).bnd _ = _
  rw [e2]
  show (lift (p2 .eq (.lst _) (.lst [])) S).bnd _ = _
  rw [eq_nil _ (sane_ones _ _), filterMap_if_nil]
  show Res.ok ((o.zip gs).all fun p => !!decide (p.1 ∈ p.2)) S = _
  congr 1
  unfold inAll
  congr 1
  funext p
  rw [Bool.not_not]
/-- strokes, by the law's words -/
theorem strk_len (cs o : List Nat) : ((cs.zip o).filterMap fun p => if decide (p.1 ≠ p.2) = true then some (D.int 1) else none).length = strk cs o := by
  unfold strk
  rw [filter_enc' (fun _ => D.int 1), List.length_map]
theorem minL_eq : ∀ (l : List Int) (m : Int), m ∈ l → (∀ x ∈ l, m ≤ x) → ∀ x r, l = x :: r → minL x r = m := by
  intro l m hm hl x r e
  subst e
  obtain ⟨h1, h2, h3⟩ := minL_le r x
  have a : m ≤ minL x r := hl _ (h3.elim (fun z => by rw [z]; exact List.mem_cons_self) fun z => List.mem_cons_of_mem _ z)
  have b : minL x r ≤ m := by
    rcases List.mem_cons.mp hm with z | z
    · rw [z]; exact h1
    · exact h2 m z
  omega

theorem strk_ev {de : Env} {S : Store} {C : Calls} {it : IR} (cs o : List Nat) (hz : evi T C de it S = .ok ((cs.zip o).map fun p => D.tup [.int (p.1 : Nat), .int (p.2 : Nat)]) S)
    (ha : ∀ p : Nat × Nat, ∃ d1 : Env, asg (.gt (.cons (.gn 21) (.cons (.gn 22) .nil))) (.tup [.int (p.1 : Nat), .int (p.2 : Nat)]) (wipeE de [21, 22]) = some d1 ∧ d1[21]? = some (some (.val (.int (p.1 : Nat)))) ∧ d1[22]? = some (some (.val (.int (p.2 : Nat))))) :
    ev T C de (.bi .len (.cons (.lc [21, 22] (.gt (.cons (.gn 21) (.cons (.gn 22) .nil))) it (.tb (.o2 .ne (.var 21) (.var 22))) (.ki 1)) .nil)) S = .ok (.int (strk cs o : Nat)) S := by
  have e1 : comp ((cs.zip o).map fun p => D.tup [.int (p.1 : Nat), .int (p.2 : Nat)]) (stepE T C de [21, 22] (.gt (.cons (.gn 21) (.cons (.gn 22) .nil))) (.tb (.o2 .ne (.var 21) (.var 22))) (.ki 1)) S = .ok ((cs.zip o).filterMap fun p => if decide (p.1 ≠ p.2) = true then some (.int 1) else none) S := by
    refine comp_map _ _ fun p _ => ?_
    obtain ⟨d1, h1, h2, h3⟩ := ha p
    unfold stepE
    rw [h1]
    by_cases q : p.1 = p.2
    · have q2 : decide ((p.1 : Int) = (p.2 : Int)) = true := decide_eq_true (by omega)
      have q3 : decide (p.1 ≠ p.2) = false := decide_eq_false (fun z => z q)
      rw [q3]
      simp only [sts, st, ev, evl, evo, evt, evi, bnd, Res.bnd, Res.hush, hush, ret, lift, tryL, asg, asg.asgs, List.getElem?_cons_succ, List.getElem?_cons_zero, List.length_cons, List.length_nil, List.set_cons_succ, List.set_cons_zero, sizeOk0, reduceIte, h2, h3, v_int, p2_nei, q2]
      rfl
    · have q2 : decide ((p.1 : Int) = (p.2 : Int)) = false := decide_eq_false (by omega)
      have q3 : decide (p.1 ≠ p.2) = true := decide_eq_true q
      rw [q3]
      simp only [sts, st, ev, evl, evo, evt, evi, bnd, Res.bnd, Res.hush, hush, ret, lift, tryL, asg, asg.asgs, List.getElem?_cons_succ, List.getElem?_cons_zero, List.length_cons, List.length_nil, List.set_cons_succ, List.set_cons_zero, sizeOk0, reduceIte, h2, h3, v_int, p2_nei, q2]
      rfl
  have e2 : ev T C de (.lc [21, 22] (.gt (.cons (.gn 21) (.cons (.gn 22) .nil))) it (.tb (.o2 .ne (.var 21) (.var 22))) (.ki 1)) S = .ok (.lst ((cs.zip o).filterMap fun p => if decide (p.1 ≠ p.2) = true then some (.int 1) else none)) S := by
    show (evi T C de it S).bnd (fun items => bnd (comp items (stepE T C de [21, 22] (.gt (.cons (.gn 21) (.cons (.gn 22) .nil))) (.tb (.o2 .ne (.var 21) (.var 22))) (.ki 1))) fun ds => ret (D.lst ds)) = _
    rw [hz]
    show (comp _ _ S).bnd _ = _
    rw [e1]
    rfl
  show (((ev T C de (.lc _ _ _ _ _) S).bnd _).bnd _) = _
  rw [e2]
  show Res.ok (D.int (((cs.zip o).filterMap fun p => if decide (p.1 ≠ p.2) = true then some (D.int 1) else none).length : Nat)) S = _
  rw [strk_len]
theorem isN_opt (S : Store) (f : Option (List Nat)) : p2 .isN (view S (optT f)) .non = some (.bl f.isNone) := by cases f <;> rfl
theorem dInts_dI : ∀ ns : List Int, dInts (dI ns) = some ns
  | [] => rfl
  | n :: ns => by
    show (dInts (dI ns)).map (n :: ·) = _
    rw [dInts_dI ns]
    rfl
def keepB (cs : List Nat) (gs : List (List Nat)) (o : List Nat) : Bool := leAll cs o && inAll o gs
theorem good_eq (cs : List Nat) (gs : List (List Nat)) (l : List (List Nat)) : (l.filter (leAll cs)).filter (fun o => inAll o gs) = l.filter (keepB cs gs) := by
  rw [List.filter_filter]
  congr 1
  funext o
  unfold keepB
  rw [Bool.and_comm]
theorem inner_ok {a0 a1 a2 a3 a5 a6 a7 a10 a13 a14 a15 a16 a17 a18 a19 a20 a21 a22 : Option EV} (due : List Str) (cs : List Nat) (size far : Nat) (name : Str) (gs : List (List Nat)) (S : Store) (hdue : due.length ≤ 1000)
    (hc : cs.length = size) (hg : gs.length = size) (hga : ∀ g ∈ gs, Asc g ∧ g ≠ [] ∧ ∀ c ∈ g, c < far) (hsz : size ≤ 6) (hf : 0 < far) (hz : far ^ size ≤ 300) :
    Wp (sts T (callF T Wh 5) Wh [a0, a1, a2, a3, some (.own (.lst (dS due))), a5, a6, a7, some (.val (tN' cs)), some (.val (.lst ((allT far size).map tN'))), a10, some (.val (.str name)), some (.val (.tup (dG gs))), a13, a14, a15, a16, a17, a18, a19, a20, a21, a22] inner) S fun o S' => S' = S ∧ ∃ b13 b14 b15 b16 : Option EV,
      o = .nx [a0, a1, a2, a3, some (.own (.lst (dS (due ++ if openB cs (name, gs) = true then [name] else [])))), a5, a6, a7, some (.val (tN' cs)), some (.val (.lst ((allT far size).map tN'))), a10, some (.val (.str name)), some (.val (.tup (dG gs))), b13, b14, b15, b16, a17, a18, a19, a20, a21, a22] := by
  -- the filings
  refine sts_one ?_
  refine wp_bnd (wp_lc (wp_eq (evi_l (xs := (allT far size).map tN') rfl) ?_))
  refine wp_eq (comp_map tN' (fun o => if leAll cs o = true then some (tN' o) else none) fun o _ => ?_) ?_
  · obtain ⟨f, h⟩ := below_ok (W := Wh) (k := 4) tBelow cs o S
    have ha : asg (.gn 16) (tN' o) (wipeE [a0, a1, a2, a3, some (.own (.lst (dS due))), a5, a6, a7, some (.val (tN' cs)), some (.val (.lst ((allT far size).map tN'))), a10, some (.val (.str name)), some (.val (.tup (dG gs))), a13, a14, a15, a16, a17, a18, a19, a20, a21, a22] [16]) = some [a0, a1, a2, a3, some (.own (.lst (dS due))), a5, a6, a7, some (.val (tN' cs)), some (.val (.lst ((allT far size).map tN'))), a10, some (.val (.str name)), some (.val (.tup (dG gs))), a13, a14, a15, some (.val (tN' o)), a17, a18, a19, a20, a21, a22] := rfl
    have tb : ∀ b, (D.bl b).truth = some b := fun _ => rfl
    unfold stepE
    rw [ha]
    cases q : leAll cs o with
    | true =>
      rw [q] at h
      simp only [sts, st, ev, evl, evo, evt, evi, bnd, Res.bnd, Res.hush, hush, ret, lift, tryL, asg, asg.asgs, List.getElem?_cons_succ, List.getElem?_cons_zero, List.length_cons, List.length_nil, List.set_cons_succ, List.set_cons_zero, sizeOk0, reduceIte, h, v_bl, tb]
    | false =>
      rw [q] at h
      simp only [sts, st, ev, evl, evo, evt, evi, bnd, Res.bnd, Res.hush, hush, ret, lift, tryL, asg, asg.asgs, List.getElem?_cons_succ, List.getElem?_cons_zero, List.length_cons, List.length_nil, List.set_cons_succ, List.set_cons_zero, sizeOk0, reduceIte, h, v_bl, tb]
      rfl
  rw [filter_enc' tN']
  refine wp_ret (sts_one ?_)
  -- those that open the lock
  refine wp_bnd (wp_lc (wp_eq (evi_l (xs := ((allT far size).filter (leAll cs)).map tN') rfl) ?_))
  refine wp_eq (comp_map tN' (fun o => if inAll o gs = true then some (tN' o) else none) fun o _ => ?_) ?_
  · have h := in_step (C := callF T Wh 5) (de := [a0, a1, a2, a3, some (.own (.lst (dS due))), a5, a6, a7, some (.val (tN' cs)), some (.val (.lst ((allT far size).map tN'))), a10, some (.val (.str name)), some (.val (.tup (dG gs))), some (.val (.lst (((allT far size).filter (leAll cs)).map tN'))), a14, a15, some (.val (tN' o)), a17, a18, a19, a20, a21, a22]) (S := S) o gs (by
      show Res.ok (((dN o).zip (dG gs)).map fun p => D.tup [p.1, p.2]) S = _
      rw [dN_map, zip_enc]) fun p => ⟨_, rfl, rfl, rfl⟩
    have ha : asg (.gn 16) (tN' o) (wipeE [a0, a1, a2, a3, some (.own (.lst (dS due))), a5, a6, a7, some (.val (tN' cs)), some (.val (.lst ((allT far size).map tN'))), a10, some (.val (.str name)), some (.val (.tup (dG gs))), some (.val (.lst (((allT far size).filter (leAll cs)).map tN'))), a14, a15, a16, a17, a18, a19, a20, a21, a22] [16]) = some [a0, a1, a2, a3, some (.own (.lst (dS due))), a5, a6, a7, some (.val (tN' cs)), some (.val (.lst ((allT far size).map tN'))), a10, some (.val (.str name)), some (.val (.tup (dG gs))), some (.val (.lst (((allT far size).filter (leAll cs)).map tN'))), a14, a15, some (.val (tN' o)), a17, a18, a19, a20, a21, a22] := rfl
    show (stepE T (callF T Wh 5) _ [16] (.gn 16) _ (.var 16) (tN' o)) S = _
    unfold stepE
    show tryL (asg (.gn 16) (tN' o) (wipeE [a0, a1, a2, a3, some (.own (.lst (dS due))), a5, a6, a7, some (.val (tN' cs)), some (.val (.lst ((allT far size).map tN'))), a10, some (.val (.str name)), some (.val (.tup (dG gs))), some (.val (.lst (((allT far size).filter (leAll cs)).map tN'))), a14, a15, a16, a17, a18, a19, a20, a21, a22] [16])) _ S = _
    rw [ha]
    show Res.bnd (Res.hush (evt T (callF T Wh 5) _ _ S)) _ = _
    rw [h]
    cases inAll o gs <;> rfl
  rw [filter_enc' tN', good_eq]
  have hgl : ((allT far size).filter (keepB cs gs)).length ≤ 300 := by
    have := List.length_filter_le (keepB cs gs) (allT far size)
    rw [allT_len] at this
    omega
  have hgm : ∀ o : List Nat, o ∈ (allT far size).filter (keepB cs gs) ↔ o.length = size ∧ leAll cs o = true ∧ inAll o gs = true := fun o => by
    rw [List.mem_filter, allT_mem]
    unfold keepB
    rw [Bool.and_eq_true]
    constructor
    · rintro ⟨⟨h1, _⟩, h2⟩
      exact ⟨h1, h2⟩
    · rintro ⟨h1, h2, h3⟩
      refine ⟨⟨h1, fun c hc' => ?_⟩, h2, h3⟩
      -- each cut is a break
      obtain ⟨i, hi, e⟩ := List.mem_iff_getElem.mp hc'
      have hi2 : i < gs.length := by omega
      have hm : (o[i], gs[i]) ∈ o.zip gs := by
        rw [List.mem_iff_getElem]
        exact ⟨i, by rw [List.length_zip]; omega, by rw [List.getElem_zip]⟩
      have := List.all_eq_true.mp h3 _ hm
      rw [decide_eq_true_eq] at this
      rw [← e]
      exact (hga _ (List.getElem_mem hi2)).2.2 _ this
  generalize hgood : (allT far size).filter (keepB cs gs) = good at hgl hgm
  refine wp_ret (sts_one ?_)
  -- filed_to_open
  obtain ⟨ff, hfile⟩ := filed_ok (W := Wh) (k := 4) tFiled cs gs (by omega) S
  refine wp_bnd (wp_ecall (ds := [tN' cs, .tup (dG gs)]) rfl (wp_eq hfile ?_))
  refine wp_ret (sts_one ?_)
  have hcg : cs.length = gs.length := by omega
  have hopen : openB cs (name, gs) = (filedZ (cs.zip gs)).isSome := reach_iff hcg fun g hg' => ⟨(hga g hg').1, (hga g hg').2.1⟩
  have heq : (filedZ (cs.zip gs)).isNone = good.isEmpty := by
    cases q : filedZ (cs.zip gs) with
    | none =>
      cases good with
      | nil => rfl
      | cons o r =>
        obtain ⟨h1, h2, h3⟩ := (hgm o).mp List.mem_cons_self
        exact (filed_none (by omega) q o (by omega) h2 h3).elim
    | some l =>
      obtain ⟨h1, h2, h3, _⟩ := filed_some (by omega) (fun g hg' => (hga g hg').1) q
      have : l ∈ good := (hgm l).mpr ⟨by omega, h2, h3⟩
      cases good with
      | nil => cases this
      | cons o r => rfl
  refine wp_bnd (wp_eq (a := false) (S' := S) ?_ ?_)
  · have h1 : p2 .ne (.bl (filedZ (cs.zip gs)).isNone) (.bl good.isEmpty) = some (.bl false) := by
      rw [ne_bl, heq]
      cases good.isEmpty <;> rfl
    have h2 := eq_nil (good.map tN') (sane_keys60 good)
    rw [isEmpty_map] at h2
    simp only [sts, st, ev, evl, evo, evt, evi, bnd, Res.bnd, Res.hush, hush, ret, lift, tryL, asg, asg.asgs, List.getElem?_cons_succ, List.getElem?_cons_zero, List.length_cons, List.length_nil, List.set_cons_succ, List.set_cons_zero, sizeOk0, reduceIte, v_lst, isN_opt, v_non, h2, v_bl, h1]
  refine wp_ifF rfl ?_
  refine wp_ret (sts_one ?_)
  refine wp_bnd (wp_eq (a := !good.isEmpty) (S' := S) ?_ ?_)
  · have h2 := ne_nil (good.map tN') (sane_keys60 good)
    rw [isEmpty_map] at h2
    simp only [sts, st, ev, evl, evo, evt, evi, bnd, Res.bnd, Res.hush, hush, ret, lift, tryL, asg, asg.asgs, List.getElem?_cons_succ, List.getElem?_cons_zero, List.length_cons, List.length_nil, List.set_cons_succ, List.set_cons_zero, sizeOk0, reduceIte, v_lst, h2]
  cases q : filedZ (cs.zip gs) with
  | none =>
    have hb : good.isEmpty = true := by rw [← heq, q]; rfl
    refine wp_ifF (by rw [hb]; rfl) ?_
    refine wp_ret (wp_ret ⟨rfl, some (.val (.lst (good.map tN'))), some (.val .non), a15, a16, ?_⟩)
    rw [hopen, q]
    simp only [Option.isSome_none, Bool.false_eq_true, if_false, List.append_nil]
    rfl
  | some l =>
    have hb : good.isEmpty = false := by rw [← heq, q]; rfl
    obtain ⟨l1, l2, l3, l4⟩ := filed_some hcg (fun g hg' => (hga g hg').1) q
    have hlm : l ∈ good := (hgm l).mpr ⟨by omega, l2, l3⟩
    refine wp_ifT (by rw [hb]; rfl) ?_
    refine sts_one (wp_eq (a := .nx [a0, a1, a2, a3, some (.own (.lst (dS due ++ [.str name]))), a5, a6, a7, some (.val (tN' cs)), some (.val (.lst ((allT far size).map tN'))), a10, some (.val (.str name)), some (.val (.tup (dG gs))), some (.val (.lst (good.map tN'))), some (.val (tN' l)), a15, a16, a17, a18, a19, a20, a21, a22]) (S' := S) ?_ ?_)
    · have hs : decide ((dS due).length < sizeLine) = true := decide_eq_true (by rw [List.length_map, sizeLine_eq]; omega)
      simp only [sts, st, ev, evl, evo, evt, evi, bnd, Res.bnd, Res.hush, hush, ret, lift, tryL, asg, asg.asgs, List.getElem?_cons_succ, List.getElem?_cons_zero, List.length_cons, List.length_nil, List.set_cons_succ, List.set_cons_zero, sizeOk0, reduceIte, hs]
      rfl
    refine sts_one (wp_eq (a := .nx [a0, a1, a2, a3, some (.own (.lst (dS due ++ [.str name]))), a5, a6, a7, some (.val (tN' cs)), some (.val (.lst ((allT far size).map tN'))), a10, some (.val (.str name)), some (.val (.tup (dG gs))), some (.val (.lst (good.map tN'))), some (.val (tN' l)), some (.own (.lst [])), a16, a17, a18, a19, a20, a21, a22]) (S' := S) rfl ?_)
    refine sts_one ?_
    refine wp_bnd (wp_eq (evi_l (xs := good.map tN') rfl) ?_)
    refine wp_loop (I := fun items de S2 => S2 = S ∧ ∃ (done rest : List (List Nat)) (b16 : Option EV), good = done ++ rest ∧ items = rest.map tN' ∧ de = [a0, a1, a2, a3, some (.own (.lst (dS due ++ [.str name]))), a5, a6, a7, some (.val (tN' cs)), some (.val (.lst ((allT far size).map tN'))), a10, some (.val (.str name)), some (.val (.tup (dG gs))), some (.val (.lst (good.map tN'))), some (.val (tN' l)), some (.own (.lst (dI (done.map fun o => ((strk cs o : Nat) : Int))))), b16, a17, a18, a19, a20, a21, a22]) _ _ _ ⟨rfl, [], good, a16, rfl, rfl, rfl⟩ ?_ ?_
    · rintro x it de S2 ⟨rfl, done, rest, b16, hd, hi, rfl⟩
      cases rest with
      | nil => cases hi
      | cons o rest =>
        obtain ⟨rfl, rfl⟩ := List.cons.inj hi
        refine ⟨[a0, a1, a2, a3, some (.own (.lst (dS due ++ [.str name]))), a5, a6, a7, some (.val (tN' cs)), some (.val (.lst ((allT far size).map tN'))), a10, some (.val (.str name)), some (.val (.tup (dG gs))), some (.val (.lst (good.map tN'))), some (.val (tN' l)), some (.own (.lst (dI (done.map fun o => ((strk cs o : Nat) : Int))))), some (.val (tN' o)), a17, a18, a19, a20, a21, a22], rfl, sts_one ?_⟩
        have hs := strk_ev (C := callF T Wh 5) (de := [a0, a1, a2, a3, some (.own (.lst (dS due ++ [.str name]))), a5, a6, a7, some (.val (tN' cs)), some (.val (.lst ((allT far size).map tN'))), a10, some (.val (.str name)), some (.val (.tup (dG gs))), some (.val (.lst (good.map tN'))), some (.val (tN' l)), some (.own (.lst (dI (done.map fun o => ((strk cs o : Nat) : Int))))), some (.val (tN' o)), a17, a18, a19, a20, a21, a22]) (S := S2) (it := .zip (.var 8) (.var 16)) cs o (by
          show Res.ok (((dN cs).zip (dN o)).map fun p => D.tup [p.1, p.2]) S2 = _
          rw [dN_map, dN_map, zip_enc]) fun p => ⟨_, rfl, rfl, rfl⟩
        have hz2 : decide ((dI (done.map fun o => ((strk cs o : Nat) : Int))).length < sizeLine) = true := decide_eq_true (by
          have : done.length ≤ 300 := by
            rw [hd, List.length_append] at hgl
            omega
          rw [List.length_map, List.length_map, sizeLine_eq]
          omega)
        refine wp_bnd (wp_eq hs ?_)
        rw [if_pos hz2]
        refine wp_ret (wp_ret ⟨rfl, done ++ [o], rest, some (.val (tN' o)), by rw [hd, List.append_assoc]; rfl, rfl, ?_⟩)
        rw [List.map_append, dI_app]
        rfl
    · rintro de S2 ⟨rfl, done, rest, b16, hd, hi, rfl⟩
      cases rest with
      | cons o rest => cases hi
      | nil =>
        rw [List.append_nil] at hd
        subst hd
        refine sts_one ?_
        -- found is one of the good
        obtain ⟨r1, h1, h2⟩ := nin_sane (a := tN' l) (ds := good.map tN') (n := 2) (m := 2) (sane_dI _ _) (sane_keys good) (by decide) (by decide)
        have hr1 : r1 = false := by
          cases r1 with
          | false => rfl
          | true => exact absurd (List.mem_map.mpr ⟨l, hlm, rfl⟩) (h2.mp rfl)
        subst hr1
        refine wp_bnd (wp_eq (a := false) (S' := S2) ?_ ?_)
        · simp only [sts, st, ev, evl, evo, evt, evi, bnd, Res.bnd, Res.hush, hush, ret, lift, tryL, asg, asg.asgs, List.getElem?_cons_succ, List.getElem?_cons_zero, List.length_cons, List.length_nil, List.set_cons_succ, List.set_cons_zero, sizeOk0, reduceIte, v_tup, v_lst, h1]
        refine wp_ifF rfl (wp_ret (sts_one ?_))
        -- the strokes
        have hs := strk_ev (C := callF T Wh 5) (de := [a0, a1, a2, a3, some (.own (.lst (dS due ++ [.str name]))), a5, a6, a7, some (.val (tN' cs)), some (.val (.lst ((allT far size).map tN'))), a10, some (.val (.str name)), some (.val (.tup (dG gs))), some (.val (.lst (good.map tN'))), some (.val (tN' l)), some (.own (.lst (dI (good.map fun o => ((strk cs o : Nat) : Int))))), b16, a17, a18, a19, a20, a21, a22]) (S := S2) (it := .zip (.var 8) (.var 14)) cs l (by
          show Res.ok (((dN cs).zip (dN l)).map fun p => D.tup [p.1, p.2]) S2 = _
          rw [dN_map, dN_map, zip_enc]) fun p => ⟨_, rfl, rfl, rfl⟩
        have hmin : pBi .minl [.lst (dI (good.map fun o => ((strk cs o : Nat) : Int)))] = some (.int (strk cs l : Nat)) := by
          show (match dInts (dI (good.map fun o => ((strk cs o : Nat) : Int))) with | some (x :: r) => some (D.int (minL x r)) | _ => none) = _
          rw [dInts_dI]
          cases hq : good.map (fun o => ((strk cs o : Nat) : Int)) with
          | nil =>
            have := List.map_eq_nil_iff.mp hq
            rw [this] at hlm
            cases hlm
          | cons x r =>
            show some (D.int (minL x r)) = _
            rw [minL_eq _ ((strk cs l : Nat) : Int) (List.mem_map.mpr ⟨l, hlm, rfl⟩) (fun y hy => by
              obtain ⟨o, ho, rfl⟩ := List.mem_map.mp hy
              obtain ⟨o1, o2, o3⟩ := (hgm o).mp ho
              have := (l4 o (by omega) o2 o3).2
              omega) x r hq]
        refine wp_bnd (wp_eq (a := false) (S' := S2) ?_ ?_)
        · show ((ev T (callF T Wh 5) _ (.bi .len _) S2).bnd _).bnd _ = _
          rw [hs]
          have e0 : p2 .ne (.int (strk cs l : Nat)) (.int (strk cs l : Nat)) = some (.bl false) := by rw [p2_nei, decide_eq_true rfl]; rfl
          simp only [sts, st, ev, evl, evo, evt, evi, bnd, Res.bnd, Res.hush, hush, ret, lift, tryL, asg, asg.asgs, List.getElem?_cons_succ, List.getElem?_cons_zero, List.length_cons, List.length_nil, List.set_cons_succ, List.set_cons_zero, sizeOk0, reduceIte, List.map_cons, List.map_nil, v_lst, v_int, hmin, e0]
        refine wp_ifF rfl (wp_ret (sts_one ?_))
        -- nowhere deeper
        have hno : ∀ (de : Env), de[13]? = some (some (.val (.lst (good.map tN')))) → de[14]? = some (some (.val (tN' l))) → 16 < de.length → (wipeE de [16]).length = de.length → ev T (callF T Wh 5) de (.lc [16] (.gn 16) (.iv (.var 13)) (.tnot (.tt (.call 12 (.cons (.var 14) (.cons (.var 16) .nil))))) (.var 16)) S2 = .ok (.lst []) S2 := fun de h13 h14 h16 hw => by
          have e1 : comp (good.map tN') (stepE T (callF T Wh 5) de [16] (.gn 16) (.tnot (.tt (.call 12 (.cons (.var 14) (.cons (.var 16) .nil))))) (.var 16)) S2 = .ok [] S2 := by
            rw [comp_map tN' (fun _ => none) fun o ho => ?_]
            · congr 1
              induction good with
              | nil => rfl
              | cons o r ih => rw [List.filterMap_cons]; exact List.filterMap_eq_nil_iff.mpr fun _ _ => rfl
            obtain ⟨o1, o2, o3⟩ := (hgm o).mp ho
            have hle := (l4 o (by omega) o2 o3).1
            obtain ⟨f, h⟩ := below_ok (W := Wh) (k := 4) tBelow l o S2
            rw [hle] at h
            have ha : asg (.gn 16) (tN' o) (wipeE de [16]) = some ((wipeE de [16]).set 16 (some (.val (tN' o)))) := by
              show (if 16 < (wipeE de [16]).length then _ else none) = _
              rw [if_pos (by rw [hw]; exact h16)]
            have g14 : ((wipeE de [16]).set 16 (some (.val (tN' o))))[14]? = some (some (.val (tN' l))) := by
              rw [List.getElem?_set_ne (by decide)]
              show (de.set 16 none)[14]? = _
              rw [List.getElem?_set_ne (by decide)]
              exact h14
            have g16 : ((wipeE de [16]).set 16 (some (.val (tN' o))))[16]? = some (some (.val (tN' o))) := List.getElem?_set_self (by rw [hw]; exact h16)
            have tb : ∀ b, (D.bl b).truth = some b := fun _ => rfl
            unfold stepE
            rw [ha]
            simp only [sts, st, ev, evl, evo, evt, evi, bnd, Res.bnd, Res.hush, hush, ret, lift, tryL, asg, asg.asgs, List.getElem?_cons_succ, List.getElem?_cons_zero, List.length_cons, List.length_nil, List.set_cons_succ, List.set_cons_zero, sizeOk0, reduceIte, g14, g16, h, v_bl, tb]
            rfl
          show (evi T (callF T Wh 5) de (.iv (.var 13)) S2).bnd (fun items => bnd (comp items (stepE T (callF T Wh 5) de [16] (.gn 16) (.tnot (.tt (.call 12 (.cons (.var 14) (.cons (.var 16) .nil))))) (.var 16))) fun ds => ret (D.lst ds)) = _
          rw [evi_l (xs := good.map tN') (by show (match de[13]? with | some (some (EV.val d)) => ret d | _ => fail : M D) S2 = _; rw [h13])]
          show (comp _ _ S2).bnd _ = _
          rw [e1]
          rfl
        refine wp_bnd (wp_eq (a := false) (S' := S2) ?_ ?_)
        · show ((ev T (callF T Wh 5) _ (.lc _ _ _ _ _) S2).bnd _).bnd _ = _
          rw [hno _ rfl rfl (by simp) rfl]
          have e0 : p2 .ne (.lst []) (.lst []) = some (.bl false) := ne_nil [] rfl
          simp only [sts, st, ev, evl, evo, evt, evi, bnd, Res.bnd, Res.hush, hush, ret, lift, tryL, asg, asg.asgs, List.getElem?_cons_succ, List.getElem?_cons_zero, List.length_cons, List.length_nil, List.set_cons_succ, List.set_cons_zero, sizeOk0, reduceIte, v_lst, e0]
        refine wp_ifF rfl (wp_ret (wp_ret (wp_ret ⟨rfl, some (.val (.lst (good.map tN'))), some (.val (tN' l)), some (.own (.lst (dI (good.map fun o => ((strk cs o : Nat) : Int))))), b16, ?_⟩)))
        rw [hopen, q]
        simp only [Option.isSome_some, if_true, List.map_append]
        rfl
end Y
namespace Y
open PySem L2
open G (T Wh ir13 ir14 fe13)
theorem Dr.mono {n m : Nat} {R S : List D} (h : Dr n R S) (hm : n ≤ m) : Dr m R S := by
  obtain ⟨ls, cs, r, t, e, ht⟩ := h
  exact ⟨ls, cs, r, t, e, by omega⟩
abbrev encL (p : Str × List (List Nat)) : D := .tup [.str p.1, .tup (dG p.2)]
theorem dfind_str {x : Str} : ∀ {ks : List Str} {vs : List D}, x ∉ ks → dfind (.one (.inr x)) (dS ks) vs = none
  | [], vs, _ => by cases vs <;> rfl
  | k :: ks, [], _ => rfl
  | k :: ks, v :: vs, h => by
    show (if (D.str k).ky = some (.one (.inr x)) then some v else dfind (.one (.inr x)) (dS ks) vs) = none
    rw [if_neg (fun e => h (by
      have : k = x := by
        have e : some (Ky.one (.inr k)) = some (.one (.inr x)) := e
        cases e
        rfl
      rw [this]
      exact List.mem_cons_self))]
    exact dfind_str fun z => h (List.mem_cons_of_mem _ z)
theorem dfill_L : ∀ (L P : Locks), ((P ++ L).map (·.1)).Nodup → dfill (P.map fun p => .str p.1) (P.map fun p => .tup (dG p.2)) (L.map encL) = some (dL (P ++ L))
  | [], P, _ => by rw [List.append_nil]; rfl
  | p :: L, P, h => by
    have hn : p.1 ∉ P.map (·.1) := fun z => by
      rw [List.map_append, List.map_cons] at h
      exact (List.nodup_append.mp h).2.2 _ z _ List.mem_cons_self rfl
    have hf : dfind (.one (.inr p.1)) (P.map fun p => D.str p.1) (P.map fun p => .tup (dG p.2)) = none := by
      have := dfind_str (x := p.1) (ks := P.map (·.1)) (vs := P.map fun p => D.tup (dG p.2)) hn
      have e : dS (P.map (·.1)) = P.map fun p => D.str p.1 := List.map_map
      rw [e] at this
      exact this
    have ih := dfill_L L (P ++ [p]) (by rw [List.append_assoc]; exact h)
    show (if (dfind (.one (.inr p.1)) (P.map fun p => D.str p.1) (P.map fun p => .tup (dG p.2))).isSome = true then _ else dfill ((P.map fun p => D.str p.1) ++ [.str p.1]) ((P.map fun p => D.tup (dG p.2)) ++ [.tup (dG p.2)]) (L.map encL)) = _
    rw [hf, if_neg (by simp)]
    rw [List.map_append, List.map_append, List.append_assoc] at ih
    exact ih
/-- the rows, the law's words -/
def rowsZ (z : List (Nat × List Nat)) : List (List Nat) := z.map fun p => p.2.filter fun b => decide (p.1 ≤ b)
theorem filed_rows : ∀ z : List (Nat × List Nat), filedZ z = if [] ∈ rowsZ z then none else some ((rowsZ z).map fun r => r.headD 0)
  | [] => rfl
  | (c, g) :: z => by
    show (match g.filter fun b => decide (c ≤ b) with | [] => none | b :: _ => (filedZ z).map (b :: ·)) = _
    have e : rowsZ ((c, g) :: z) = (g.filter fun b => decide (c ≤ b)) :: rowsZ z := rfl
    rw [e]
    cases q : g.filter fun b => decide (c ≤ b) with
    | nil => rw [if_pos List.mem_cons_self]
    | cons b us =>
      show (filedZ z).map (b :: ·) = _
      rw [filed_rows z]
      by_cases h : [] ∈ rowsZ z
      · rw [if_pos h, if_pos (List.mem_cons_of_mem _ h)]
        rfl
      · rw [if_neg h, if_neg (fun z => (List.mem_cons.mp z).elim (fun e => by cases e) h)]
        rfl
theorem optT_sane (f : Option (List Nat)) : sane 2 (optT f) = true := by
  cases f with
  | none => rfl
  | some l => exact sane_dI _ _
abbrev dRows (rs : List (List Nat)) : List D := rs.map fun r => .lst (dN r)
theorem rows_sane (rs : List (List Nat)) : (dRows rs).all (sane 2) = true := by
  rw [List.all_eq_true]
  intro d hd
  obtain ⟨o, _, rfl⟩ := List.mem_map.mp hd
  exact sane_dI _ _
theorem nil_rows (rs : List (List Nat)) : (D.lst [] ∈ dRows rs) ↔ [] ∈ rs := by
  constructor
  · intro h
    obtain ⟨r, hr, e⟩ := List.mem_map.mp h
    cases r with
    | nil => exact hr
    | cons x r => cases e
  · exact fun h => List.mem_map.mpr ⟨[], h, rfl⟩
def GapsOk (size far : Nat) (gs : List (List Nat)) : Prop := gs.length = size ∧ ∀ g ∈ gs, Asc g ∧ g ≠ [] ∧ ∀ c ∈ g, c < far
def five : List Str := ["safe", "hall", "a", "yard", "zz"]
theorem five_ok : ∀ x ∈ five, PyData.strOk x = true := by decide +kernel
theorem five_nd : five.Nodup := by decide +kernel
theorem dS_cut (ys : List Str) (lo hi : Option Int) : ∃ zs : List Str, cutD (dS ys) lo hi = dS zs ∧ zs.Sublist ys := by
  refine ⟨(ys.drop (HT.sIx (dS ys).length 0 lo)).take (HT.sIx (dS ys).length (dS ys).length hi - HT.sIx (dS ys).length 0 lo), ?_, (List.take_sublist _ _).trans (List.drop_sublist _ _)⟩
  unfold cutD
  show _ = List.map D.str _
  rw [List.map_take, List.map_drop]

theorem wp_env {T : Tb} {C : Calls} {W : Nat} {de de' : Env} {ir : IR} {S : Store} {Q : Out → Store → Prop} (h : de = de') (q : Wp (sts T C W de' ir) S Q) : Wp (sts T C W de ir) S Q := by
  rw [h]
  exact q
theorem int_bl (b : Bool) : pBi .int [.bl b] = some (.int (if b then 1 else 0)) := rfl
theorem mul_one (b : Bool) : p2 .mul (.lst [.str "wide"]) (.int (if b then 1 else 0)) = some (.lst (if b then [.str "wide"] else [])) := by cases b <;> kernel_rfl
theorem srt_wide (b : Bool) : srt (if b then [("wide" : Str)] else []) = if b then [.str "wide"] else [] := by
  cases b
  · show List.mergeSort [] leD = []
    exact List.mergeSort_nil
  · show List.mergeSort [D.str "wide"] leD = [D.str "wide"]
    exact List.mergeSort_singleton _
/-- the last part of a lap: the greatest blank -/
theorem last_ok {a0 a2 a3 a4 a5 a6 a7 a8 a9 a10 a11 a12 a13 a14 a15 a16 a17 a18 a19 a20 a21 a22 : Option EV} {n : Nat} {R S : List D} (hd : Dr n R S) (hn : n < 1000000) {t1 t2 t3 t4 : IR}
    (h1 : t1 = .set (.gt (.cons (.gn 8) (.cons (.gn 12) .nil))) (.tup (.cons (.call 10 (.cons (.var 1) (.cons (.ki 6) (.cons (.ki 10) .nil)))) (.cons (.call 11 (.cons (.var 1) (.cons (.ki 6) (.cons (.ki 10) .nil)))) .nil))))
    (h2 : t2 = .set (.gn 5) (.lc [18, 19] (.gt (.cons (.gn 18) (.cons (.gn 19) .nil))) (.zip (.var 8) (.var 12)) (.kb true) (.lc [17] (.gn 17) (.iv (.var 19)) (.tb (.o2 .ge (.var 17) (.var 18))) (.var 17))))
    (h3 : t3 = .cond (.tb (.o2 .ne (.call 2 (.cons (.var 8) (.cons (.var 12) .nil))) (.ife (.tb (.o2 .isin (.lst .nil) (.var 5))) .kn (.bi .tuple (.cons (.lc [20] (.gn 20) (.iv (.var 5)) (.kb true) (.idx (.var 20) (.ki 0))) .nil))))) (.cons (.rt (.kb false)) .nil) .nil)
    (h4 : t4 = .cond (.tb (.o2 .ne (.call 3 (.cons (.var 8) (.cons (.dct (.cons (.ks "wide") (.cons (.var 12) .nil))) .nil))) (.o2 .mul (.lst (.cons (.ks "wide") .nil)) (.bi .int (.cons (.o2 .nin (.lst .nil) (.var 5)) .nil))))) (.cons (.rt (.kb false)) .nil) .nil) :
    Wp (sts T (callF T Wh 5) Wh [a0, some (.val (.box 1)), a2, a3, a4, a5, a6, a7, a8, a9, a10, a11, a12, a13, a14, a15, a16, a17, a18, a19, a20, a21, a22] (.cons t1 (.cons t2 (.cons t3 (.cons t4 .nil))))) S fun o S' => Dr (n + 100) R S' ∧ ∃ b5 b8 b12 : Option EV,
      o = .nx [a0, some (.val (.box 1)), a2, a3, a4, b5, a6, a7, b8, a9, a10, a11, b12, a13, a14, a15, a16, a17, a18, a19, a20, a21, a22] := by
  subst h1
  refine sts_one (wp_bnd (wp_bnd (wp_bnd (wp_ecall (ds := [.box 1, .int 6, .int 10]) rfl ((cuts_ok (k := 2) tCuts tTake tMixed hd (size := 6) (far := 10) (by decide) (by omega) (by decide)).imp fun x S1 hx => ?_)))))
  obtain ⟨cs, e1, hcl, hcf, hd1⟩ := hx
  rw [e1]
  refine wp_bnd (wp_bnd (wp_ecall (ds := [.box 1, .int 6, .int 10]) rfl ((gaps_ok (k := 2) tGaps tTake tMixed hd1 (size := 6) (far := 10) (by decide) (by decide) (by omega)).imp fun x S2 hx => ?_)))
  obtain ⟨gs, e2, hgl, hga, hd2⟩ := hx
  rw [e2]
  refine wp_bnd (wp_ret (wp_ret (wp_ret ?_)))
  refine wp_eq (a := D.tup [tN' cs, .tup (dG gs)]) (S' := S2) rfl ?_
  refine wp_ret (wp_env (de' := [a0, some (.val (.box 1)), a2, a3, a4, a5, a6, a7, some (.val (tN' cs)), a9, a10, a11, some (.val (.tup (dG gs))), a13, a14, a15, a16, a17, a18, a19, a20, a21, a22]) rfl (sts_one ?_))
  subst h2
  refine wp_bnd (wp_lc (wp_eq (a := (cs.zip gs).map encZ) (S' := S2) ?_ ?_))
  · show Res.ok (((dN cs).zip (dG gs)).map fun p => D.tup [p.1, p.2]) S2 = _
    rw [dN_map, zip_enc]
  refine wp_eq (comp_map encZ (fun p => some (.lst (dN (p.2.filter fun b => decide (p.1 ≤ b))))) fun p _ => ?_) ?_
  · have ha : asg (.gt (.cons (.gn 18) (.cons (.gn 19) .nil))) (encZ p) (wipeE [a0, some (.val (.box 1)), a2, a3, a4, a5, a6, a7, some (.val (tN' cs)), a9, a10, a11, some (.val (.tup (dG gs))), a13, a14, a15, a16, a17, a18, a19, a20, a21, a22] [18, 19]) = some [a0, some (.val (.box 1)), a2, a3, a4, a5, a6, a7, some (.val (tN' cs)), a9, a10, a11, some (.val (.tup (dG gs))), a13, a14, a15, a16, a17, some (.val (.int (p.1 : Nat))), some (.val (tN' p.2)), a20, a21, a22] := rfl
    have el : ev T (callF T Wh 5) [a0, some (.val (.box 1)), a2, a3, a4, a5, a6, a7, some (.val (tN' cs)), a9, a10, a11, some (.val (.tup (dG gs))), a13, a14, a15, a16, a17, some (.val (.int (p.1 : Nat))), some (.val (tN' p.2)), a20, a21, a22] (.lc [17] (.gn 17) (.iv (.var 19)) (.tb (.o2 .ge (.var 17) (.var 18))) (.var 17)) S2 = .ok (.lst (dN (p.2.filter fun b => decide (p.1 ≤ b)))) S2 := by
      have ec : comp (p.2.map fun (b : Nat) => D.int (b : Nat)) (stepE T (callF T Wh 5) [a0, some (.val (.box 1)), a2, a3, a4, a5, a6, a7, some (.val (tN' cs)), a9, a10, a11, some (.val (.tup (dG gs))), a13, a14, a15, a16, a17, some (.val (.int (p.1 : Nat))), some (.val (tN' p.2)), a20, a21, a22] [17] (.gn 17) (.tb (.o2 .ge (.var 17) (.var 18))) (.var 17)) S2 = .ok (dN (p.2.filter fun b => decide (p.1 ≤ b))) S2 := by
        rw [comp_map (fun (b : Nat) => D.int (b : Nat)) (fun b => if decide (p.1 ≤ b) = true then some (D.int (b : Nat)) else none) fun b _ => ?_, filter_enc]
        have ha2 : asg (.gn 17) (.int (b : Nat)) (wipeE [a0, some (.val (.box 1)), a2, a3, a4, a5, a6, a7, some (.val (tN' cs)), a9, a10, a11, some (.val (.tup (dG gs))), a13, a14, a15, a16, a17, some (.val (.int (p.1 : Nat))), some (.val (tN' p.2)), a20, a21, a22] [17]) = some [a0, some (.val (.box 1)), a2, a3, a4, a5, a6, a7, some (.val (tN' cs)), a9, a10, a11, some (.val (.tup (dG gs))), a13, a14, a15, a16, some (.val (.int (b : Nat))), some (.val (.int (p.1 : Nat))), some (.val (tN' p.2)), a20, a21, a22] := rfl
        have this : decide ((p.1 : Int) ≤ (b : Int)) = decide (p.1 ≤ b) := decide_eq_decide.mpr (by omega)
        unfold stepE
        rw [ha2]
        by_cases h : p.1 ≤ b
        · simp only [sts, st, ev, evl, evo, evt, evi, bnd, Res.bnd, Res.hush, hush, ret, lift, tryL, asg, asg.asgs, List.getElem?_cons_succ, List.getElem?_cons_zero, List.length_cons, List.length_nil, List.set_cons_succ, List.set_cons_zero, sizeOk0, reduceIte, v_int, p2_ge, this, decide_eq_true h]
        · simp only [sts, st, ev, evl, evo, evt, evi, bnd, Res.bnd, Res.hush, hush, ret, lift, tryL, asg, asg.asgs, List.getElem?_cons_succ, List.getElem?_cons_zero, List.length_cons, List.length_nil, List.set_cons_succ, List.set_cons_zero, sizeOk0, reduceIte, v_int, p2_ge, this, decide_eq_false h]
          rfl
      show (comp (dN p.2) (stepE T (callF T Wh 5) _ [17] (.gn 17) (.tb (.o2 .ge (.var 17) (.var 18))) (.var 17)) S2).bnd _ = _
      rw [dN_map, ec]
      rfl
    unfold stepE
    rw [ha]
    show Res.bnd (Res.hush (ev T (callF T Wh 5) _ (.lc _ _ _ _ _) S2)) _ = _
    rw [el]
    rfl
  have erows : (cs.zip gs).filterMap (fun p => some (D.lst (dN (p.2.filter fun b => decide (p.1 ≤ b))))) = dRows (rowsZ (cs.zip gs)) := by
    unfold rowsZ
    rw [show dRows ((cs.zip gs).map fun p => p.2.filter fun b => decide (p.1 ≤ b)) = (cs.zip gs).map fun p => D.lst (dN (p.2.filter fun b => decide (p.1 ≤ b))) from List.map_map]
    exact congrFun (List.filterMap_eq_map (f := fun p : Nat × List Nat => D.lst (dN (p.2.filter fun b => decide (p.1 ≤ b))))) _
  rw [erows]
  have hrow := filed_rows (cs.zip gs)
  have hrl : (rowsZ (cs.zip gs)).length ≤ 1000 := by
    unfold rowsZ
    rw [List.length_map, List.length_zip]
    omega
  generalize hrs : rowsZ (cs.zip gs) = rs at hrow hrl
  refine wp_ret (wp_env (de' := [a0, some (.val (.box 1)), a2, a3, a4, some (.val (.lst (dRows rs))), a6, a7, some (.val (tN' cs)), a9, a10, a11, some (.val (.tup (dG gs))), a13, a14, a15, a16, a17, a18, a19, a20, a21, a22]) rfl (sts_one ?_))
  subst h3
  obtain ⟨ff, hfile⟩ := filed_ok (W := Wh) (k := 4) tFiled cs gs (by omega) S2
  obtain ⟨ri, hi1, hi2⟩ := isin_sane (a := .lst []) (ds := dRows rs) (n := 1) (m := 2) rfl (rows_sane rs) (by decide) (by decide)
  rw [nil_rows] at hi2
  have eif : ev T (callF T Wh 5) [a0, some (.val (.box 1)), a2, a3, a4, some (.val (.lst (dRows rs))), a6, a7, some (.val (tN' cs)), a9, a10, a11, some (.val (.tup (dG gs))), a13, a14, a15, a16, a17, a18, a19, a20, a21, a22] (.ife (.tb (.o2 .isin (.lst .nil) (.var 5))) .kn (.bi .tuple (.cons (.lc [20] (.gn 20) (.iv (.var 5)) (.kb true) (.idx (.var 20) (.ki 0))) .nil))) S2 = .ok (optT (filedZ (cs.zip gs))) S2 := by
    have et : evt T (callF T Wh 5) [a0, some (.val (.box 1)), a2, a3, a4, some (.val (.lst (dRows rs))), a6, a7, some (.val (tN' cs)), a9, a10, a11, some (.val (.tup (dG gs))), a13, a14, a15, a16, a17, a18, a19, a20, a21, a22] (.tb (.o2 .isin (.lst .nil) (.var 5))) S2 = .ok ri S2 := by
      simp only [sts, st, ev, evl, evo, evt, evi, bnd, Res.bnd, Res.hush, hush, ret, lift, tryL, asg, asg.asgs, List.getElem?_cons_succ, List.getElem?_cons_zero, List.length_cons, List.length_nil, List.set_cons_succ, List.set_cons_zero, sizeOk0, reduceIte, v_lst, hi1]
    show (evt T (callF T Wh 5) _ (.tb _) S2).bnd _ = _
    rw [et]
    by_cases hn : [] ∈ rs
    · have : ri = true := hi2.mpr hn
      subst this
      rw [hrow, if_pos hn]
      rfl
    · have : ri = false := by
        cases ri with
        | false => rfl
        | true => exact absurd (hi2.mp rfl) hn
      subst this
      rw [hrow, if_neg hn]
      show (((comp (dRows rs) (stepE T (callF T Wh 5) _ [20] (.gn 20) (.kb true) (.idx (.var 20) (.ki 0))) S2).bnd _).bnd _).bnd _ = _
      rw [comp_map (fun r : List Nat => D.lst (dN r)) (fun r => some (.int ((r.headD 0 : Nat) : Int))) fun r hr => ?_]
      · show Res.ok (D.tup (rs.filterMap fun r => some (.int ((r.headD 0 : Nat) : Int)))) S2 = Res.ok (D.tup (dN (rs.map fun r => r.headD 0))) S2
        rw [dN_map, List.map_map]
        have e : (rs.filterMap fun r => some (D.int ((r.headD 0 : Nat) : Int))) = rs.map fun r => D.int ((r.headD 0 : Nat) : Int) := congrFun (List.filterMap_eq_map (f := fun r : List Nat => D.int ((r.headD 0 : Nat) : Int))) rs
        rw [e]
        rfl
      · cases r with
        | nil => exact absurd hr hn
        | cons b us =>
          have hi : pIdx (view S2 (.lst (dN (b :: us)))) (.int 0) = some (.int (b : Nat)) := by
            show (ixN (dN (b :: us)).length 0).bind (fun j => (dN (b :: us))[j]?) = _
            have : ixN (dN (b :: us)).length 0 = some 0 := by
              unfold ixN
              rw [if_pos (by decide), if_pos (by simp)]
              rfl
            rw [this]
            rfl
          have ha2 : asg (.gn 20) (.lst (dN (b :: us))) (wipeE [a0, some (.val (.box 1)), a2, a3, a4, some (.val (.lst (dRows rs))), a6, a7, some (.val (tN' cs)), a9, a10, a11, some (.val (.tup (dG gs))), a13, a14, a15, a16, a17, a18, a19, a20, a21, a22] [20]) = some [a0, some (.val (.box 1)), a2, a3, a4, some (.val (.lst (dRows rs))), a6, a7, some (.val (tN' cs)), a9, a10, a11, some (.val (.tup (dG gs))), a13, a14, a15, a16, a17, a18, a19, some (.val (.lst (dN (b :: us)))), a21, a22] := rfl
          unfold stepE
          rw [ha2]
          simp only [sts, st, ev, evl, evo, evt, evi, bnd, Res.bnd, Res.hush, hush, ret, lift, tryL, asg, asg.asgs, List.getElem?_cons_succ, List.getElem?_cons_zero, List.length_cons, List.length_nil, List.set_cons_succ, List.set_cons_zero, sizeOk0, reduceIte, hi]
          rfl
  obtain ⟨rq, hq1, hq2⟩ := ne_sane (a := optT (filedZ (cs.zip gs))) (b := optT (filedZ (cs.zip gs))) (optT_sane _) (optT_sane _) (by decide) (by decide)
  have hrq : rq = false := by
    cases rq with
    | false => rfl
    | true => exact absurd rfl (hq2.mp rfl)
  subst hrq
  have vo : ∀ (S : Store) (f : Option (List Nat)), view S (optT f) = optT f := fun S f => by cases f <;> rfl
  refine wp_bnd (wp_eq (a := false) (S' := S2) ?_ ?_)
  · show (Res.bnd (Res.bnd (Res.bnd (callF T Wh 5 2 [tN' cs, .tup (dG gs)] S2) _) _) _) = _
    rw [hfile]
    show (Res.bnd (Res.bnd (ev T (callF T Wh 5) _ (.ife _ _ _) S2) _) _) = _
    rw [eif]
    simp only [sts, st, ev, evl, evo, evt, evi, bnd, Res.bnd, Res.hush, hush, ret, lift, tryL, asg, asg.asgs, List.getElem?_cons_succ, List.getElem?_cons_zero, List.length_cons, List.length_nil, List.set_cons_succ, List.set_cons_zero, sizeOk0, reduceIte, vo, hq1]
  refine wp_ifF rfl (wp_ret (sts_one ?_))
  subst h4
  have hop : openB cs ("wide", gs) = !ri := by
    have hcg : cs.length = gs.length := by omega
    have h1 : openB cs ("wide", gs) = (filedZ (cs.zip gs)).isSome := reach_iff hcg fun g hg' => ⟨(hga g hg').1, (hga g hg').2.1⟩
    rw [h1, hrow]
    by_cases hn : [] ∈ rs
    · rw [if_pos hn, hi2.mpr hn]; rfl
    · rw [if_neg hn]
      cases ri with
      | false => rfl
      | true => exact absurd (hi2.mp rfl) hn
  obtain ⟨fr, hre⟩ := reach_ok (W := Wh) (k := 3) tReach tFiling tDeep cs [("wide", gs)] (fun p hp g hg' => by
    rw [List.mem_singleton.mp hp] at hg'
    exact (hga g hg').2.1) (fun p hp => by
    rw [List.mem_singleton.mp hp]
    show PyData.strOk ("wide" : Str) = true
    decide +kernel) (by show 1 ≤ 1000; decide) S2
  have hfl : (List.filter (openB cs) [(("wide" : Str), gs)]).map (·.1) = (if !ri then [("wide" : Str)] else [] : List Str) := by
    rw [List.filter_cons, hop]
    cases ri <;> rfl
  rw [hfl, srt_wide] at hre
  have hnin : p2 .nin (.lst []) (.lst (dRows rs)) = some (.bl (!ri)) := by
    have h1 : (p2.pIn (.lst []) (.lst (dRows rs))).map D.bl = some (.bl ri) := hi1
    show (p2.pIn (.lst []) (.lst (dRows rs))).map (fun r => D.bl (!r)) = _
    cases q : p2.pIn (.lst []) (.lst (dRows rs)) with
    | none => rw [q] at h1; cases h1
    | some x =>
      rw [q] at h1
      cases h1
      rfl
  have hne : ∀ b : Bool, p2 .ne (.lst (if b then [.str "wide"] else [])) (.lst (if b then [.str "wide"] else [])) = some (.bl false) := fun b => by cases b <;> kernel_rfl
  refine wp_bnd (wp_eq (a := false) (S' := S2) ?_ ?_)
  · have ed : ev T (callF T Wh 5) [a0, some (.val (.box 1)), a2, a3, a4, some (.val (.lst (dRows rs))), a6, a7, some (.val (tN' cs)), a9, a10, a11, some (.val (.tup (dG gs))), a13, a14, a15, a16, a17, a18, a19, a20, a21, a22] (.call 3 (.cons (.var 8) (.cons (.dct (.cons (.ks "wide") (.cons (.var 12) .nil))) .nil))) S2 = (callF T Wh 5 3 [tN' cs, dL [("wide", gs)]] S2).bnd (fun r => ret r.1) := by kernel_rfl
    show (Res.bnd (Res.bnd (ev T (callF T Wh 5) _ (.call 3 _) S2) _) _) = _
    rw [ed, hre]
    simp only [sts, st, ev, evl, evo, evt, evi, bnd, Res.bnd, Res.hush, hush, ret, lift, tryL, asg, asg.asgs, List.getElem?_cons_succ, List.getElem?_cons_zero, List.length_cons, List.length_nil, List.set_cons_succ, List.set_cons_zero, sizeOk0, reduceIte, List.map_cons, List.map_nil, v_lst, v_int, v_bl, hnin, int_bl, mul_one, hne, Nat.zero_add, sizeOk_of (show 1 ≤ 1000000 from by decide)]
  refine wp_ifF rfl (wp_ret (wp_ret ⟨hd2.mono (by omega), some (.val (.lst (dRows rs))), some (.val (tN' cs)), some (.val (.tup (dG gs))), rfl⟩))
end Y
namespace Y
open PySem L2
open G (T Wh ir13 ir14 fe13)
theorem five_enc : dS five = [.str "safe", .str "hall", .str "a", .str "yard", .str "zz"] := rfl
theorem strs_of : ∀ {ys : List D} {ns : List Str}, ys.Perm (dS ns) → ∃ ms : List Str, ys = dS ms ∧ ms.Perm ns := by
  intro ys ns h
  have : ∀ y ∈ ys, ∃ x, y = D.str x := fun y hy => by
    obtain ⟨x, _, e⟩ := List.mem_map.mp (h.mem_iff.mp hy)
    exact ⟨x, e.symm⟩
  have key : ∀ {ys : List D}, (∀ y ∈ ys, ∃ x, y = D.str x) → ∃ ms : List Str, ys = dS ms := fun {ys} => by
    induction ys with
    | nil => exact fun _ => ⟨[], rfl⟩
    | cons y ys ih =>
      intro h
      obtain ⟨x, rfl⟩ := h y List.mem_cons_self
      obtain ⟨ms, rfl⟩ := ih fun z hz => h z (List.mem_cons_of_mem _ hz)
      exact ⟨x :: ms, rfl⟩
  obtain ⟨ms, rfl⟩ := key this
  refine ⟨ms, rfl, ?_⟩
  have inv : ∀ l : List Str, (dS l).filterMap (fun d => match d with | .str x => some x | _ => none) = l := fun l => by
    induction l with
    | nil => rfl
    | cons x l ih =>
      show x :: (dS l).filterMap _ = _
      rw [ih]
  have := h.filterMap (fun d => match d with | .str x => some x | _ => none)
  rw [inv, inv] at this
  exact this
theorem lap_ok {a0 a2 a3 a4 a5 a6 a7 a8 a9 a10 a11 a12 a13 a14 a15 a16 a17 a18 a19 a20 a21 a22 : Option EV} {n : Nat} {R S : List D} (hd : Dr n R S) (hn : n < 100000) :
    Wp (sts T (callF T Wh 5) Wh [a0, some (.val (.box 1)), a2, a3, a4, a5, a6, a7, a8, a9, a10, a11, a12, a13, a14, a15, a16, a17, a18, a19, a20, a21, a22] lap) S fun o S' => Dr (n + 1000) (R ++ [.lst []]) S' ∧ ∃ b3 b4 b5 b6 b7 b8 b9 b10 b11 b12 b13 b14 b15 b16 b17 b18 b19 b20 b21 b22 : Option EV,
      o = .nx [a0, some (.val (.box 1)), a2, b3, b4, b5, b6, b7, b8, b9, b10, b11, b12, b13, b14, b15, b16, b17, b18, b19, b20, b21, b22] := by
  -- the blank
  refine sts_one (wp_bnd (wp_ecall (ds := [.box 1, .int 300]) rfl ((shape_ok hd (by omega)).imp fun x S1 hx => ?_)))
  obtain ⟨size, far, e1, z1, z2, z3, z4, z5, hd1⟩ := hx
  rw [e1]
  refine wp_ret (wp_env (de' := [a0, some (.val (.box 1)), a2, a3, a4, a5, some (.val (.int size)), some (.val (.int far)), a8, a9, a10, a11, a12, a13, a14, a15, a16, a17, a18, a19, a20, a21, a22]) rfl (sts_one ?_))
  -- cuts, all keys, names
  refine wp_bnd (wp_bnd (wp_bnd (wp_ecall (ds := [.box 1, .int size, .int far]) rfl ((cuts_ok (k := 2) tCuts tTake tMixed hd1 (size := size) (far := far) (by omega) (by omega) ⟨by omega, by omega⟩).imp fun x S2 hx => ?_))))
  obtain ⟨cs, e2, hcl, hcf, hd2⟩ := hx
  rw [e2]
  obtain ⟨fe, hev⟩ := every_ok (W := Wh) (k := 4) tEvery size far (by omega) (by omega) (by omega) S2
  refine wp_bnd (wp_bnd (wp_ecall (ds := [.int size, .int far]) rfl (wp_eq hev ?_)))
  refine wp_bnd (wp_eq (a := [D.lst (dS five)]) (S' := S2) rfl ?_)
  refine wp_ret (wp_ret ?_)
  refine wp_eq (a := D.tup [tN' cs, .lst ((allT far size).map tN'), .lst (dS five)]) (S' := S2) rfl ?_
  refine wp_ret (wp_env (de' := [a0, some (.val (.box 1)), a2, a3, a4, a5, some (.val (.int size)), some (.val (.int far)), some (.val (tN' cs)), some (.val (.lst ((allT far size).map tN'))), some (.val (.lst (dS five))), a11, a12, a13, a14, a15, a16, a17, a18, a19, a20, a21, a22]) rfl (sts_one ?_))
  -- named locks
  have sane5 : (dS five).all (sane 60) = true := by decide +kernel
  refine wp_bnd (wp_lc ?_)
  refine wp_bnd (wp_bnd (wp_ecall (ds := [.box 1, .lst (dS five)]) rfl ((shuffled_ok (k := 2) tShuf tTake tMixed hd2 (xs := dS five) (by decide) (by show n + 1 + size + 5 < 2 ^ 40; omega) (by decide) sane5).imp fun x S3 hx => ?_)))
  obtain ⟨ys, e3, hperm, hd3⟩ := hx
  rw [e3]
  obtain ⟨ms, rfl, hms⟩ := strs_of hperm
  refine wp_bnd (wp_ret (wp_bnd (wp_bnd (wp_ecall (ds := [.box 1, .int 6]) rfl ((take_ok (k := 3) tTake tMixed hd3 (by show n + 1 + size + 5 < 2 ^ 40; omega) (size := 6) (by decide)).imp fun x S4 hx => ?_)))))
  obtain ⟨v, e4, v0, v1, hd4⟩ := hx
  rw [e4]
  obtain ⟨zs, hzs, hsub⟩ := dS_cut ms none (some v)
  refine wp_ret ?_
  refine wp_eq (a := D.lst (dS zs)) (S' := S4) ?_ ?_
  · show Res.ok (D.lst (cutD (dS ms) none (some v))) S4 = _
    rw [hzs]
  refine wp_ret ?_
  have hznd : zs.Nodup := hsub.nodup (hms.nodup_iff.mpr five_nd)
  have hzl : zs.length ≤ 5 := Nat.le_trans hsub.length_le (by rw [hms.length_eq]; decide)
  have hzok : ∀ x ∈ zs, PyData.strOk x = true := fun x hx => five_ok x (hms.mem_iff.mp (hsub.subset hx))
  have hmul : size * (far + 1) ≤ 66 := Nat.le_trans (Nat.mul_le_mul z2 (by omega : far + 1 ≤ 11)) (by decide)
  have hdn : Dr (n + 100) (R ++ [.lst []]) S4 := hd4.mono (by show n + 1 + size + 5 + 1 ≤ _; omega)
  refine Wp.imp (wp_comp (I := fun items acc S' => ∃ (L : Locks) (rest : List Str), acc = L.map encL ∧ items = dS rest ∧ L.map (·.1) ++ rest = zs ∧ (∀ p ∈ L, GapsOk size far p.2) ∧ Dr (n + 100 + L.length * 66) (R ++ [.lst []]) S') (Q := fun ds S' => ∃ L : Locks, ds = L.map encL ∧ L.map (·.1) = zs ∧ (∀ p ∈ L, GapsOk size far p.2) ∧ Dr (n + 500) (R ++ [.lst []]) S') (dS zs) [] S4 ⟨[], zs, rfl, rfl, rfl, by simp, by simpa using hdn⟩ ?_ ?_) ?_
  · rintro x r acc S5 ⟨L, rest, rfl, hr, hz, hL, hdd⟩
    cases rest with
    | nil => cases hr
    | cons nm rest =>
      obtain ⟨rfl, rfl⟩ := List.cons.inj hr
      have hLl : L.length + (rest.length + 1) ≤ 5 := by
        have := congrArg List.length hz
        rw [List.length_append, List.length_map, List.length_cons] at this
        omega
      refine wp_try (a := [a0, some (.val (.box 1)), a2, a3, a4, a5, some (.val (.int size)), some (.val (.int far)), some (.val (tN' cs)), some (.val (.lst ((allT far size).map tN'))), some (.val (.lst (dS five))), some (.val (.str nm)), a12, a13, a14, a15, a16, a17, a18, a19, a20, a21, a22]) rfl ?_
      refine wp_bnd (wp_eq (a := true) (S' := S5) rfl ?_)
      rw [if_pos rfl]
      refine wp_bnd (wp_hush ?_)
      refine wp_bnd (wp_bnd (wp_ret ?_))
      refine wp_bnd (wp_bnd (wp_ecall (ds := [.box 1, .int size, .int far]) rfl ((gaps_ok (k := 2) tGaps tTake tMixed hdd (size := size) (far := far) (by omega) ⟨by omega, by omega⟩ (by omega)).imp fun x S6 hx => ?_)))
      obtain ⟨gs, e5, g1, g2, hd6⟩ := hx
      rw [e5]
      refine wp_bnd (wp_ret (wp_ret (wp_ret ?_)))
      refine wp_eq (a := encL (nm, gs)) (S' := S6) rfl ?_
      refine wp_ret ⟨L ++ [(nm, gs)], rest, by rw [List.map_append]; rfl, rfl, by rw [List.map_append, List.append_assoc]; exact hz, fun p hp => ?_, hd6.mono (by rw [List.length_append]; simp; omega)⟩
      rcases List.mem_append.mp hp with h | h
      · exact hL p h
      · rw [List.mem_singleton.mp h]
        exact ⟨g1, g2⟩
  · rintro acc S5 ⟨L, rest, rfl, hr, hz, hL, hdd⟩
    cases rest with
    | cons nm rest => cases hr
    | nil =>
      rw [List.append_nil] at hz
      refine ⟨L, rfl, hz, hL, hdd.mono ?_⟩
      have := congrArg List.length hz
      rw [List.length_map] at this
      omega
  · rintro ds S5 ⟨L, e6, hz, hL, hd5⟩
    rw [List.nil_append] at e6
    subst e6
    have hLl : L.length ≤ 5 := by
      have := congrArg List.length hz
      rw [List.length_map] at this
      omega
    refine wp_ret (wp_env (de' := [a0, some (.val (.box 1)), a2, some (.val (.lst (L.map encL))), a4, a5, some (.val (.int size)), some (.val (.int far)), some (.val (tN' cs)), some (.val (.lst ((allT far size).map tN'))), some (.val (.lst (dS five))), a11, a12, a13, a14, a15, a16, a17, a18, a19, a20, a21, a22]) rfl ?_)
    refine sts_one (wp_eq (a := .nx [a0, some (.val (.box 1)), a2, some (.val (.lst (L.map encL))), some (.own (.lst [])), a5, some (.val (.int size)), some (.val (.int far)), some (.val (tN' cs)), some (.val (.lst ((allT far size).map tN'))), some (.val (.lst (dS five))), a11, a12, a13, a14, a15, a16, a17, a18, a19, a20, a21, a22]) (S' := S5) rfl ?_)
    refine sts_one ?_
    refine wp_bnd (wp_eq (evi_l (xs := L.map encL) rfl) ?_)
    refine wp_loop (I := fun items de S' => S' = S5 ∧ ∃ (done rest : Locks) (b11 b12 b13 b14 b15 b16 : Option EV), L = done ++ rest ∧ items = rest.map encL ∧ de = [a0, some (.val (.box 1)), a2, some (.val (.lst (L.map encL))), some (.own (.lst (dS ((done.filter (openB cs)).map (·.1))))), a5, some (.val (.int size)), some (.val (.int far)), some (.val (tN' cs)), some (.val (.lst ((allT far size).map tN'))), some (.val (.lst (dS five))), b11, b12, b13, b14, b15, b16, a17, a18, a19, a20, a21, a22]) _ _ _ ⟨rfl, [], L, a11, a12, a13, a14, a15, a16, rfl, rfl, rfl⟩ ?_ ?_
    · rintro x it de S6 ⟨rfl, done, rest, b11, b12, b13, b14, b15, b16, hL2, hi, rfl⟩
      cases rest with
      | nil => cases hi
      | cons p rest =>
        obtain ⟨rfl, rfl⟩ := List.cons.inj hi
        obtain ⟨nm, gs⟩ := p
        have hp := hL (nm, gs) (by rw [hL2]; exact List.mem_append_right _ List.mem_cons_self)
        refine ⟨[a0, some (.val (.box 1)), a2, some (.val (.lst (L.map encL))), some (.own (.lst (dS ((done.filter (openB cs)).map (·.1))))), a5, some (.val (.int size)), some (.val (.int far)), some (.val (tN' cs)), some (.val (.lst ((allT far size).map tN'))), some (.val (.lst (dS five))), some (.val (.str nm)), some (.val (.tup (dG gs))), b13, b14, b15, b16, a17, a18, a19, a20, a21, a22], rfl, ?_⟩
        have hdl : ((done.filter (openB cs)).map (·.1)).length ≤ 1000 := by
          rw [List.length_map]
          have h1 := List.length_filter_le (openB cs) done
          have h2 : done.length ≤ L.length := by rw [hL2, List.length_append]; omega
          omega
        refine (inner_ok ((done.filter (openB cs)).map (·.1)) cs size far nm gs S6 hdl hcl hp.1 hp.2 z2 (by omega) z5).imp fun o S7 ho => ?_
        obtain ⟨rfl, c13, c14, c15, c16, rfl⟩ := ho
        refine ⟨rfl, done ++ [(nm, gs)], rest, some (.val (.str nm)), some (.val (.tup (dG gs))), c13, c14, c15, c16, by rw [hL2, List.append_assoc]; rfl, rfl, ?_⟩
        have : ((done ++ [(nm, gs)]).filter (openB cs)).map (·.1) = (done.filter (openB cs)).map (·.1) ++ if openB cs (nm, gs) = true then [nm] else [] := by
          rw [List.filter_append, List.map_append]
          congr 1
          rw [List.filter_cons]
          cases openB cs (nm, gs) <;> rfl
        rw [this]
    · rintro de S6 ⟨rfl, done, rest, b11, b12, b13, b14, b15, b16, hL2, hi, rfl⟩
      cases rest with
      | cons p rest => cases hi
      | nil =>
        rw [List.append_nil] at hL2
        subst hL2
        refine sts_one ?_
        -- reachable
        obtain ⟨fr, hre⟩ := reach_ok (W := Wh) (k := 3) tReach tFiling tDeep cs L (fun p hp g hg => ((hL p hp).2 g hg).2.1) (fun p hp => hzok p.1 (by rw [← hz]; exact List.mem_map.mpr ⟨p, hp, rfl⟩)) (by omega) S6
        have hdue : ∀ x ∈ (L.filter (openB cs)).map (·.1), PyData.strOk x = true := fun x hx => by
          obtain ⟨p, hp, rfl⟩ := List.mem_map.mp hx
          exact hzok p.1 (by rw [← hz]; exact List.mem_map.mpr ⟨p, (List.mem_filter.mp hp).1, rfl⟩)
        have hdl : ((L.filter (openB cs)).map (·.1)).length ≤ 100000 := by
          rw [List.length_map]
          have h1 := List.length_filter_le (openB cs) L
          omega
        have hso := sort_ok hdue hdl
        have hdict : pBi .dict [.lst (L.map encL)] = some (dL L) := by
          show dfill [] [] (L.map encL) = _
          exact dfill_L L [] (by rw [List.nil_append, hz]; exact hznd)
        have hsr : sane 2 (.lst (srt ((L.filter (openB cs)).map (·.1)))) = true := srt_sane hdue 1
        obtain ⟨rq, hq1, hq2⟩ := ne_sane (a := .lst (srt ((L.filter (openB cs)).map (·.1)))) (b := .lst (srt ((L.filter (openB cs)).map (·.1)))) (n := 2) (m := 2) hsr hsr (by decide) (by decide)
        have hrq : rq = false := by
          cases rq with
          | false => rfl
          | true => exact absurd rfl (hq2.mp rfl)
        subst hrq
        refine wp_bnd (wp_eq (a := false) (S' := S6) ?_ ?_)
        · have ek : ev T (callF T Wh 5) [a0, some (.val (.box 1)), a2, some (.val (.lst (L.map encL))), some (.own (.lst (dS ((L.filter (openB cs)).map (·.1))))), a5, some (.val (.int size)), some (.val (.int far)), some (.val (tN' cs)), some (.val (.lst ((allT far size).map tN'))), some (.val (.lst (dS five))), b11, b12, b13, b14, b15, b16, a17, a18, a19, a20, a21, a22] (.callk 3 .nil (.cons (.bi .dict (.cons (.var 3) .nil)) (.cons (.var 8) .nil)) [1, 0]) S6 = .ok (.lst (srt ((L.filter (openB cs)).map (·.1)))) S6 := by
            have h1 : evl T (callF T Wh 5) [a0, some (.val (.box 1)), a2, some (.val (.lst (L.map encL))), some (.own (.lst (dS ((L.filter (openB cs)).map (·.1))))), a5, some (.val (.int size)), some (.val (.int far)), some (.val (tN' cs)), some (.val (.lst ((allT far size).map tN'))), some (.val (.lst (dS five))), b11, b12, b13, b14, b15, b16, a17, a18, a19, a20, a21, a22] (.cons (.bi .dict (.cons (.var 3) .nil)) (.cons (.var 8) .nil)) S6 = .ok [dL L, tN' cs] S6 := by
              simp only [sts, st, ev, evl, evo, evt, evi, bnd, Res.bnd, Res.hush, hush, ret, lift, tryL, asg, asg.asgs, List.getElem?_cons_succ, List.getElem?_cons_zero, List.length_cons, List.length_nil, List.set_cons_succ, List.set_cons_zero, sizeOk0, reduceIte, List.map_cons, List.map_nil, v_lst, hdict]
            show Res.bnd (evl T (callF T Wh 5) _ (.cons (.bi .dict (.cons (.var 3) .nil)) (.cons (.var 8) .nil)) S6) _ = _
            rw [h1]
            show Res.bnd (callF T Wh 5 3 [tN' cs, dL L] S6) _ = _
            rw [hre]
            rfl
          show (Res.bnd (Res.bnd (ev T (callF T Wh 5) _ (.callk _ _ _ _) S6) _) _) = _
          rw [ek]
          simp only [sts, st, ev, evl, evo, evt, evi, bnd, Res.bnd, Res.hush, hush, ret, lift, tryL, asg, asg.asgs, List.getElem?_cons_succ, List.getElem?_cons_zero, List.length_cons, List.length_nil, List.set_cons_succ, List.set_cons_zero, sizeOk0, reduceIte, List.map_cons, List.map_nil, v_lst, hso, hq1]
        refine wp_ifF rfl (wp_ret ?_)
        refine (last_ok hd5 (by omega) rfl rfl rfl rfl).imp fun o S7 ho => ?_
        obtain ⟨hd7, b5, b8, b12', rfl⟩ := ho
        exact ⟨hd7.mono (by omega), some (.val (.lst (L.map encL))), some (.own (.lst (dS ((L.filter (openB cs)).map (·.1))))), b5, some (.val (.int size)), some (.val (.int far)), b8, some (.val (.lst ((allT far size).map tN'))), some (.val (.lst (dS five))), b11, b12', b13, b14, b15, b16, a17, a18, a19, a20, a21, a22, rfl⟩
theorem _root_.G.law_true (ns : List Int) (hl : ns.length ≤ 63) : ∃ f S', callF T Wh 6 14 [.ro (ns.map .int)] [] = .ok (.bl true, f) S' := by
  have : Wp (callF T Wh 6 14 [.ro (dI ns)]) [] fun x S' => x.1 = .bl true := by
    refine wp_callE (de0 := [some (.val (.ro (dI ns))), none, none, none, none, none, none, none, none, none, none, none, none, none, none, none, none, none, none, none, none, none, none]) (fe := G.fe14) (by kernel_rfl) rfl rfl ?_
    refine sts_one (wp_bnd (wp_ecall (ds := [.ro (dI ns)]) rfl ((begun_ok (k := 4) tBegun ns).imp fun x S1 hx => ?_)))
    obtain ⟨e1, hd⟩ := hx
    rw [e1]
    refine wp_ret (wp_env (de' := [some (.val (.ro (dI ns))), some (.val (.box 1)), none, none, none, none, none, none, none, none, none, none, none, none, none, none, none, none, none, none, none, none, none]) rfl (sts_one ?_))
    refine wp_bnd (wp_eq (evi_r (n := 6) rfl (by decide)) ?_)
    refine wp_loop (I := fun items de S' => ∃ (q : Nat) (R : List D) (b2 b3 b4 b5 b6 b7 b8 b9 b10 b11 b12 b13 b14 b15 b16 b17 b18 b19 b20 b21 b22 : Option EV), q + items.length = 6 ∧ Dr (q * 1000) R S' ∧ de = [some (.val (.ro (dI ns))), some (.val (.box 1)), b2, b3, b4, b5, b6, b7, b8, b9, b10, b11, b12, b13, b14, b15, b16, b17, b18, b19, b20, b21, b22]) _ _ _ ⟨0, [], none, none, none, none, none, none, none, none, none, none, none, none, none, none, none, none, none, none, none, none, none, rfl, hd, rfl⟩ ?_ ?_
    · rintro x it de S2 ⟨q, R, b2, b3, b4, b5, b6, b7, b8, b9, b10, b11, b12, b13, b14, b15, b16, b17, b18, b19, b20, b21, b22, hq, hd2, rfl⟩
      rw [List.length_cons] at hq
      refine ⟨[some (.val (.ro (dI ns))), some (.val (.box 1)), some (.val x), b3, b4, b5, b6, b7, b8, b9, b10, b11, b12, b13, b14, b15, b16, b17, b18, b19, b20, b21, b22], rfl, ?_⟩
      refine (lap_ok hd2 (by omega)).imp fun o S3 ho => ?_
      obtain ⟨hd3, c3, c4, c5, c6, c7, c8, c9, c10, c11, c12, c13, c14, c15, c16, c17, c18, c19, c20, c21, c22, rfl⟩ := ho
      exact ⟨q + 1, _, some (.val x), c3, c4, c5, c6, c7, c8, c9, c10, c11, c12, c13, c14, c15, c16, c17, c18, c19, c20, c21, c22, by omega, hd3.mono (by omega), rfl⟩
    · rintro de S2 ⟨q, R, b2, b3, b4, b5, b6, b7, b8, b9, b10, b11, b12, b13, b14, b15, b16, b17, b18, b19, b20, b21, b22, hq, hd2, rfl⟩
      exact sts_one (wp_eq (a := .rtv (.bl true) false) (S' := S2) rfl rfl)
  obtain ⟨⟨a, f⟩, S', e, h1⟩ := this
  have h1 : a = _ := h1
  subst h1
  exact ⟨f, S', e⟩
end Y
open PySem PySem.W PySem.Calls PyProof.Rows
theorem PySem.Challenge.cw_onlydeeper_k03_fewest_strokes_holds : PySem.Challenge.rw_onlydeeper_k03_fewest_strokes.Holds := by
  w_on; o_law
  refine HandSHeadRun.head_any (r := OpenLaw.row PySem.Challenge.rw_onlydeeper_k03_fewest_strokes) (q := view (OpenLaw.row PySem.Challenge.rw_onlydeeper_k03_fewest_strokes).prog [16]) (H := G.hk) (ob := G.ob) (M := 1500) (loose := G.loose) (d := HandSHeadRun.topDef (OpenLaw.row PySem.Challenge.rw_onlydeeper_k03_fewest_strokes).prog 16) (kwd := []) G.ob_eq
    (by kernel_rfl) (fun s => by kernel_rfl) G.run (by kernel_rfl) (by kernel_rfl) (by kernel_rfl) (by rfl) (by first | assumption | decide +kernel) (by decide +kernel) ⟨rfl, rfl, rfl, rfl, rfl, by decide +kernel⟩ ?hw ?hc
  case hw => w_witness2
  case hc =>
    refine L2.walk_ofE (l := PySem.Challenge.rw_onlydeeper_k03_fewest_strokes) (n := 63) (k := 6) (x := "_law_script") (CX := L2.CX0) rfl (by decide) (by kernel_rfl) ⟨rfl, by decide, by decide⟩ ?F (fun _ _ _ _ z => z)
    intro w mg fa h YY GG hmg0
    obtain ⟨K, KX, c⟩ := YY
    have hmg : mg ("law" : PySem.Str) = some (.ref fa) := by
      have e : (HandSHeadRun.topDef (OpenLaw.row PySem.Challenge.rw_onlydeeper_k03_fewest_strokes).prog 16).name = ("law" : PySem.Str) := by kernel_rfl
      rw [← e]
      exact hmg0
    obtain ⟨fd, hb, hF⟩ := G.facts (P := (PySem.Challenge.rw_onlydeeper_k03_fewest_strokes).prog) (w := w) KX GG hmg c
    refine ⟨K, fd, _, KX, hb, fun H a ns hl _ hS => ?_, hF⟩
    obtain ⟨f, S', e⟩ := G.law_true ns hl
    exact Y.sp_law hS e
