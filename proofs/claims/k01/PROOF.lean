import PyProof.Rows.All
import Wide.All
import OpenK.AllK
import Wide.FinOn
import HandS.ForMost
import HandS.More
import HandS.WordsExc
import HandS.Defaults
import HandS.IsInst
import HandS.Conv
import HandS.Wide
import HandS.Codes
import PyProof.ReprRoads
import HandS.TupAny
import HandS.Style
import KE.DataEq
import KE.KEqDict
import HandS.Text
import PyProof.StrBlock2
import KE.KDeep
import PyProof.Rows.StrMeet
import HandS.NoneIn
import KE.KDictDisplayH
import HandS.ExcOwn
import HandS.ListItems
import HandS.RaiseMore
import HandS.Zip
import HandS.DictComp
import HandS.Head2
import HandS.HeadHook2
import HandS.HeadEnd
import KE.KStateDown
import Lean
import PySem.Challenge.RW_pairstell_k01_documents_and_what_is_none
import PyProof.ReprLen
set_option Elab.async false
set_option linter.all false
set_option maxRecDepth 100000
/-! PIa: a small evaluator of the Python that this program is written in: values as trees, cells for what is shared and changed. -/
namespace PI

/-! ### values -/
/-- keys of dicts -/
inductive Ky where
  | non | int (i : Int) | str (s : List Nat) | tup (ks : List Ky)
/-- values as trees; cell: a list, a dict, an instance that is shared and changed; fn: a def of the text -/
inductive IV where
  | non | bl (b : Bool) | int (i : Int) | str (s : List Nat)
  | tup (xs : List IV) | lst (xs : List IV) | dct (kvs : List (Ky × IV))
  | odd (k : Nat) | obj (c : Nat) (fs : List (Nat × IV)) | cell (i : Nat) | fn (f : Nat) | scr (ns : List Int)
/-- what a cell holds -/
inductive CO where
  | lst (xs : List IV) | dead
abbrev Cells := List CO
/-- what stands at a name -/
inductive SV where
  | non | val (v : IV) | own (xs : List IV)
abbrev Fr := List SV

inductive Res (α : Type) where
  | ok (a : α) (h : Cells) | exc (x : IV) (h : Cells) | stuck
abbrev M (α : Type) := Cells → Res α
def M.pure {α : Type} (a : α) : M α := fun h => .ok a h
def M.bind {α β : Type} (m : M α) (f : α → M β) : M β := fun h => match m h with
  | .ok a h' => f a h'
  | .exc x h' => .exc x h'
  | .stuck => .stuck
def M.stuck {α : Type} : M α := fun _ => .stuck
def M.opt {α : Type} (o : Option α) : M α := fun h => match o with
  | some a => .ok a h
  | none => .stuck
/-- no exception comes -/
def M.calm {α : Type} (m : M α) : M α := fun h => match m h with
  | .exc _ _ => .stuck
  | r => r

/-! ### equality -/
mutual
def Ky.beq : Ky → Ky → Bool
  | .non, .non => true
  | .int i, .int j => decide (i = j)
  | .str s, .str t => decide (s = t)
  | .tup ks, .tup ls => Ky.beqs ks ls
  | _, _ => false
termination_by structural x => x
def Ky.beqs : List Ky → List Ky → Bool
  | [], [] => true
  | k :: ks, l :: ls => Ky.beq k l && Ky.beqs ks ls
  | _, _ => false
termination_by structural x => x
end
def dget (k : Ky) : List (Ky × IV) → Option IV
  | [] => none
  | (l, v) :: r => if Ky.beq k l then some v else dget k r
def b2i (b : Bool) : Int := if b then 1 else 0
mutual
/-- Python's == of trees -/
def eqv : IV → IV → Bool
  | .non, .non => true
  | .bl a, .bl b => a == b
  | .bl a, .int j => decide (b2i a = j)
  | .int i, .bl b => decide (i = b2i b)
  | .int i, .int j => decide (i = j)
  | .str s, .str t => decide (s = t)
  | .tup xs, .tup ys => eqvs xs ys
  | .lst xs, .lst ys => eqvs xs ys
  | .dct ks, .dct ls => decide (ks.length = ls.length) && eqvd ks ls
  | _, _ => false
termination_by structural x => x
def eqvs : List IV → List IV → Bool
  | [], [] => true
  | x :: xs, y :: ys => eqv x y && eqvs xs ys
  | _, _ => false
termination_by structural x => x
def eqvd : List (Ky × IV) → List (Ky × IV) → Bool
  | [], _ => true
  | (k, v) :: r, ls => (match dget k ls with
      | some w => eqv v w
      | none => false) && eqvd r ls
termination_by structural x => x
end
mutual
/-- data without dicts, at most n deep -/
def pln : IV → Nat → Bool
  | .non, _ => true
  | .bl _, _ => true
  | .int _, _ => true
  | .str _, _ => true
  | .tup xs, n + 1 => plns xs n
  | .lst xs, n + 1 => plns xs n
  | _, _ => false
termination_by structural x => x
def plns : List IV → Nat → Bool
  | [], _ => true
  | x :: r, n => pln x n && plns r n
termination_by structural x => x
end
/-- how deep compared things may be -/
def deepEq : Nat := 60
/-- the kind of a value -/
def kd : IV → Nat
  | .non => 1
  | .bl _ => 2
  | .int _ => 3
  | .str _ => 4
  | .tup _ => 5
  | .lst _ => 6
  | .dct _ => 7
  | _ => 0
/-- of unlike kinds, not both numbers -/
def kdNe (x y : IV) : Bool := kd x != 0 && kd y != 0 && kd x != kd y && !(decide (kd x ≤ 3) && decide (kd y ≤ 3))
/-- == where the evaluator tells it -/
def eqo (x y : IV) : Option Bool :=
  if pln x deepEq && pln y deepEq then some (eqv x y) else if kdNe x y then some false else match x, y with
  | .dct ks, .dct ls => if ks.length ≠ ls.length then some false else if ks.length = 0 then some true else none
  | .lst xs, .lst ys => if xs.length ≠ ys.length then some false else none
  | _, _ => none
inductive TyC where
  | int | bool | str | list | tuple | dict
  deriving DecidableEq
def isT : IV → TyC → Bool
  | .bl _, .int => true
  | .bl _, .bool => true
  | .int _, .int => true
  | .str _, .str => true
  | .lst _, .list => true
  | .tup _, .tuple => true
  | .dct _, .dict => true
  | .odd _, .dict => true
  | _, _ => false

/-! ### operations on values -/
inductive Pr where
  | add | sub | mul | fdiv | mod | pow | neg
  | eq | ne | lt | le | gt | ge | inn | notin
  | isnon | notnon | isb (b : Bool) | notb (b : Bool)
  | isi (ts : List TyC) | len | int | abs | max | all | tuple | list | bool
  | item | cut (lo hi : Bool)
  | sorted | join | dictl | ditems | repr
def szl : Nat := 16777216
def at? (xs : List IV) (i : Int) : Option IV := if 0 ≤ i then xs[i.toNat]? else if 0 ≤ i + xs.length then xs[(i + xs.length).toNat]? else none
def chars (s : List Nat) : List IV := s.map fun c => .str [c]
def bools : List IV → Option (List Bool)
  | [] => some []
  | .bl b :: r => (bools r).map fun l => b :: l
  | _ :: _ => none
def inList (x : IV) : List IV → Bool
  | [] => false
  | y :: r => eqv y x || inList x r
def pAdd : List IV → Option IV
  | [.int i, .int j] => some (.int (i + j))
  | [.str s, .str t] => if s.length + t.length ≤ szl then some (.str (s ++ t)) else none
  | [.lst xs, .lst ys] => if xs.length + ys.length ≤ szl then some (.lst (xs ++ ys)) else none
  | [.tup xs, .tup ys] => if xs.length + ys.length ≤ szl then some (.tup (xs ++ ys)) else none
  | _ => none
def pMul : List IV → Option IV
  | [.int i, .int j] => if i.natAbs < 2 ^ 64 ∨ j.natAbs < 2 ^ 64 then some (.int (i * j)) else none
  | [.lst xs, .int j] => if xs.length * j.toNat ≤ szl ∧ j.natAbs < 2 ^ 62 then some (.lst (List.replicate j.toNat xs).flatten) else none
  | [.str s, .int j] => if s.length * j.toNat ≤ szl ∧ j.natAbs < 2 ^ 62 then some (.str (List.replicate j.toNat s).flatten) else none
  | _ => none
def pInt (f : Int → Int → Option IV) : List IV → Option IV
  | [.int i, .int j] => f i j
  | _ => none
def isNon : IV → Bool
  | .non => true
  | _ => false
/-- != where the evaluator tells it -/
def neo (x y : IV) : Option Bool :=
  if pln x deepEq && pln y deepEq then some (!eqv x y) else match x, y with
  | .dct ks, .dct ls => if ks.length ≠ ls.length then some true else if ks.length = 0 then some false else none
  | .lst xs, .lst ys => if xs.length ≠ ys.length then some true else none
  | _, _ => none
def pEq (f : IV → IV → Option Bool) : List IV → Option IV
  | [x, y] => (f x y).map .bl
  | _ => none
def isNonV (n : Bool) (x : IV) : Option IV := some (.bl (isNon x != n))
def pIn (n : Bool) : List IV → Option IV
  | [x, .tup ys] => if pln x deepEq && plns ys 58 then some (.bl (inList x ys != n)) else none
  | [x, .lst ys] => if pln x deepEq && plns ys 58 then some (.bl (inList x ys != n)) else none
  | [.str [c], .str y] => some (.bl (decide (c ∈ y) != n))
  | _ => none
def isB (b n : Bool) : IV → Option IV
  | .bl c => some (.bl (decide (c = b) != n))
  | _ => none
def pOne (f : IV → Option IV) : List IV → Option IV
  | [x] => f x
  | _ => none
def vLen : IV → Option IV
  | .lst xs => some (.int xs.length)
  | .tup xs => some (.int xs.length)
  | .str s => if s.length ≤ szl then some (.int s.length) else none
  | .dct kvs => some (.int kvs.length)
  | _ => none
def vInt : IV → Option IV
  | .int i => some (.int i)
  | .bl b => some (.int (b2i b))
  | _ => none
def vBool : IV → Option IV
  | .bl b => some (.bl b)
  | _ => none
def vNeg : IV → Option IV
  | .int i => some (.int (-i))
  | _ => none
def vAbs : IV → Option IV
  | .int i => some (.int (if i < 0 then -i else i))
  | _ => none
def vAll : IV → Option IV
  | .lst xs => (bools xs).map fun l => .bl (l.all id)
  | _ => none
def seqOf : IV → Option (List IV)
  | .lst xs => some xs
  | .tup xs => some xs
  | _ => none
def pItem : List IV → Cells → Option IV
  | [.lst xs, .int i], _ => at? xs i
  | [.tup xs, .int i], _ => at? xs i
  | [.str s, .int i], _ => if s.length ≤ szl then at? (chars s) i else none
  | [.dct kvs, .str k], _ => dget (.str k) kvs
  | [.cell c, .int i], h => (match h[c]? with
    | some (.lst xs) => at? xs i
    | _ => none)
  | _, _ => none
/-- where a slice's bound lies -/
def sIx (n d : Nat) : Option Int → Nat
  | none => d
  | some v => if v < 0 then (v + (n : Int)).toNat else min v.toNat n
def cutL {α : Type} (xs : List α) (lo hi : Option Int) : List α := (xs.drop (sIx xs.length 0 lo)).take (sIx xs.length xs.length hi - sIx xs.length 0 lo)
def cutV (x : IV) (lo hi : Option Int) : Option IV := match x with
  | .lst xs => some (.lst (cutL xs lo hi))
  | .scr ns => some (.lst (cutL (ns.map IV.int) lo hi))
  | .tup xs => some (.tup (cutL xs lo hi))
  | _ => none
def pCut : Bool → Bool → List IV → Option IV
  | true, true, [x, .int a, .int b] => cutV x (some a) (some b)
  | true, false, [x, .int a] => cutV x (some a) none
  | false, true, [x, .int b] => cutV x none (some b)
  | false, false, [x] => cutV x none none
  | _, _, _ => none
/-- a value's own type's name -/
def ownT : IV → Option String
  | .non => some "NoneType"
  | .bl _ => some "bool"
  | .int _ => some "int"
  | .str _ => some "str"
  | .lst _ => some "list"
  | .tup _ => some "tuple"
  | .dct _ => some "dict"
  | .odd _ => some "dict"
  | _ => none
def vIsi (ts : List TyC) (x : IV) : Option IV := (ownT x).map fun _ => .bl (ts.any fun t => isT x t)
def strL : List IV → Option (List (List Nat))
  | [] => some []
  | .str s :: r => (strL r).map fun l => s :: l
  | _ :: _ => none
def kstrL : List (Ky × IV) → Option (List (List Nat))
  | [] => some []
  | (.str s, _) :: r => (kstrL r).map fun l => s :: l
  | _ :: _ => none
/-- texts by their signs -/
def leS (a b : List Nat) : Bool := !(PySem.Spec.ltCps b a)
def insS (x : List Nat) : List (List Nat) → List (List Nat)
  | [] => [x]
  | y :: r => if leS x y then x :: y :: r else y :: insS x r
def sortS (l : List (List Nat)) : List (List Nat) := l.foldr insS []
def sortV (l : List (List Nat)) : Option IV := if l.length < 64 then some (.lst ((sortS l).map .str)) else none
def vSorted : IV → Option IV
  | .lst xs => (strL xs).bind sortV
  | .dct kvs => (kstrL kvs).bind sortV
  | _ => none
def pJoin : List IV → Option IV
  | [.str sep, .lst xs] => (strL xs).bind fun l => if (l.map List.length).sum + l.length * sep.length ≤ szl then some (.str (TL.joinL sep l)) else none
  | _ => none
def keyOf : IV → Option Ky
  | .int i => some (.int i)
  | .str s => some (.str s)
  | _ => none
def dput (k : Ky) (v : IV) : List (Ky × IV) → List (Ky × IV)
  | [] => [(k, v)]
  | (l, w) :: r => if Ky.beq k l then (l, v) :: r else (l, w) :: dput k v r
def dputs (l : List (Ky × IV)) (acc : List (Ky × IV)) : List (Ky × IV) := l.foldl (fun a p => dput p.1 p.2 a) acc
def pairOf : IV → Option (Ky × IV)
  | .tup [k, v] => (keyOf k).map fun k => (k, v)
  | _ => none
def pairsOf : List IV → Option (List (Ky × IV))
  | [] => some []
  | x :: r => (pairOf x).bind fun p => (pairsOf r).map fun l => p :: l
/-- the one key of an odd dict -/
def oddK (k : Nat) : IV := if k = 0 then .non else .tup [.str [97]]
def kyV : Ky → IV
  | .non => .non
  | .int i => .int i
  | .str s => .str s
  | .tup _ => .non
def vDictl : IV → Option IV
  | .lst xs => (pairsOf xs).map fun ps => .dct (dputs ps [])
  | _ => none
def vDitems : IV → Option IV
  | .dct kvs => some (.lst (kvs.map fun p => .tup [kyV p.1, p.2]))
  | _ => none
section
open PySem
def tx (s : List Nat) : Str := ⟨s.toArray⟩
def kyP : Ky → Option PyData
  | .int i => some (.int i)
  | .str s => some (.str (tx s))
  | _ => none
mutual
def toP : IV → Option PyData
  | .non => some .none
  | .bl b => some (.bool b)
  | .int i => some (.int i)
  | .str s => some (.str (tx s))
  | .tup xs => (toPs xs).map .tuple
  | .dct kvs => (toKs kvs).map .dict
  | _ => none
termination_by structural x => x
def toPs : List IV → Option (List PyData)
  | [] => some []
  | x :: r => (toP x).bind fun d => (toPs r).map fun l => d :: l
termination_by structural x => x
def toKs : List (Ky × IV) → Option (List (PyData × PyData))
  | [] => some []
  | p :: r => (toK p).bind fun d => (toKs r).map fun l => d :: l
termination_by structural x => x
def toK : Ky × IV → Option (PyData × PyData)
  | (k, x) => (kyP k).bind fun d => (toP x).map fun e => (d, e)
termination_by structural x => x
end
def txV (x : Str) : IV := .str x.cps.toList
def vRepr : IV → Option IV
  | .lst xs => (toPs xs).bind fun ds => if PyData.showableAll ds = true ∧ PyData.depthAll ds ≤ 50 ∧ (listText (PyData.shownAll ds)).length ≤ sizeLine then some (txV (listText (PyData.shownAll ds))) else none
  | x => (toP x).bind fun d => if d.showable = true ∧ d.depth ≤ 50 ∧ d.shown.length ≤ sizeLine then some (txV d.shown) else none
end
def pr (p : Pr) (vs : List IV) (h : Cells) : Option IV := match p with
  | .add => pAdd vs
  | .sub => pInt (fun i j => some (.int (i - j))) vs
  | .mul => pMul vs
  | .fdiv => pInt (fun i j => if 0 < j ∧ j.natAbs.log2 < 9000 then some (.int (i / j)) else none) vs
  | .mod => pInt (fun i j => if 0 < j then some (.int (i % j)) else none) vs
  | .pow => pInt (fun i j => if 0 ≤ j ∧ j ≤ 1000000 ∧ i.natAbs < 2 ^ 64 then some (.int (i ^ j.toNat)) else none) vs
  | .neg => pOne vNeg vs
  | .eq => pEq eqo vs
  | .ne => pEq neo vs
  | .lt => pInt (fun i j => some (.bl (decide (i < j)))) vs
  | .le => pInt (fun i j => some (.bl (decide (i ≤ j)))) vs
  | .gt => pInt (fun i j => some (.bl (decide (j < i)))) vs
  | .ge => pInt (fun i j => some (.bl (decide (j ≤ i)))) vs
  | .inn => pIn false vs
  | .notin => pIn true vs
  | .isnon => pOne (isNonV false) vs
  | .notnon => pOne (isNonV true) vs
  | .isb b => pOne (isB b false) vs
  | .notb b => pOne (isB b true) vs
  | .isi ts => pOne (vIsi ts) vs
  | .len => pOne vLen vs
  | .int => pOne vInt vs
  | .bool => pOne vBool vs
  | .abs => pOne vAbs vs
  | .max => pInt (fun i j => some (.int (if j > i then j else i))) vs
  | .all => pOne vAll vs
  | .tuple => pOne (fun x => (seqOf x).map .tup) vs
  | .list => pOne (fun x => (seqOf x).map .lst) vs
  | .item => pItem vs h
  | .cut lo hi => pCut lo hi vs
  | .sorted => pOne vSorted vs
  | .join => pJoin vs
  | .dictl => pOne vDictl vs
  | .ditems => pOne vDitems vs
  | .repr => pOne vRepr vs

/-! ### the text -/
inductive Tg where
  | one (i : Nat) | many (is : List Nat)
inductive Sk where
  | val | range | zip | items | enum
  deriving DecidableEq
inductive E where
  | c (v : IV) | slot (i : Nat) | own (i : Nat)
  | pr (p : Pr) (es : List E)
  | tup (es : List E) | lst (es : List E)
  | chain (p q : Pr) (a b c : E)
  | join (s : List Nat) (a : E)
  | call (f : Nat) (es : List E)
  | callk (f : Nat) (pm : List (Sum Nat IV)) (es : List E)
  | and (a b : E) | or (a b : E) | not (a : E) | ife (t a b : E)
  | comp (tg : Tg) (k : Sk) (src : List E) (ifs : List E) (elt : E)
  | dcomp (tg : Tg) (k : Sk) (src : List E) (ke ve : E)
  | dict (ks : List Ky) (es : List E)
inductive S where
  | asg (i : Nat) (e : E) | asgo (i : Nat) (e : E)
  | par (i j : Nat) (io jo : Bool) (a b : E)
  | unp (tg : List Nat) (e : E)
  | pop (tg : Tg) (i : Nat)
  | app (i : Nat) (e : E) | ext (i : Nat) (e : E)
  | seti (o k e : E)
  | ife (t : E) (a b : List S)
  | while (t : E) (b : List S)
  | for (tg : Tg) (k : Sk) (src : List E) (b : List S)
  | ret (e : E) | retn | reto (i : Nat) | retc (e : E)
  | expr (e : E) | pass | brk | cont | frz (i : Nat)
inductive Fl where
  | nx (fr : Fr) | ret (v : IV) | brk (fr : Fr) | cont (fr : Fr)

def put (fr : Fr) (i : Nat) (v : SV) : Fr := fr.set i v
def stores : List Nat → List IV → Fr → Option Fr
  | [], [], fr => some fr
  | i :: is, v :: vs, fr => stores is vs (fr.set i (.val v))
  | _, _, _ => none
def store (tg : Tg) (v : IV) (fr : Fr) : Option Fr := match tg with
  | .one i => some (fr.set i (.val v))
  | .many is => (match v with
    | .tup xs => stores is xs fr
    | _ => none)
/-- what a walk walks -/
def walk (k : Sk) (vs : List IV) : Option (List IV) := match k, vs with
  | .val, [.lst xs] => some xs
  | .val, [.tup xs] => some xs
  | .val, [.str s] => some (chars s)
  | .val, [.dct kvs] => some (kvs.map fun p => kyV p.1)
  | .val, [.odd k] => some [oddK k]
  | .range, [.int n] => if n.natAbs ≤ szl then some ((List.range n.toNat).map fun (i : Nat) => IV.int i) else none
  | .zip, [.lst xs, .lst ys] => some (xs.zipWith (fun a b => .tup [a, b]) ys)
  | .zip, [.tup xs, .tup ys] => some (xs.zipWith (fun a b => .tup [a, b]) ys)
  | .items, [.dct kvs] => some (kvs.map fun p => .tup [kyV p.1, p.2])
  | _, _ => none
def truth : IV → Option Bool
  | .bl b => some b
  | _ => none
def M.test (m : M IV) : M Bool := m.bind fun v => M.opt (truth v)
/-- one item behind another -/
def each {α : Type} (f : IV → M (List α)) : List IV → M (List α)
  | [] => M.pure []
  | x :: r => (f x).bind fun a => (each f r).bind fun b => M.pure (a ++ b)
def isOwn : E → Option Nat
  | .own i => some i
  | _ => none
/-- a list of the frame's own, as it stands -/
def ownV (fr : Fr) (i : Nat) : Option IV := match fr[i]? with
  | some (.own xs) => some (.lst xs)
  | _ => none
def slotV (fr : Fr) (i : Nat) : Option IV := match fr[i]? with
  | some (.val v) => some v
  | _ => none
/-- an operand: a list of the frame's own may stand there -/
def evo1 (e : E) (d : M IV) (fr : Fr) : M IV := match isOwn e with
  | some i => M.opt (ownV fr i)
  | none => d
/-- the arguments in the parameters' order, constants among them -/
def permV : List (Sum Nat IV) → List IV → Option (List IV)
  | [], _ => some []
  | .inl i :: r, vs => (vs[i]?).bind fun v => (permV r vs).map fun l => v :: l
  | .inr v :: r, vs => (permV r vs).map fun l => v :: l
section
variable (Φ : Nat → List IV → M IV)
mutual
def ev : E → Fr → M IV
  | .c v, _ => M.pure v
  | .slot i, fr => M.opt (slotV fr i)
  | .own _, _ => M.stuck
  | .pr p es, fr => (eva es fr).bind fun vs => fun h => M.opt (pr p vs h) h
  | .tup es, fr => (evs es fr).bind fun vs => M.opt (if vs.length ≤ szl then some (.tup vs) else none)
  | .lst es, fr => (evs es fr).bind fun vs => M.opt (if vs.length ≤ szl then some (.lst vs) else none)
  | .chain p q a b c, fr => (ev a fr).bind fun x => (ev b fr).bind fun y => (M.test fun h => M.opt (pr p [x, y] h) h).bind fun t => if t then (ev c fr).bind fun z => fun h => M.opt (pr q [y, z] h) h else M.pure (.bl false)
  | .join s a, fr => (evo1 a (ev a fr) fr).bind fun v => M.opt (pJoin [.str s, v])
  | .call f es, fr => (evs es fr).bind fun vs => Φ f vs
  | .callk f pm es, fr => (evs es fr).bind fun vs => (M.opt (permV pm vs)).bind fun vs => Φ f vs
  | .and a b, fr => (M.test (ev a fr)).bind fun t => if t then ev b fr else M.pure (.bl false)
  | .or a b, fr => (M.test (ev a fr)).bind fun t => if t then M.pure (.bl true) else ev b fr
  | .not a, fr => (M.test (ev a fr)).bind fun t => M.pure (.bl (!t))
  | .ife t a b, fr => (M.test (ev t fr)).bind fun t => if t then ev a fr else ev b fr
  | .comp tg k src ifs elt, fr => (eva src fr).bind fun vs => (M.opt (walk k vs)).bind fun items =>
      (M.calm (each (fun x => (M.opt (store tg x fr)).bind fun fr1 => (evif ifs fr1).bind fun t => if t then (ev elt fr1).bind fun v => M.pure [v] else M.pure []) items)).bind fun l => M.opt (if l.length ≤ szl then some (.lst l) else none)
  | .dcomp tg k src ke ve, fr => (eva src fr).bind fun vs => (M.opt (walk k vs)).bind fun items =>
      (M.calm (each (fun x => (M.opt (store tg x fr)).bind fun fr1 => (ev ke fr1).bind fun a => (ev ve fr1).bind fun b => (M.opt (keyOf a)).bind fun k => M.pure [(k, b)]) items)).bind fun l => M.opt (if l.length ≤ szl then some (.dct (dputs l [])) else none)
  | .dict ks es, fr => (evs es fr).bind fun vs => M.pure (.dct (dputs (ks.zip vs) []))
termination_by structural x => x
def evs : List E → Fr → M (List IV)
  | [], _ => M.pure []
  | e :: r, fr => (ev e fr).bind fun v => (evs r fr).bind fun vs => M.pure (v :: vs)
termination_by structural x => x
/-- the operands of an operation: a list of the frame's own may stand among them -/
def eva : List E → Fr → M (List IV)
  | [], _ => M.pure []
  | e :: r, fr => (evo1 e (ev e fr) fr).bind fun v => (eva r fr).bind fun vs => M.pure (v :: vs)
termination_by structural x => x
def evif : List E → Fr → M Bool
  | [], _ => M.pure true
  | e :: r, fr => (M.test (ev e fr)).bind fun t => if t then evif r fr else M.pure false
termination_by structural x => x
end
def ownOf (v : IV) : Option (List IV) := match v with
  | .lst xs => some xs
  | _ => none
/-- a while, at most so many turns -/
def loopF (g : Fr → M Fl) : Fl → M Fl
  | .nx fr => g fr
  | .cont fr => g fr
  | .brk fr => M.pure (.nx fr)
  | .ret v => M.pure (.ret v)
def seqF (g : Fr → M Fl) : Fl → M Fl
  | .nx fr => g fr
  | .cont fr => M.pure (.cont fr)
  | .brk fr => M.pure (.brk fr)
  | .ret v => M.pure (.ret v)
def loop (t : Fr → M Bool) (b : Fr → M Fl) : Nat → Fr → M Fl
  | 0, _ => M.stuck
  | n + 1, fr => (t fr).bind fun c => if c then (b fr).bind (loopF fun fr => loop t b n fr) else M.pure (.nx fr)
def forl (tg : Tg) (b : Fr → M Fl) : List IV → Fr → M Fl
  | [], fr => M.pure (.nx fr)
  | x :: r, fr => (M.opt (store tg x fr)).bind fun fr => (b fr).bind (loopF fun fr => forl tg b r fr)
def newCell (v : IV) : M IV := fun h => match v with
  | .lst xs => .ok (.cell h.length) (h ++ [.lst xs])
  | _ => .stuck
def setCell (o k v : IV) : M Unit := fun h => match o, k with
  | .cell c, .int i => (match h[c]? with
    | some (.lst xs) => if 0 ≤ i ∧ i < xs.length then .ok () (h.set c (.lst (xs.set i.toNat v))) else .stuck
    | _ => .stuck)
  | _, _ => .stuck
variable (W : Nat)
mutual
def xs1 : S → Fr → M Fl
  | .asg i e, fr => (ev Φ e fr).bind fun v => M.pure (.nx (fr.set i (.val v)))
  | .asgo i e, fr => (ev Φ e fr).bind fun v => (M.opt (ownOf v)).bind fun l => M.pure (.nx (fr.set i (.own l)))
  | .par i j io jo a b, fr => (ev Φ a fr).bind fun v => (ev Φ b fr).bind fun w =>
      (M.opt (if io then (ownOf v).map SV.own else some (SV.val v))).bind fun v => (M.opt (if jo then (ownOf w).map SV.own else some (SV.val w))).bind fun w => M.pure (.nx ((fr.set i v).set j w))
  | .unp tg e, fr => (ev Φ e fr).bind fun v => (M.opt (store (.many tg) v fr)).bind fun fr => M.pure (.nx fr)
  | .pop tg i, fr => (match fr[i]? with
    | some (.own xs) => (match xs.getLast? with
      | some x => (M.opt (store tg x (fr.set i (.own xs.dropLast)))).bind fun fr => M.pure (.nx fr)
      | none => M.stuck)
    | _ => M.stuck)
  | .app i e, fr => (match fr[i]? with
    | some (.own xs) => (ev Φ e fr).bind fun v => M.opt (if xs.length < szl then some (.nx (fr.set i (.own (xs ++ [v])))) else none)
    | _ => M.stuck)
  | .ext i e, fr => (match fr[i]? with
    | some (.own xs) => (ev Φ e fr).bind fun v => (M.opt (ownOf v)).bind fun ys => M.opt (if xs.length + ys.length ≤ szl then some (.nx (fr.set i (.own (xs ++ ys)))) else none)
    | _ => M.stuck)
  | .seti o k e, fr => (ev Φ e fr).bind fun v => (ev Φ o fr).bind fun o => (ev Φ k fr).bind fun k => (setCell o k v).bind fun _ => M.pure (.nx fr)
  | .ife t a b, fr => (M.test (ev Φ t fr)).bind fun c => if c then xss a fr else xss b fr
  | .while t b, fr => loop (fun fr => M.test (ev Φ t fr)) (fun fr => xss b fr) W fr
  | .for tg k src b, fr => (evs Φ src fr).bind fun vs => (M.opt (walk k vs)).bind fun items => forl tg (fun fr => xss b fr) items fr
  | .ret e, fr => (ev Φ e fr).bind fun v => M.pure (.ret v)
  | .retn, _ => M.pure (.ret .non)
  | .reto i, fr => M.opt ((ownV fr i).map Fl.ret)
  | .retc e, fr => (ev Φ e fr).bind fun v => (newCell v).bind fun c => M.pure (.ret c)
  | .expr e, fr => (ev Φ e fr).bind fun _ => M.pure (.nx fr)
  | .pass, fr => M.pure (.nx fr)
  | .frz i, fr => (M.opt (ownV fr i)).bind fun v => M.pure (.nx (fr.set i (.val v)))
  | .brk, fr => M.pure (.brk fr)
  | .cont, fr => M.pure (.cont fr)
termination_by structural x => x
def xss : List S → Fr → M Fl
  | [], fr => M.pure (.nx fr)
  | s :: r, fr => (xs1 s fr).bind (seqF fun fr => xss r fr)
termination_by structural x => x
end
end
/-- a def: how many parameters, how many names, its body -/
structure Fn where
  args : Nat
  names : Nat
  body : List S
def enter (f : Fn) (vs : List IV) : Fr := vs.map SV.val ++ List.replicate (f.names - vs.length) SV.non
def finF : Fl → M IV
  | .nx _ => M.pure .non
  | .ret v => M.pure v
  | .brk _ => M.stuck
  | .cont _ => M.stuck
def runF (Φ : Nat → List IV → M IV) (W : Nat) (f : Fn) (vs : List IV) : M IV :=
  if vs.length = f.args then (xss Φ W f.body (enter f vs)).bind finF else M.stuck
/-- a call at a depth -/
def callF (fs : Nat → Option Fn) (W : Nat) : Nat → Nat → List IV → M IV
  | 0, _, _ => M.stuck
  | n + 1, f, vs => (match fs f with
    | some d => runF (callF fs W n) W d vs
    | none => M.stuck)
end PI

set_option Elab.async false
set_option linter.all false
set_option maxRecDepth 100000
/-! PIb: what the evaluator's values stand for in the heap; steps; the judgements' shapes. -/
namespace PI
open PySem PySem.Spec PyProof.Rows L2

/-- the program's written part; where its defs stand -/
structure Gi where
  K : PySem.W.Frag
  fa : Nat → Addr

theorem tx_inj {s t : List Nat} (h : tx s = tx t) : s = t := by
  have e : s.toArray = t.toArray := by injection h
  simpa using congrArg Array.toList e
theorem tx_of (x : Str) : tx x.cps.toList = x := by cases x; simp [tx]
theorem tx_length (s : List Nat) : (tx s).length = s.length := by simp [tx, Str.length]

/-- keys as the dicts of the layer have them -/
inductive KyR : Ky → Key → Prop where
  | int (i : Int) : KyR (.int i) (.inl i)
  | str (s : List Nat) : KyR (.str s) (.inr (tx s))

/-- a tree stands at a value; F: what never changes; m: where the cells stand -/
inductive Rp (G : Gi) (F : Hp) (m : List Addr) : IV → V → Prop where
  | non : Rp G F m .non .non
  | bl (b : Bool) : Rp G F m (.bl b) (.bl b)
  | int (i : Int) : Rp G F m (.int i) (.int i)
  | str (s : List Nat) : Rp G F m (.str s) (.str (tx s))
  | tup {a : Addr} {xs : List IV} {vs : List V} : SqT G.K F a vs → vs.length = xs.length → (∀ (i : Nat) (x : IV) (v : V), xs[i]? = some x → vs[i]? = some v → Rp G F m x v) → Rp G F m (.tup xs) (.ref a)
  | lst {a : Addr} {xs : List IV} {vs : List V} : F a = some (.lst vs) → vs.length = xs.length → (∀ (i : Nat) (x : IV) (v : V), xs[i]? = some x → vs[i]? = some v → Rp G F m x v) → Rp G F m (.lst xs) (.ref a)
  | dct {a : Addr} {o : Obj} {kvs : List (Ky × IV)} {ds : List (Key × V)} : F a = some (.frz o (.dK ds)) → ds.length = kvs.length → (∀ (i : Nat) (k : Ky) (x : IV) (l : Key) (v : V), kvs[i]? = some (k, x) → ds[i]? = some (l, v) → KyR k l) →
      (∀ (i : Nat) (k : Ky) (x : IV) (l : Key) (v : V), kvs[i]? = some (k, x) → ds[i]? = some (l, v) → Rp G F m x v) → Rp G F m (.dct kvs) (.ref a)
  | odd {a : Addr} {o : Obj} {e : DictEntry} {ep k : Nat} : F a = some (.frz o (.ext fun _ => True)) → o.ExactDict → o.data = .dict #[e] ep → (a == sysModules) = false → (k = 0 → e.key = .none) → (k ≠ 0 → ∃ q, e.key = .ref q ∧ SqT G.K F q [.str (tx [97])]) → Rp G F m (.odd k) (.ref a)
  | cell {a : Addr} {i : Nat} : m[i]? = some a → Rp G F m (.cell i) (.ref a)
  | fn (f : Nat) : Rp G F m (.fn f) (.ref (G.fa f))
  | scr {a : Addr} {ns : List Int} : SqL G.K F a (ns.map V.int) → Rp G F m (.scr ns) (.ref a)

def RpL (G : Gi) (F : Hp) (m : List Addr) (xs : List IV) (vs : List V) : Prop := vs.length = xs.length ∧ ∀ (i : Nat) (x : IV) (v : V), xs[i]? = some x → vs[i]? = some v → Rp G F m x v

/-- F grows, m grows behind its end -/
structure Ge (F F' : Hp) (m m' : List Addr) : Prop where
  f : ∀ a o, F a = some o → F' a = some o
  m : ∃ l, m' = m ++ l
theorem Ge.refl {F : Hp} {m : List Addr} : Ge F F m m := ⟨fun _ _ h => h, [], by simp⟩
theorem Ge.trans {F F1 F2 : Hp} {m m1 m2 : List Addr} (a : Ge F F1 m m1) (b : Ge F1 F2 m1 m2) : Ge F F2 m m2 := by
  obtain ⟨l, e⟩ := a.m
  obtain ⟨l', e'⟩ := b.m
  exact ⟨fun x o h => b.f x o (a.f x o h), l ++ l', by rw [e', e, List.append_assoc]⟩
theorem rd_mono {F F' : Hp} {a : Addr} {u : HO} (h : ∀ a o, F a = some o → F' a = some o) (r : Rd F a u) : Rd F' a u := by
  rcases r with r | ⟨o, r⟩
  · exact .inl (h _ _ r)
  · exact .inr ⟨o, h _ _ r⟩
theorem sqT_mono {K : PySem.W.Frag} {F F' : Hp} {a : Addr} {xs : List V} (h : ∀ a o, F a = some o → F' a = some o) (r : SqT K F a xs) : SqT K F' a xs := r.imp (rd_mono h) id
theorem sqL_mono {K : PySem.W.Frag} {F F' : Hp} {a : Addr} {xs : List V} (h : ∀ a o, F a = some o → F' a = some o) (r : SqL K F a xs) : SqL K F' a xs := r.imp (rd_mono h) id
theorem Rp.mono {G : Gi} {F F' : Hp} {m m' : List Addr} {x : IV} {v : V} (g : Ge F F' m m') (h : Rp G F m x v) : Rp G F' m' x v := by
  induction h with
  | non => exact .non
  | bl b => exact .bl b
  | int i => exact .int i
  | str s => exact .str s
  | tup a b _ ih => exact .tup (sqT_mono g.f a) b ih
  | lst a b _ ih => exact .lst (g.f _ _ a) b ih
  | dct a b c _ ih => exact .dct (g.f _ _ a) b c ih
  | odd a b c d e q => exact .odd (g.f _ _ a) b c d e fun h => (q h).imp fun _ z => ⟨z.1, sqT_mono g.f z.2⟩
  | cell e =>
    obtain ⟨l, r⟩ := g.m
    refine .cell ?_
    rw [r, List.getElem?_append_left (List.getElem?_eq_some_iff.mp e).1]
    exact e
  | fn f => exact .fn f
  | scr h => exact .scr (sqL_mono g.f h)
theorem RpL.mono {G : Gi} {F F' : Hp} {m m' : List Addr} {xs : List IV} {vs : List V} (g : Ge F F' m m') (h : RpL G F m xs vs) : RpL G F' m' xs vs := ⟨h.1, fun i x v a b => (h.2 i x v a b).mono g⟩
theorem RpL.nil {G : Gi} {F : Hp} {m : List Addr} : RpL G F m [] [] := ⟨rfl, fun i x v h => by simp at h⟩
theorem RpL.cons {G : Gi} {F : Hp} {m : List Addr} {x : IV} {v : V} {xs : List IV} {vs : List V} (a : Rp G F m x v) (b : RpL G F m xs vs) : RpL G F m (x :: xs) (v :: vs) := by
  refine ⟨by simp [b.1], fun i y u h1 h2 => ?_⟩
  cases i with
  | zero => simp at h1 h2; subst h1; subst h2; exact a
  | succ i => exact b.2 i y u (by simpa using h1) (by simpa using h2)
theorem RpL.head {G : Gi} {F : Hp} {m : List Addr} {x : IV} {v : V} {xs : List IV} {vs : List V} (h : RpL G F m (x :: xs) (v :: vs)) : Rp G F m x v := h.2 0 x v rfl rfl
theorem RpL.tail {G : Gi} {F : Hp} {m : List Addr} {x : IV} {v : V} {xs : List IV} {vs : List V} (h : RpL G F m (x :: xs) (v :: vs)) : RpL G F m xs vs :=
  ⟨by simpa using h.1, fun i y u a b => h.2 (i + 1) y u (by simpa using a) (by simpa using b)⟩
theorem RpL.get {G : Gi} {F : Hp} {m : List Addr} {xs : List IV} {vs : List V} (h : RpL G F m xs vs) {i : Nat} {x : IV} (e : xs[i]? = some x) : ∃ v, vs[i]? = some v ∧ Rp G F m x v := by
  have hi : i < vs.length := by rw [h.1]; exact (List.getElem?_eq_some_iff.mp e).1
  exact ⟨vs[i], List.getElem?_eq_getElem hi, h.2 i x _ e (List.getElem?_eq_getElem hi)⟩
theorem RpL.append {G : Gi} {F : Hp} {m : List Addr} {xs ys : List IV} {vs us : List V} (a : RpL G F m xs vs) (b : RpL G F m ys us) : RpL G F m (xs ++ ys) (vs ++ us) := by
  induction xs generalizing vs with
  | nil =>
    have : vs = [] := List.length_eq_zero_iff.mp (by simpa using a.1)
    subst this
    simpa using b
  | cons x r ih =>
    cases vs with
    | nil => simp at *; exact absurd a.1 (by simp)
    | cons v q => exact .cons a.head (ih a.tail)

/-! ### steps of the heap -/
/-- what a step may do: new objects, cells changed, new cells; all else stays -/
structure Stp (F F' : Hp) (m m' : List Addr) (H H' : Hp) : Prop where
  kf : ∀ a o, F a = some o → F' a = some o
  fn : ∀ a o, F' a = some o → F a = some o ∨ H a = none ∨ a ∈ m
  pre : ∃ l, m' = m ++ l
  new : ∀ a, a ∈ m' → a ∈ m ∨ H a = none
  kh : ∀ a o, H a = some o → a ∉ m → H' a = some o
theorem Stp.refl {F : Hp} {m : List Addr} {H : Hp} : Stp F F m m H H := ⟨fun _ _ h => h, fun _ _ h => .inl h, ⟨[], by simp⟩, fun _ h => .inl h, fun _ _ h _ => h⟩
theorem Stp.ge {F F' : Hp} {m m' : List Addr} {H H' : Hp} (s : Stp F F' m m' H H') : Ge F F' m m' := ⟨s.kf, s.pre⟩
theorem Stp.back {F F' : Hp} {m m' : List Addr} {H H' : Hp} (s : Stp F F' m m' H H') {a : Addr} (h : H' a = none) : H a = none ∨ a ∈ m := by
  cases e : H a with
  | none => exact .inl rfl
  | some o =>
    by_cases hm : a ∈ m
    · exact .inr hm
    · rw [s.kh a o e hm] at h; cases h
theorem Stp.trans {F F1 F2 : Hp} {m m1 m2 : List Addr} {H H1 H2 : Hp} (a : Stp F F1 m m1 H H1) (b : Stp F1 F2 m1 m2 H1 H2) : Stp F F2 m m2 H H2 := by
  refine ⟨fun x o h => b.kf x o (a.kf x o h), fun x o h => ?_, ?_, fun x h => ?_, fun x o h hm => ?_⟩
  · rcases b.fn x o h with q | q | q
    · exact a.fn x o q
    · exact .inr (a.back q)
    · exact .inr ((a.new x q).symm)
  · obtain ⟨l, e⟩ := a.pre
    obtain ⟨l', e'⟩ := b.pre
    exact ⟨l ++ l', by rw [e', e, List.append_assoc]⟩
  · rcases b.new x h with q | q
    · exact a.new x q
    · exact (a.back q).symm
  · by_cases hm1 : x ∈ m1
    · rcases a.new x hm1 with q | q
      · exact absurd q hm
      · rw [h] at q; cases q
    · exact b.kh x o (a.kh x o h hm) hm1

/-! ### the state -/
def CellOk (G : Gi) (F : Hp) (m : List Addr) (H : Hp) (a : Addr) : CO → Prop
  | .lst xs => F a = none ∧ ∃ vs, H a = some (.lst vs) ∧ RpL G F m xs vs
  | .dead => F a = none ∧ ∃ o, H a = some o
structure Core (G : Gi) (F : Hp) (m : List Addr) (h : Cells) (H : Hp) : Prop where
  sub : ∀ a o, F a = some o → H a = some o
  nd : m.Nodup
  len : h.length = m.length
  cel : ∀ (i : Nat) (a : Addr) (c : CO), m[i]? = some a → h[i]? = some c → CellOk G F m H a c
/-- what stands at a name -/
def SlotOk (G : Gi) (F : Hp) (m : List Addr) (H : Hp) : SV → Option V → Prop
  | .non, _ => True
  | .val x, v => ∃ u, v = some u ∧ Rp G F m x u
  | .own xs, v => ∃ a vs, v = some (.ref a) ∧ H a = some (.lst vs) ∧ RpL G F m xs vs ∧ F a = none ∧ a ∉ m
structure Fok (G : Gi) (F : Hp) (m : List Addr) (fr : Fr) (h : Cells) (σ : L2.St) (H : Hp) : Prop where
  core : Core G F m h H
  len : fr.length = σ.length
  slot : ∀ (i : Nat) (s : SV) (v : Option V), fr[i]? = some s → σ[i]? = some v → SlotOk G F m H s v
  apart : ∀ (i j : Nat) (xs ys : List IV) (a : Addr), i ≠ j → fr[i]? = some (.own xs) → fr[j]? = some (.own ys) → σ[i]? = some (some (.ref a)) → σ[j]? ≠ some (some (.ref a))

theorem SlotOk.mono {G : Gi} {F F' : Hp} {m m' : List Addr} {H H' : Hp} {s : SV} {v : Option V} (t : Stp F F' m m' H H') (k : SlotOk G F m H s v) : SlotOk G F' m' H' s v := by
  cases s with
  | non => trivial
  | val x => obtain ⟨u, e, r⟩ := k; exact ⟨u, e, r.mono t.ge⟩
  | own xs =>
    obtain ⟨a, vs, e, h1, r, h2, h3⟩ := k
    refine ⟨a, vs, e, t.kh a _ h1 h3, r.mono t.ge, ?_, fun hm => ?_⟩
    · cases q : F' a with
      | none => rfl
      | some o =>
        rcases t.fn a o q with z | z | z
        · rw [h2] at z; cases z
        · rw [h1] at z; cases z
        · exact absurd z h3
    · rcases t.new a hm with z | z
      · exact h3 z
      · rw [h1] at z; cases z
/-- the frame behind a step that changes no name -/
theorem Fok.step {G : Gi} {F F' : Hp} {m m' : List Addr} {fr : Fr} {h h' : Cells} {σ : L2.St} {H H' : Hp} (k : Fok G F m fr h σ H) (t : Stp F F' m m' H H') (c : Core G F' m' h' H') : Fok G F' m' fr h' σ H' :=
  ⟨c, k.len, fun i s v e1 e2 => (k.slot i s v e1 e2).mono t, k.apart⟩

/-! ### the judgements' shapes -/
/-- how an exception lies -/
abbrev XI := Hp → List Addr → Hp → IV → Value → Option Addr → Prop
/-- the surroundings: the text's places, how exceptions lie, what is wanted of one -/
structure Ar where
  G : Gi
  xi : XI
  W : WX
abbrev Rel (α β : Type) := Hp → List Addr → Hp → α → β → Prop
/-- behind r, begun at a state -/
def tP {α β : Type} (A : Ar) (rel : Rel α β) (m0 : M α) (F : Hp) (m : List Addr) (h : Cells) (σ : L2.St) (H : Hp) (Q : β → Hp → Prop) : Prop := match m0 h with
  | .ok x h' => ∀ F' m' H' v, Stp F F' m m' H H' → Core A.G F' m' h' H' → rel F' m' H' x v → Q v H'
  | .exc x h' => ∀ F' m' H' c d, Stp F F' m m' H H' → Core A.G F' m' h' H' → A.xi F' m' H' x c d → A.W c d σ H'
  | .stuck => False
def tG {α β : Type} (A : Ar) (rel : Rel α β) (r : Fr → M α) : L2.St → Hp → (β → Hp → Prop) → Prop := fun σ H Q => ∃ F m fr h, Fok A.G F m fr h σ H ∧ tP A rel (r fr) F m h σ H Q
def RpS (G : Gi) (F : Hp) (m : List Addr) (H : Hp) (x : IV) (v : V) : Prop := Rp G F m x v ∨ ∃ a xs vs, x = .lst xs ∧ v = .ref a ∧ H a = some (.lst vs) ∧ a ∉ m ∧ F a = none ∧ RpL G F m xs vs
def relV (G : Gi) : Rel IV V := fun F m _ x v => Rp G F m x v
def relS (G : Gi) : Rel IV V := fun F m H x v => RpS G F m H x v
def relL (G : Gi) : Rel (List IV) (List V) := fun F m _ x v => RpL G F m x v
def relB : Rel Bool Bool := fun _ _ _ x v => x = v
/-- a new list, not yet frozen -/
def relN (G : Gi) : Rel (List IV) V := fun F m H xs v => ∃ a vs, v = .ref a ∧ H a = some (.lst vs) ∧ a ∉ m ∧ F a = none ∧ RpL G F m xs vs
abbrev tE (A : Ar) (r : Fr → M IV) : TE := tG A (relV A.G) r
abbrev tT (A : Ar) (r : Fr → M Bool) : TT := tG A relB r
abbrev tS (A : Ar) (r : Fr → M IV) : TE := tG A (relS A.G) r

theorem tP.mono {α β : Type} {A : Ar} {rel : Rel α β} {m0 : M α} {F : Hp} {m : List Addr} {h : Cells} {σ : L2.St} {H : Hp} {Q Q' : β → Hp → Prop} (k : tP A rel m0 F m h σ H Q) (i : ∀ v H, Q v H → Q' v H) : tP A rel m0 F m h σ H Q' := by
  unfold tP at k ⊢
  cases e : m0 h with
  | ok x h' => rw [e] at k; exact fun F' m' H' v a b c => i _ _ (k F' m' H' v a b c)
  | exc x h' => rw [e] at k; exact k
  | stuck => rw [e] at k; exact k
theorem tP.rel {α β : Type} {A : Ar} {rel rel' : Rel α β} {m0 : M α} {F : Hp} {m : List Addr} {h : Cells} {σ : L2.St} {H : Hp} {Q : β → Hp → Prop} (k : tP A rel m0 F m h σ H Q) (i : ∀ F m H x v, rel' F m H x v → rel F m H x v) : tP A rel' m0 F m h σ H Q := by
  unfold tP at k ⊢
  cases e : m0 h with
  | ok x h' => rw [e] at k; exact fun F' m' H' v a b c => k F' m' H' v a b (i _ _ _ _ _ c)
  | exc x h' => rw [e] at k; exact k
  | stuck => rw [e] at k; exact k
/-- one behind another -/
theorem tP.bind {α β γ δ : Type} {A : Ar} {rel : Rel α β} {rel2 : Rel γ δ} {m0 : M α} {f : α → M γ} {F : Hp} {m : List Addr} {fr : Fr} {h : Cells} {σ : L2.St} {H : Hp} {Q : δ → Hp → Prop} (K : Fok A.G F m fr h σ H) (k : tP A rel2 (m0.bind f) F m h σ H Q) :
    tP A rel m0 F m h σ H fun v H1 => ∃ F1 m1 h1 x, Stp F F1 m m1 H H1 ∧ Fok A.G F1 m1 fr h1 σ H1 ∧ rel F1 m1 H1 x v ∧ tP A rel2 (f x) F1 m1 h1 σ H1 Q := by
  unfold tP at k ⊢
  unfold M.bind at k
  cases e : m0 h with
  | stuck => rw [e] at k; exact k
  | exc x h' => rw [e] at k; exact k
  | ok x h' =>
    rw [e] at k
    refine fun F1 m1 H1 v s c r => ⟨F1, m1, h', x, s, K.step s c, r, ?_⟩
    show match f x h' with
      | .ok y h2 => ∀ F' m' H' v, Stp F1 F' m1 m' H1 H' → Core A.G F' m' h2 H' → rel2 F' m' H' y v → Q v H'
      | .exc y h2 => ∀ F' m' H' c d, Stp F1 F' m1 m' H1 H' → Core A.G F' m' h2 H' → A.xi F' m' H' y c d → A.W c d σ H'
      | .stuck => False
    have k2 : match f x h' with
      | .ok y h2 => ∀ F' m' H' v, Stp F F' m m' H H' → Core A.G F' m' h2 H' → rel2 F' m' H' y v → Q v H'
      | .exc y h2 => ∀ F' m' H' c d, Stp F F' m m' H H' → Core A.G F' m' h2 H' → A.xi F' m' H' y c d → A.W c d σ H'
      | .stuck => False := k
    cases e2 : f x h' with
    | stuck => rw [e2] at k2; exact k2
    | ok y h2 => rw [e2] at k2; exact fun F' m' H' v a b c => k2 F' m' H' v (s.trans a) b c
    | exc y h2 => rw [e2] at k2; exact fun F' m' H' v d a b c => k2 F' m' H' v d (s.trans a) b c
/-- a value known at once -/
theorem tP.opt {α β : Type} {A : Ar} {rel : Rel α β} {o : Option α} {F : Hp} {m : List Addr} {h : Cells} {σ : L2.St} {H : Hp} {Q : β → Hp → Prop} (k : tP A rel (M.opt o) F m h σ H Q) :
    ∃ x, o = some x ∧ ∀ F' m' H' v, Stp F F' m m' H H' → Core A.G F' m' h H' → rel F' m' H' x v → Q v H' := by
  unfold tP M.opt at k
  cases o with
  | none => exact k.elim
  | some x => exact ⟨x, rfl, k⟩
theorem tP.pure {α β : Type} {A : Ar} {rel : Rel α β} {x : α} {F : Hp} {m : List Addr} {h : Cells} {σ : L2.St} {H : Hp} {Q : β → Hp → Prop} (k : tP A rel (M.pure x) F m h σ H Q) :
    ∀ F' m' H' v, Stp F F' m m' H H' → Core A.G F' m' h H' → rel F' m' H' x v → Q v H' := k

theorem _root_.L2.PE.imp {X : Cx} {e : Expr} {t t' : TE} (p : PE X e t) (i : ∀ σ H Q, t' σ H Q → t σ H Q) : PE X e t' := ⟨fun pins s σ H Q I h => p.run pins s σ H Q I (i σ H Q h)⟩
theorem _root_.L2.PT.imp {X : Cx} {e : Expr} {t t' : TT} (p : PT X e t) (i : ∀ σ H Q, t' σ H Q → t σ H Q) : PT X e t' := ⟨fun pins s σ H Q I h => p.run pins s σ H Q I (i σ H Q h)⟩
theorem _root_.L2.PW.imp {X : Cx} {e : Expr} {t t' : TT} (p : PW X e t) (i : ∀ σ H Q, t' σ H Q → t σ H Q) : PW X e t' := ⟨fun wh pins s σ H Q I h => p.run wh pins s σ H Q I (i σ H Q h)⟩
theorem _root_.L2.PA.imp {X : Cx} {e : List Expr} {t t' : TA} (p : PA X e t) (i : ∀ σ H Q, t' σ H Q → t σ H Q) : PA X e t' := ⟨fun pos pins s σ H Q I h => p.run pos pins s σ H Q I (i σ H Q h)⟩
theorem _root_.L2.PS.imp {X : Cx} {e : Stmt} {t t' : TS} (p : PS X e t) (i : ∀ D σ H, t' D σ H → t D σ H) : PS X e t' := ⟨fun pins s σ H D I h => p.run pins s σ H D I (i D σ H h)⟩
theorem _root_.L2.PSs.imp {X : Cx} {e : List Stmt} {t t' : TS} (p : PSs X e t) (i : ∀ D σ H, t' D σ H → t D σ H) : PSs X e t' := ⟨fun pins s σ H D I h => p.run pins s σ H D I (i D σ H h)⟩

/-! ### new objects -/
theorem Stp.fresh {G : Gi} {F : Hp} {m : List Addr} {h : Cells} {H : Hp} {p : Addr} {o : HO} (c : Core G F m h H) (n : H p = none) : Stp F (upd F p o) m m H (upd H p o) := by
  have nf : F p = none := by
    cases q : F p with
    | none => rfl
    | some u => rw [c.sub p u q] at n; cases n
  refine ⟨fun a u e => ?_, fun a u e => ?_, ⟨[], by simp⟩, fun _ h => .inl h, fun a u e _ => ?_⟩
  · rw [upd_ne (ne_of_none e nf)]; exact e
  · by_cases ha : a = p
    · subst ha; exact .inr (.inl n)
    · rw [upd_ne ha] at e; exact .inl e
  · rw [upd_ne (ne_of_none e n)]; exact e
/-- .. not frozen -/
theorem Stp.fresh0 {F : Hp} {m : List Addr} {H : Hp} {p : Addr} {o : HO} (n : H p = none) : Stp F F m m H (upd H p o) :=
  ⟨fun _ _ e => e, fun _ _ e => .inl e, ⟨[], by simp⟩, fun _ h => .inl h, fun a u e _ => by rw [upd_ne (ne_of_none e n)]; exact e⟩
theorem CellOk.step {G : Gi} {F F' : Hp} {m m' : List Addr} {H H' : Hp} {a : Addr} {c : CO} (k : CellOk G F m H a c) (g : Ge F F' m m') (hf : F a = none → F' a = none) (hh : ∀ o, H a = some o → H' a = some o) : CellOk G F' m' H' a c := by
  cases c with
  | lst xs => obtain ⟨n, vs, e, r⟩ := k; exact ⟨hf n, vs, hh _ e, r.mono g⟩
  | dead => exact ⟨hf k.1, k.2.imp hh⟩
theorem Core.new {G : Gi} {F : Hp} {m : List Addr} {h : Cells} {H : Hp} {p : Addr} {o : HO} (c : Core G F m h H) (n : H p = none) : Core G (upd F p o) m h (upd H p o) := by
  have t := Stp.fresh (o := o) c n
  refine ⟨fun a u e => ?_, c.nd, c.len, fun i a co e1 e2 => ?_⟩
  · by_cases ha : a = p
    · subst ha; rw [upd_same] at e ⊢; exact e
    · rw [upd_ne ha] at e ⊢; exact c.sub a u e
  · have k := c.cel i a co e1 e2
    cases co with
    | dead =>
      obtain ⟨z, o, e⟩ := k
      have ha : a ≠ p := fun q => by rw [q, n] at e; cases e
      exact ⟨by rw [upd_ne ha]; exact z, o, by rw [upd_ne ha]; exact e⟩
    | lst xs =>
      obtain ⟨z, vs, e, r⟩ := k
      have ha : a ≠ p := fun q => by rw [q, n] at e; cases e
      exact ⟨by rw [upd_ne ha]; exact z, vs, by rw [upd_ne ha]; exact e, r.mono t.ge⟩
theorem Core.new0 {G : Gi} {F : Hp} {m : List Addr} {h : Cells} {H : Hp} {p : Addr} {o : HO} (c : Core G F m h H) (n : H p = none) : Core G F m h (upd H p o) := by
  refine ⟨fun a u e => ?_, c.nd, c.len, fun i a co e1 e2 => ?_⟩
  · have e2 := c.sub a u e
    rw [upd_ne (ne_of_none e2 n)]; exact e2
  · have k := c.cel i a co e1 e2
    cases co with
    | dead => exact ⟨k.1, k.2.imp fun o e => by rw [upd_ne (ne_of_none e n)]; exact e⟩
    | lst xs =>
      obtain ⟨z, vs, e, r⟩ := k
      exact ⟨z, vs, by rw [upd_ne (ne_of_none e n)]; exact e, r⟩
/-- where a cell stands something stands -/
theorem Core.there {G : Gi} {F : Hp} {m : List Addr} {h : Cells} {H : Hp} (c : Core G F m h H) {a : Addr} (hm : a ∈ m) : F a = none ∧ ∃ o, H a = some o := by
  obtain ⟨i, e⟩ := List.getElem?_of_mem hm
  have hi : i < h.length := by rw [c.len]; exact (List.getElem?_eq_some_iff.mp e).1
  have k := c.cel i a h[i] e (List.getElem?_eq_getElem hi)
  cases z : h[i] with
  | dead => rw [z] at k; exact k
  | lst xs => rw [z] at k; obtain ⟨n, vs, e, _⟩ := k; exact ⟨n, _, e⟩
theorem upd_self {H : Hp} {a : Addr} {o : HO} (e : H a = some o) : L2.upd H a o = H := by
  funext b
  unfold L2.upd
  split
  · rename_i h; rw [h, e]
  · rfl
end PI

set_option Elab.async false
set_option linter.all false
set_option maxRecDepth 100000
set_option maxHeartbeats 4000000
/-! PIc: the operations on values are the machine's. -/
namespace PI
open PySem PySem.Spec PyProof.Rows L2

def RpSL (G : Gi) (F : Hp) (m : List Addr) (H : Hp) (xs : List IV) (vs : List V) : Prop := vs.length = xs.length ∧ ∀ (i : Nat) (x : IV) (v : V), xs[i]? = some x → vs[i]? = some v → RpS G F m H x v
/-- an operation's reading -/
def rP (A : Ar) (p : Pr) (vs : List V) (H : Hp) (Q : VK) : Prop := ∃ F m h xs z, Core A.G F m h H ∧ RpSL A.G F m H xs vs ∧ pr p xs h = some z ∧ ∀ F' m' H' v, Stp F F' m m' H H' → Core A.G F' m' h H' → Rp A.G F' m' z v → Q v H'
abbrev rP2 (A : Ar) (p : Pr) : R2 := fun x y H Q => rP A p [x, y] H Q

section
variable {G : Gi} {F : Hp} {m : List Addr} {H : Hp} {h : Cells} {v : V}
theorem RpSL.nil {vs : List V} (r : RpSL G F m H [] vs) : vs = [] := List.length_eq_zero_iff.mp (by simpa using r.1)
theorem RpSL.cons {x : IV} {xs : List IV} {vs : List V} (r : RpSL G F m H (x :: xs) vs) : ∃ v us, vs = v :: us ∧ RpS G F m H x v ∧ RpSL G F m H xs us := by
  cases vs with
  | nil => exact absurd r.1 (by simp)
  | cons v us => exact ⟨v, us, rfl, r.2 0 x v rfl rfl, by simpa using r.1, fun i y u a b => r.2 (i + 1) y u (by simpa using a) (by simpa using b)⟩
theorem RpSL.one {x : IV} {v : V} (r : RpSL G F m H [x] [v]) : RpS G F m H x v := r.2 0 x v rfl rfl
theorem RpSL.two {x y : IV} {v u : V} (r : RpSL G F m H [x, y] [v, u]) : RpS G F m H x v ∧ RpS G F m H y u := ⟨r.2 0 x v rfl rfl, r.2 1 y u rfl rfl⟩
theorem RpSL.arity {xs : List IV} {vs : List V} (r : RpSL G F m H xs vs) : xs.length = vs.length := r.1.symm
theorem rps_int {i : Int} (r : RpS G F m H (.int i) v) : v = .int i := by
  rcases r with r | ⟨_, _, _, e, _⟩
  · cases r; rfl
  · cases e
theorem rps_bl {b : Bool} (r : RpS G F m H (.bl b) v) : v = .bl b := by
  rcases r with r | ⟨_, _, _, e, _⟩
  · cases r; rfl
  · cases e
theorem rps_non (r : RpS G F m H .non v) : v = .non := by
  rcases r with r | ⟨_, _, _, e, _⟩
  · cases r; rfl
  · cases e
theorem rps_str {s : List Nat} (r : RpS G F m H (.str s) v) : v = .str (tx s) := by
  rcases r with r | ⟨_, _, _, e, _⟩
  · cases r; rfl
  · cases e
theorem rps_lst {xs : List IV} (c : Core G F m h H) (r : RpS G F m H (.lst xs) v) : ∃ a vs, v = .ref a ∧ H a = some (.lst vs) ∧ RpL G F m xs vs := by
  rcases r with r | ⟨a, ys, vs, e, rfl, hH, _, _, q⟩
  · cases r with
    | lst e l q => exact ⟨_, _, rfl, c.sub _ _ e, l, q⟩
  · cases e; exact ⟨a, vs, rfl, hH, q⟩
theorem rps_tup {xs : List IV} (c : Core G F m h H) (r : RpS G F m H (.tup xs) v) : ∃ a vs, v = .ref a ∧ SqT G.K H a vs ∧ RpL G F m xs vs ∧ SqT G.K F a vs := by
  rcases r with r | ⟨_, _, _, e, _⟩
  · cases r with
    | tup e l q => exact ⟨_, _, rfl, sqT_mono c.sub e, ⟨l, q⟩, e⟩
  · cases e
theorem rps_dct {kvs : List (Ky × IV)} (c : Core G F m h H) (r : RpS G F m H (.dct kvs) v) : ∃ a ds, v = .ref a ∧ (∃ o, H a = some (.frz o (.dK ds))) ∧ ds.length = kvs.length := by
  rcases r with r | ⟨_, _, _, e, _⟩
  · cases r with
    | dct e l _ _ => exact ⟨_, _, rfl, ⟨_, c.sub _ _ e⟩, l⟩
  · cases e
theorem rps_scr {ns : List Int} (c : Core G F m h H) (r : RpS G F m H (.scr ns) v) : ∃ a, v = .ref a ∧ SqL G.K H a (ns.map V.int) := by
  rcases r with r | ⟨_, _, _, e, _⟩
  · cases r with
    | scr e => exact ⟨_, rfl, sqL_mono c.sub e⟩
  · cases e
theorem rps_cell {i : Nat} (r : RpS G F m H (.cell i) v) : ∃ a, v = .ref a ∧ m[i]? = some a := by
  rcases r with r | ⟨_, _, _, e, _⟩
  · cases r with
    | cell e => exact ⟨_, rfl, e⟩
  · cases e

/-! ### endings -/
theorem fin0 {z : IV} {Q : VK} (c : Core G F m h H) (q : ∀ F' m' H' v, Stp F F' m m' H H' → Core G F' m' h H' → Rp G F' m' z v → Q v H') (r : Rp G F m z v) : Q v H := q F m H v .refl c r
theorem finL {zs : List IV} {vs : List V} {Q : VK} {p : Addr} (c : Core G F m h H) (q : ∀ F' m' H' v, Stp F F' m m' H H' → Core G F' m' h H' → Rp G F' m' (.lst zs) v → Q v H') (r : RpL G F m zs vs) (n : H p = none) : Q (.ref p) (upd H p (.lst vs)) :=
  q _ _ _ _ (Stp.fresh c n) (c.new n) (.lst upd_same r.1 fun i x v a b => (r.2 i x v a b).mono (Stp.fresh c n).ge)
theorem finT {zs : List IV} {vs : List V} {Q : VK} {p : Addr} (c : Core G F m h H) (q : ∀ F' m' H' v, Stp F F' m m' H H' → Core G F' m' h H' → Rp G F' m' (.tup zs) v → Q v H') (r : RpL G F m zs vs) (n : H p = none) : Q (.ref p) (upd H p (.tup vs)) :=
  q _ _ _ _ (Stp.fresh c n) (c.new n) (.tup (SqT.of upd_same) r.1 fun i x v a b => (r.2 i x v a b).mono (Stp.fresh c n).ge)
end

/-! ### data and == -/
mutual
def toD : IV → PyData
  | .non => .none
  | .bl b => .bool b
  | .int i => .int i
  | .str s => .str (tx s)
  | .tup xs => .tuple (toDs xs)
  | .lst xs => .list (toDs xs)
  | _ => .none
termination_by structural x => x
def toDs : List IV → List PyData
  | [] => []
  | x :: r => toD x :: toDs r
termination_by structural x => x
end
mutual
theorem toD_lay : ∀ (x : IV) (n : Nat), pln x n = true → (toD x).plain = true ∧ (toD x).depth ≤ n
  | .non, n, _ => by simp [toD, PyData.plain, PyData.depth]
  | .bl _, n, _ => by simp [toD, PyData.plain, PyData.depth]
  | .int _, n, _ => by simp [toD, PyData.plain, PyData.depth]
  | .str _, n, _ => by simp [toD, PyData.plain, PyData.depth]
  | .tup xs, 0, h => by simp [pln] at h
  | .tup xs, n + 1, h => by
    have := toDs_lay xs n (by simpa [pln] using h)
    simp [toD, PyData.plain, PyData.depth, this.1]
    omega
  | .lst xs, 0, h => by simp [pln] at h
  | .lst xs, n + 1, h => by
    have := toDs_lay xs n (by simpa [pln] using h)
    simp [toD, PyData.plain, PyData.depth, this.1]
    omega
  | .dct _, n, h => by simp [pln] at h
  | .obj _ _, n, h => by simp [pln] at h
  | .cell _, n, h => by simp [pln] at h
  | .fn _, n, h => by simp [pln] at h
  | .scr _, n, h => by simp [pln] at h
termination_by structural x => x
theorem toDs_lay : ∀ (xs : List IV) (n : Nat), plns xs n = true → PyData.plainAll (toDs xs) = true ∧ PyData.depthAll (toDs xs) ≤ n
  | [], n, _ => by simp [toDs, PyData.plainAll, PyData.depthAll]
  | x :: r, n, h => by
    have h' : pln x n = true ∧ plns r n = true := by simpa [plns] using h
    have a := toD_lay x n h'.1
    have b := toDs_lay r n h'.2
    simp [toDs, PyData.plainAll, PyData.depthAll, a.1, b.1]
    omega
termination_by structural x => x
end
theorem tx_beq (s t : List Nat) : (tx s == tx t) = decide (s = t) := by
  rw [Bool.eq_iff_iff]
  simp
  exact ⟨tx_inj, fun e => by rw [e]⟩
mutual
theorem eqv_toD : ∀ (x : IV) (n : Nat) (y : IV) (k : Nat), pln x n = true → pln y k = true → PyData.eqv (toD x) (toD y) = eqv x y
  | .non, n, y, k, h1, h2 => by cases y <;> simp [pln, toD, PyData.eqv, eqv] at *
  | .bl a, n, y, k, h1, h2 => by cases y <;> simp [pln, toD, PyData.eqv, eqv, b2i] at * <;> rfl
  | .int i, n, y, k, h1, h2 => by cases y <;> simp [pln, toD, PyData.eqv, eqv, b2i] at * <;> rfl
  | .str s, n, y, k, h1, h2 => by cases y <;> simp [pln, toD, PyData.eqv, eqv, tx_beq] at *
  | .tup xs, 0, y, k, h1, h2 => by simp [pln] at h1
  | .tup xs, n + 1, y, k, h1, h2 => by
    cases y with
    | tup ys =>
      cases k with
      | zero => simp [pln] at h2
      | succ k =>
        have := eqvs_toD xs n ys k (by simpa [pln] using h1) (by simpa [pln] using h2)
        simpa [toD, PyData.eqv, eqv] using this
    | _ => simp [pln, toD, PyData.eqv, eqv] at *
  | .lst xs, 0, y, k, h1, h2 => by simp [pln] at h1
  | .lst xs, n + 1, y, k, h1, h2 => by
    cases y with
    | lst ys =>
      cases k with
      | zero => simp [pln] at h2
      | succ k =>
        have := eqvs_toD xs n ys k (by simpa [pln] using h1) (by simpa [pln] using h2)
        simpa [toD, PyData.eqv, eqv] using this
    | _ => simp [pln, toD, PyData.eqv, eqv] at *
  | .dct _, n, y, k, h1, h2 => by simp [pln] at h1
  | .obj _ _, n, y, k, h1, h2 => by simp [pln] at h1
  | .cell _, n, y, k, h1, h2 => by simp [pln] at h1
  | .fn _, n, y, k, h1, h2 => by simp [pln] at h1
  | .scr _, n, y, k, h1, h2 => by simp [pln] at h1
termination_by structural x => x
theorem eqvs_toD : ∀ (xs : List IV) (n : Nat) (ys : List IV) (k : Nat), plns xs n = true → plns ys k = true → PyData.eqvAll (toDs xs) (toDs ys) = eqvs xs ys
  | [], n, ys, k, h1, h2 => by cases ys <;> simp [toDs, PyData.eqvAll, eqvs]
  | x :: r, n, ys, k, h1, h2 => by
    cases ys with
    | nil => simp [toDs, PyData.eqvAll, eqvs]
    | cons y q =>
      have a : pln x n = true ∧ plns r n = true := by simpa [plns] using h1
      have b : pln y k = true ∧ plns q k = true := by simpa [plns] using h2
      simp [toDs, PyData.eqvAll, eqvs, eqv_toD x n y k a.1 b.1, eqvs_toD r n q k a.2 b.2]
termination_by structural x => x
end
section
variable {G : Gi} {F : Hp} {m : List Addr} {H : Hp} {h : Cells}
mutual
theorem dp_of (c : Core G F m h H) : ∀ (x : IV) (n : Nat) (v : V), pln x n = true → Rp G F m x v → Dp G.K H v (toD x)
  | .non, n, v, _, r => by cases r; exact .non
  | .bl b, n, v, _, r => by cases r; exact .bl b
  | .int i, n, v, _, r => by cases r; exact .int i
  | .str s, n, v, _, r => by cases r; exact .str _
  | .tup xs, 0, v, p, r => by simp [pln] at p
  | .tup xs, n + 1, v, p, r => by
    cases r with
    | tup e l q => exact .tup (sqT_mono c.sub e) (dps_of c xs n _ (by simpa [pln] using p) ⟨l, q⟩)
  | .lst xs, 0, v, p, r => by simp [pln] at p
  | .lst xs, n + 1, v, p, r => by
    cases r with
    | lst e l q => exact .lst (SqL.of (c.sub _ _ e)) (dps_of c xs n _ (by simpa [pln] using p) ⟨l, q⟩)
  | .dct _, n, v, p, r => by simp [pln] at p
  | .obj _ _, n, v, p, r => by simp [pln] at p
  | .cell _, n, v, p, r => by simp [pln] at p
  | .fn _, n, v, p, r => by simp [pln] at p
  | .scr _, n, v, p, r => by simp [pln] at p
termination_by structural x => x
theorem dps_of (c : Core G F m h H) : ∀ (xs : List IV) (n : Nat) (vs : List V), plns xs n = true → RpL G F m xs vs → DpAll G.K H vs (toDs xs)
  | [], n, vs, _, r => by
    have : vs = [] := List.length_eq_zero_iff.mp (by simpa using r.1)
    subst this
    exact .nil
  | x :: q, n, vs, p, r => by
    have a : pln x n = true ∧ plns q n = true := by simpa [plns] using p
    cases vs with
    | nil => exact absurd r.1 (by simp)
    | cons v us => exact .cons (dp_of c x n v a.1 r.head) (dps_of c q n us a.2 r.tail)
termination_by structural x => x
end
theorem dps (c : Core G F m h H) {x : IV} {v : V} (p : pln x deepEq = true) (r : RpS G F m H x v) : Dp G.K H v (toD x) := by
  rcases r with r | ⟨a, xs, vs, rfl, rfl, hH, _, _, q⟩
  · exact dp_of c x _ v p r
  · exact .lst (SqL.of hH) (dps_of c xs 59 vs (by simpa [pln, deepEq] using p) q)
end

/-! ### the operations, one by one -/
theorem arity2 {p : Pr} {A : Ar} {x y : V} {H : Hp} {Q : VK} (k : rP A p [x, y] H Q) : ∃ F m h a b z, Core A.G F m h H ∧ RpS A.G F m H a x ∧ RpS A.G F m H b y ∧ pr p [a, b] h = some z ∧ ∀ F' m' H' v, Stp F F' m m' H H' → Core A.G F' m' h H' → Rp A.G F' m' z v → Q v H' := by
  obtain ⟨F, m, h, xs, z, c, r, e, q⟩ := k
  match xs, r with
  | [a, b], r => exact ⟨F, m, h, a, b, z, c, r.two.1, r.two.2, e, q⟩
  | [], r => exact absurd r.1 (by simp)
  | [_], r => exact absurd r.1 (by simp)
  | _ :: _ :: _ :: _, r => exact absurd r.1 (by simp)
theorem arity1 {p : Pr} {A : Ar} {x : V} {H : Hp} {Q : VK} (k : rP A p [x] H Q) : ∃ F m h a z, Core A.G F m h H ∧ RpS A.G F m H a x ∧ pr p [a] h = some z ∧ ∀ F' m' H' v, Stp F F' m m' H H' → Core A.G F' m' h H' → Rp A.G F' m' z v → Q v H' := by
  obtain ⟨F, m, h, xs, z, c, r, e, q⟩ := k
  match xs, r with
  | [a], r => exact ⟨F, m, h, a, z, c, r.one, e, q⟩
  | [], r => exact absurd r.1 (by simp)
  | _ :: _ :: _, r => exact absurd r.1 (by simp)
theorem pInt_inv {f : Int → Int → Option IV} {a b z : IV} (e : pInt f [a, b] = some z) : ∃ i j, a = .int i ∧ b = .int j ∧ f i j = some z := by
  cases a <;> cases b <;> simp [pInt] at e
  exact ⟨_, _, rfl, rfl, e⟩
theorem tx_append (s t : List Nat) : tx s ++ tx t = tx (s ++ t) := by
  show (⟨s.toArray ++ t.toArray⟩ : Str) = ⟨(s ++ t).toArray⟩
  simp
theorem szl_eq : szl = sizeLine := by rw [sizeLine_eq]; rfl
section
variable {X : Cx} {A : Ar}
theorem so_int {op : Operator} {p : Pr} {f : Int → Int → Option IV} {C : Int → Int → Prop} {g : Int → Int → Int} (hp : ∀ vs h, pr p vs h = pInt f vs) (hf : ∀ i j z, f i j = some z → C i j ∧ z = .int (g i j)) (ho : OpR X (binaryOp op) (rI C fun i j => .int (g i j))) : OpR X (binaryOp op) (rP2 A p) := by
  intro pins s σ H x y v u Q I rx ry k
  obtain ⟨F, m, h, a, b, z, c, r1, r2, e, q⟩ := arity2 k
  rw [hp] at e
  obtain ⟨i, j, rfl, rfl, e⟩ := pInt_inv e
  obtain ⟨hc, rfl⟩ := hf _ _ _ e
  cases rps_int r1
  cases rps_int r2
  exact ho pins s σ H _ _ v u Q I rx ry ⟨i, j, rfl, rfl, hc, fin0 c q (.int _)⟩
theorem so_cmp {op : CmpOp} {p : Pr} {g : Int → Int → Bool} (hp : ∀ vs h, pr p vs h = pInt (fun i j => some (.bl (g i j))) vs) (ho : OpR X (compareOp op) (rI0 fun i j => .bl (g i j))) : OpR X (compareOp op) (rP2 A p) := by
  intro pins s σ H x y v u Q I rx ry k
  obtain ⟨F, m, h, a, b, z, c, r1, r2, e, q⟩ := arity2 k
  rw [hp] at e
  obtain ⟨i, j, rfl, rfl, e⟩ := pInt_inv e
  cases e
  cases rps_int r1
  cases rps_int r2
  exact ho pins s σ H _ _ v u Q I rx ry ⟨i, j, rfl, rfl, fin0 c q (.bl _)⟩
theorem so_lt : OpR X (compareOp .Lt) (rP2 A .lt) := so_cmp (fun _ _ => rfl) op_lt
theorem so_le : OpR X (compareOp .LtE) (rP2 A .le) := so_cmp (fun _ _ => rfl) op_le
theorem so_gt : OpR X (compareOp .Gt) (rP2 A .gt) := so_cmp (fun _ _ => rfl) op_gt
theorem so_ge : OpR X (compareOp .GtE) (rP2 A .ge) := so_cmp (fun _ _ => rfl) op_ge
theorem so_sub : OpR X (binaryOp .Sub) (rP2 A .sub) := so_int (C := fun _ _ => True) (g := fun i j => i - j) (fun _ _ => rfl) (fun i j z e => by cases e; exact ⟨trivial, rfl⟩) (by
  intro pins s σ H x y v u Q I rx ry ⟨i, j, a, b, _, q⟩
  exact op_sub pins s σ H x y v u Q I rx ry ⟨i, j, a, b, q⟩)
theorem so_fdiv : OpR X (binaryOp .FloorDiv) (rP2 A .fdiv) := so_int (C := CDivW) (g := fun i j => i / j) (fun _ _ => rfl) (fun i j z e => by
  split at e
  · cases e; rename_i hc; exact ⟨hc, rfl⟩
  · cases e) op_fdivW
theorem so_mod : OpR X (binaryOp .Mod) (rP2 A .mod) := so_int (C := fun _ j => 0 < j) (g := fun i j => i % j) (fun _ _ => rfl) (fun i j z e => by
  split at e
  · cases e; rename_i hc; exact ⟨hc, rfl⟩
  · cases e) op_mod
theorem so_pow : OpR X (binaryOp .Pow) (rP2 A .pow) := so_int (C := CPow) (g := fun i j => i ^ j.toNat) (fun _ _ => rfl) (fun i j z e => by
  split at e
  · cases e; rename_i hc; exact ⟨hc, rfl⟩
  · cases e) op_pow
theorem so_add (hG : A.G.K = X.K) : OpR X (binaryOp .Add) (rP2 A .add) := by
  intro pins s σ H x y v u Q I rx ry k
  obtain ⟨F, m, h, a, b, z, c, r1, r2, e, q⟩ := arity2 k
  have e : pAdd [a, b] = some z := e
  cases a <;> cases b <;> simp only [pAdd] at e <;> try (cases e; done)
  · cases e
    cases rps_int r1
    cases rps_int r2
    exact op_add pins s σ H _ _ v u Q I rx ry ⟨_, _, rfl, rfl, fin0 c q (.int _)⟩
  · split at e
    · cases e
      rename_i hz
      cases rps_str r1
      cases rps_str r2
      refine op_add_str pins s σ H _ _ v u Q I rx ry ⟨_, _, rfl, rfl, by rw [tx_length, tx_length, ← szl_eq]; exact hz, ?_⟩
      rw [tx_append]
      exact fin0 c q (.str _)
    · cases e
  · split at e
    · cases e
      rename_i hz
      obtain ⟨a1, v1, rfl, h1, l1, f1⟩ := rps_tup c r1
      obtain ⟨a2, v2, rfl, h2, l2, f2⟩ := rps_tup c r2
      rw [hG] at h1 h2
      refine op_catA pins s σ H _ _ v u Q I rx ry ⟨a1, a2, v1, v2, rfl, rfl, h1, h2, by rw [l1.1, l2.1, ← szl_eq]; exact hz, fun e => ?_, fun _ e => ?_, fun _ _ p n => finT c q (l1.append l2) n⟩
      · subst e
        have e3 : _ = [] := List.length_eq_zero_iff.mp (by simpa using l1.1.symm)
        subst e3
        exact fin0 c q (.tup f2 l2.1 l2.2)
      · subst e
        have e3 : _ = [] := List.length_eq_zero_iff.mp (by simpa using l2.1.symm)
        subst e3
        rw [List.append_nil] at q
        exact fin0 c q (.tup f1 l1.1 l1.2)
    · cases e
  · split at e
    · cases e
      rename_i hz
      obtain ⟨a1, v1, rfl, h1, l1⟩ := rps_lst c r1
      obtain ⟨a2, v2, rfl, h2, l2⟩ := rps_lst c r2
      exact op_cat pins s σ H _ _ v u Q I rx ry ⟨a1, a2, v1, v2, rfl, rfl, h1, h2, by rw [l1.1, l2.1, ← szl_eq]; exact hz, fun p n => finL c q (l1.append l2) n⟩
    · cases e
end
end PI

set_option Elab.async false
set_option linter.all false
set_option maxRecDepth 100000
set_option maxHeartbeats 4000000
/-! PId: dicts compared with other things; further operations. -/
namespace PI
open PySem PySem.Calls PySem.Spec PyProof.Rows L2 PySem.SeqAt
open AutoSeq1 (wpAny_loadPart')
open MeetsSeq

section
variable {P : Program} {w : World} {A : Around} {E : Value → Shared → Prop} {s : Shared} {d l : Addr}
theorem dict_declines {u : Value} {T : String} {Q' : Value → Shared → Prop} (hd : s.TypeIs (.ref d) "dict") (hu : s.TypeIs u T) (hs : isSubtype (.type T) (.type "dict") = pure false) (hq : Q' .notImplemented s) :
    wpAny (model P w) A (PySem.call (.builtin "dict.__eq__") [.ref d, u]) Q' E s := by
  refine wpAny_call_entry F.slot_dict_eq hd F.entry_dict_eq ?_ (F.args_dict_eq_2 _ _)
  show wpAny _ _ (Builtin.Dict.dictSlotArgs "__eq__" ⟨[.ref d, u], []⟩ >>= _) _ _ s
  refine wpAny_bind ?_
  unfold Builtin.Dict.dictSlotArgs
  refine wpAny_bind (wpAny_notOrdered_dict hd ?_)
  refine wpAny_pure ?_
  refine wpAny_bind (wpAny_isInstance hu hs ?_)
  exact wpAny_bind (wpAny_rule (wpAny_bind (wpAny_pure (wpAny_pure ⟨_, rfl, hq⟩))))
theorem int_decl_dict (b : Int) (u : Tok) (l : Addr) (o : Obj) (hc : o.cls = .type "dict") (es : Array DictEntry) (ep : Nat) (hd : o.data = .dict es ep) :
    Meets (Builtin.«int.__eq__» ⟨[.int b u, .ref l], []⟩) (fun _ R s => s.heap.get? l = some o ∧ R (.ok (.ret .notImplemented)) s) :=
  .of_wp fun prog w A R s h => by
    obtain ⟨oc, od, dt, sl⟩ := o
    simp only at hc hd
    subst hc hd
    obtain ⟨hp, g, d, tk, os⟩ := s; obtain ⟨hl, h⟩ := h; wp_walk using wpAny_loadPart' hl, wpAny_load hl; exact ⟨_, rfl, h⟩
theorem bool_decl_dict (b : Bool) (l : Addr) (o : Obj) (hc : o.cls = .type "dict") (es : Array DictEntry) (ep : Nat) (hd : o.data = .dict es ep) :
    Meets (Builtin.«int.__eq__» ⟨[.bool b, .ref l], []⟩) (fun _ R s => s.heap.get? l = some o ∧ R (.ok (.ret .notImplemented)) s) :=
  .of_wp fun prog w A R s h => by
    obtain ⟨oc, od, dt, sl⟩ := o
    simp only at hc hd
    subst hc hd
    obtain ⟨hp, g, d, tk, os⟩ := s; obtain ⟨hl, h⟩ := h; wp_walk using wpAny_loadPart' hl, wpAny_load hl; exact ⟨_, rfl, h⟩
theorem str_decl_dict (b : Str) (u : Tok) (l : Addr) (o : Obj) (hc : o.cls = .type "dict") (es : Array DictEntry) (ep : Nat) (hd : o.data = .dict es ep) :
    Meets (Builtin.«str.__eq__» ⟨[.str b u, .ref l], []⟩) (fun _ R s => s.heap.get? l = some o ∧ R (.ok (.ret .notImplemented)) s) :=
  .of_wp fun prog w A R s h => by
    obtain ⟨oc, od, dt, sl⟩ := o
    simp only at hc hd
    subst hc hd
    obtain ⟨hp, g, d, tk, os⟩ := s; obtain ⟨hl, h⟩ := h; wp_walk using wpAny_loadPart' hl, wpAny_load hl; exact ⟨_, rfl, h⟩
theorem list_decl_dict (l b : Addr) (items : Array Value) (n : Nat) (dd : Option Addr) (sl : Array (Option Value)) (o : Obj) (hc : o.cls = .type "dict") (es : Array DictEntry) (ep : Nat) (hd : o.data = .dict es ep) :
    Meets (Builtin.«list.__eq__» ⟨[.ref l, .ref b], []⟩) (fun _ R s => s.heap.get? l = some { cls := .type "list", dict := dd, data := .seq items n, slots := sl } ∧ s.heap.get? b = some o ∧ R (.ok (.ret .notImplemented)) s) :=
  .of_wp fun prog w A R s h => by
    obtain ⟨oc, od, dt, sl⟩ := o
    simp only at hc hd
    subst hc hd
    obtain ⟨hp, g, d, tk, os⟩ := s; obtain ⟨hl, hb, h⟩ := h; have f1 := F.sub_dict_list; wp_walk using wpAny_loadPart' hl, wpAny_loadPart' hb; exact ⟨_, rfl, h⟩
theorem tuple_decl_dict (l b : Addr) (items : Array Value) (n : Nat) (dd : Option Addr) (sl : Array (Option Value)) (o : Obj) (hc : o.cls = .type "dict") (es : Array DictEntry) (ep : Nat) (hd : o.data = .dict es ep) :
    Meets (Builtin.«tuple.__eq__» ⟨[.ref l, .ref b], []⟩) (fun _ R s => s.heap.get? l = some { cls := .type "tuple", dict := dd, data := .seq items n, slots := sl } ∧ s.heap.get? b = some o ∧ R (.ok (.ret .notImplemented)) s) :=
  .of_wp fun prog w A R s h => by
    obtain ⟨oc, od, dt, sl⟩ := o
    simp only at hc hd
    subst hc hd
    obtain ⟨hp, g, d, tk, os⟩ := s; obtain ⟨hl, hb, h⟩ := h; have f1 := F.sub_dict_tuple; wp_walk using wpAny_loadPart' hl, wpAny_loadPart' hb; exact ⟨_, rfl, h⟩
end

section
variable {X : Cx} {A : Ar} {pins : List (Addr × Obj)} {σ : L2.St} {H : Hp} {s : Shared}
theorem dk_obj (I : Inv X pins σ H s) {a : Addr} {ds : List (Key × V)} (e : ∃ o, H a = some (.frz o (.dK ds))) : ∃ (o : Obj) (es : Array DictEntry) (ep : Nat), s.heap.get? a = some o ∧ o.cls = .type "dict" ∧ o.data = .dict es ep := by
  obtain ⟨ob, e⟩ := e
  obtain ⟨_, _, vs, _, o, es, ep, h1, h2, h3, _⟩ := (show ObjOk X.prog X.w H s.heap a (.dK ds) from (show ObjOk X.prog X.w H s.heap a (.frz ob (.dK ds)) from I.hok a _ e).2)
  exact ⟨o, es, ep, h1, h2.1, h3⟩
theorem ne_addr {h : Heap} {a b : Addr} {o u : Obj} (h1 : h.get? a = some o) (h2 : h.get? b = some u) (hc : o.cls ≠ u.cls) : a ≠ b := fun e => by
  subst e
  rw [h1] at h2
  cases h2
  exact hc rfl
/-- a value's kind, as the machine has it -/
inductive Shp (K : PySem.W.Frag) (H : Hp) : V → Nat → Prop where
  | non : Shp K H .non 1
  | bl (b : Bool) : Shp K H (.bl b) 2
  | int (i : Int) : Shp K H (.int i) 3
  | str (x : Str) : Shp K H (.str x) 4
  | tup {a : Addr} {vs : List V} : SqT K H a vs → Shp K H (.ref a) 5
  | lst {a : Addr} {vs : List V} : SqL K H a vs → Shp K H (.ref a) 6
theorem shp_of {A : Ar} {F : Hp} {m : List Addr} {h : Cells} (c : Core A.G F m h H) {a : IV} {x : V} (r : RpS A.G F m H a x) (k0 : kd a ≠ 0) (k7 : kd a ≠ 7) : Shp A.G.K H x (kd a) := by
  cases a with
  | non => cases rps_non r; exact .non
  | bl b => cases rps_bl r; exact .bl b
  | int i => cases rps_int r; exact .int i
  | str s => cases rps_str r; exact .str _
  | tup xs => obtain ⟨a1, v1, rfl, h1, _⟩ := rps_tup c r; exact .tup h1
  | lst xs => obtain ⟨a1, v1, rfl, h1, _⟩ := rps_lst c r; exact .lst (SqL.of h1)
  | dct _ => exact absurd rfl k7
  | odd _ => exact absurd rfl k0
  | obj _ _ => exact absurd rfl k0
  | cell _ => exact absurd rfl k0
  | fn _ => exact absurd rfl k0
  | scr _ => exact absurd rfl k0
/-- a dict is no other kind of data -/
theorem dict_other (I : Inv X pins σ H s) (hu : X.A.units < cLine) {a : Addr} {ds : List (Key × V)} (e : ∃ o, H a = some (.frz o (.dK ds))) {kn : Nat} {y : V} {u : Value} (hd : Shp X.K H y kn) (ry : RelV y u) {E0 Q : Value → Shared → Prop} (q : Q (.bool false) s) :
    wpAny (model X.prog X.w) X.A (richCompare .Eq (.ref a) u) Q E0 s ∧ wpAny (model X.prog X.w) X.A (richCompare .Eq u (.ref a)) Q E0 s := by
  obtain ⟨o, es, ep, ho, hc, hdt⟩ := dk_obj I e
  have td : s.TypeIs (.ref a) "dict" := ⟨o, ho, hc⟩
  cases hd with
  | non =>
    cases ry
    have nd : ∀ Q' : Value → Shared → Prop, Q' .notImplemented s → wpAny (model X.prog X.w) X.A (PySem.call (.builtin "NoneType.__eq__") [.none, .ref a]) Q' E0 s := fun Q' hq => call_gives F.slot_NoneType_eq rfl F.entry_NoneType_eq (F.args_NoneType_eq_2 _ _) (NoneType___eq___none_ref_0 a) hq
    exact ⟨rc_eq_decline_or (k := false) td rfl (by decide) F.sub_NoneType_dict F.slot_dict_eq F.slot_NoneType_eq_refl (fun _ hq => dict_declines (T := "NoneType") td rfl F.sub_NoneType_dict hq) nd (fun _ hq => wpAny_of_eq (rfl : isSame (.ref a) .none = pure false) hq) (.inr hu) q,
      rc_eq_decline_or (k := false) rfl td (by decide) F.sub_dict_NoneType F.slot_NoneType_eq F.slot_dict_eq_refl nd (fun _ hq => dict_declines (T := "NoneType") td rfl F.sub_NoneType_dict hq) (fun _ hq => wpAny_of_eq (rfl : isSame .none (.ref a) = pure false) hq) (.inr hu) q⟩
  | bl b =>
    cases ry
    have nd : ∀ Q' : Value → Shared → Prop, Q' .notImplemented s → wpAny (model X.prog X.w) X.A (PySem.call (.builtin "int.__eq__") [.bool b, .ref a]) Q' E0 s := fun Q' hq => call_meets F.slot_bool_eq (PySem.typeIs_bool s b) F.entry_int_eq (F.args_int_eq_2 _ _) (bool_decl_dict b a o hc es ep hdt) ⟨ho, hq⟩
    exact ⟨rc_eq_decline_or (k := false) td (PySem.typeIs_bool s b) (by decide) F.sub_bool_dict F.slot_dict_eq F.slot_bool_eq_refl (fun _ hq => dict_declines td (PySem.typeIs_bool s b) F.sub_bool_dict hq) nd (fun _ hq => wpAny_of_eq (rfl : isSame (.ref a) (.bool b) = pure false) hq) (.inr hu) q,
      rc_eq_decline_or (k := false) (PySem.typeIs_bool s b) td (by decide) F.sub_dict_bool F.slot_bool_eq F.slot_dict_eq_refl nd (fun _ hq => dict_declines td (PySem.typeIs_bool s b) F.sub_bool_dict hq) (fun _ hq => wpAny_of_eq (rfl : isSame (.bool b) (.ref a) = pure false) hq) (.inr hu) q⟩
  | int i =>
    obtain ⟨t, rfl⟩ := ry
    have nd : ∀ Q' : Value → Shared → Prop, Q' .notImplemented s → wpAny (model X.prog X.w) X.A (PySem.call (.builtin "int.__eq__") [.int i t, .ref a]) Q' E0 s := fun Q' hq => call_meets F.slot_int_eq (typeIs_int s i t) F.entry_int_eq (F.args_int_eq_2 _ _) (int_decl_dict i t a o hc es ep hdt) ⟨ho, hq⟩
    exact ⟨rc_eq_decline_or (k := false) td (typeIs_int s i t) (by decide) F.sub_int_dict F.slot_dict_eq F.slot_int_eq_refl (fun _ hq => dict_declines td (typeIs_int s i t) F.sub_int_dict hq) nd (fun _ hq => wpAny_of_eq (rfl : isSame (.ref a) (.int i t) = pure false) hq) (.inr hu) q,
      rc_eq_decline_or (k := false) (typeIs_int s i t) td (by decide) F.sub_dict_int F.slot_int_eq F.slot_dict_eq_refl nd (fun _ hq => dict_declines td (typeIs_int s i t) F.sub_int_dict hq) (fun _ hq => wpAny_of_eq (rfl : isSame (.int i t) (.ref a) = pure false) hq) (.inr hu) q⟩
  | str x =>
    obtain ⟨t, rfl⟩ := ry
    have nd : ∀ Q' : Value → Shared → Prop, Q' .notImplemented s → wpAny (model X.prog X.w) X.A (PySem.call (.builtin "str.__eq__") [.str x t, .ref a]) Q' E0 s := fun Q' hq => call_meets F.slot_str_eq (typeIs_str s x t) F.entry_str_eq (F.args_str_eq_2 _ _) (str_decl_dict x t a o hc es ep hdt) ⟨ho, hq⟩
    exact ⟨rc_eq_decline_or (k := false) td (typeIs_str s x t) (by decide) F.sub_str_dict F.slot_dict_eq F.slot_str_eq_refl (fun _ hq => dict_declines td (typeIs_str s x t) F.sub_str_dict hq) nd (fun _ hq => wpAny_of_eq (rfl : isSame (.ref a) (.str x t) = pure false) hq) (.inr hu) q,
      rc_eq_decline_or (k := false) (typeIs_str s x t) td (by decide) F.sub_dict_str F.slot_str_eq F.slot_dict_eq_refl nd (fun _ hq => dict_declines td (typeIs_str s x t) F.sub_str_dict hq) (fun _ hq => wpAny_of_eq (rfl : isSame (.str x t) (.ref a) = pure false) hq) (.inr hu) q⟩
  | lst hs =>
    cases ry
    obtain ⟨its, _, p, _⟩ := I.list hs
    obtain ⟨⟨cls, dd, data, sl⟩, ho2, hc2, n2, hd2⟩ := p.isList
    simp only at hc2 hd2
    subst hc2 hd2
    have tl : s.TypeIs (.ref _) "list" := ⟨_, ho2, rfl⟩
    have hne := ne_addr ho ho2 (by rw [hc]; simp)
    have nd : ∀ Q' : Value → Shared → Prop, Q' .notImplemented s → wpAny (model X.prog X.w) X.A (PySem.call (.builtin "list.__eq__") [.ref _, .ref a]) Q' E0 s := fun Q' hq => call_meets F.slot_list_eq tl F.entry_list_eq (F.args_list_eq_2 _ _) (list_decl_dict _ a _ n2 dd sl o hc es ep hdt) ⟨ho2, ho, hq⟩
    exact ⟨rc_eq_decline_or (k := false) td tl (by decide) F.sub_list_dict F.slot_dict_eq F.slot_list_eq_refl (fun _ hq => dict_declines td tl F.sub_list_dict hq) nd (fun _ hq => wpAny_isSame_ref_other' hne ho ho2 (by simp) hq) (.inr hu) q,
      rc_eq_decline_or (k := false) tl td (by decide) F.sub_dict_list F.slot_list_eq F.slot_dict_eq_refl nd (fun _ hq => dict_declines td tl F.sub_list_dict hq) (fun _ hq => wpAny_isSame_ref_other' hne.symm ho2 ho (by rw [hc]; decide) hq) (.inr hu) q⟩
  | tup hs =>
    cases ry
    obtain ⟨its, _, p, _⟩ := I.tuple hs
    obtain ⟨⟨cls, dd, data, sl⟩, ho2, hc2, n2, hd2⟩ := p
    simp only at hc2 hd2
    subst hc2 hd2
    have tl : s.TypeIs (.ref _) "tuple" := ⟨_, ho2, rfl⟩
    have hne := ne_addr ho ho2 (by rw [hc]; simp)
    have nd : ∀ Q' : Value → Shared → Prop, Q' .notImplemented s → wpAny (model X.prog X.w) X.A (PySem.call (.builtin "tuple.__eq__") [.ref _, .ref a]) Q' E0 s := fun Q' hq => call_meets F.slot_tuple_eq tl F.entry_tuple_eq (F.args_tuple_eq_2 _ _) (tuple_decl_dict _ a _ n2 dd sl o hc es ep hdt) ⟨ho2, ho, hq⟩
    exact ⟨rc_eq_decline_or (k := false) td tl (by decide) F.sub_tuple_dict F.slot_dict_eq F.slot_tuple_eq_refl (fun _ hq => dict_declines td tl F.sub_tuple_dict hq) nd (fun _ hq => wpAny_isSame_ref_other hne ho ho2 (by rw [hc]; decide) hq) (.inr hu) q,
      rc_eq_decline_or (k := false) tl td (by decide) F.sub_dict_tuple F.slot_tuple_eq F.slot_dict_eq_refl nd (fun _ hq => dict_declines td tl F.sub_tuple_dict hq) (fun _ hq => wpAny_isSame_ref_other' hne.symm ho2 ho (by rw [hc]; decide) hq) (.inr hu) q⟩

/-- the library's word on two kinds -/
theorem shp_ne (I : Inv X pins σ H s) (hu : X.A.units + 64 < cLine) {x y : V} {v u : Value} {i j : Nat} (h1 : Shp X.K H x i) (h2 : Shp X.K H y j) (rx : RelV x v) (ry : RelV y u) (hij : i ≠ j) (h3 : ¬ (i ≤ 3 ∧ j ≤ 3)) : RcAt X.A s v u false := by
  have h0 : X.A.units < cLine := by omega
  cases h1 with
  | non =>
    cases rx
    cases h2 with
    | non => exact absurd rfl hij
    | bl b => exact absurd ⟨by decide, by decide⟩ h3
    | int k => exact absurd ⟨by decide, by decide⟩ h3
    | str z => obtain ⟨t, rfl⟩ := ry; exact RcAt.none_str z t
    | tup hs => cases ry; obtain ⟨_, _, p, _⟩ := I.tuple hs; exact RcAt.none_tuple p h0
    | lst hs => cases ry; obtain ⟨_, _, p, _⟩ := I.list hs; exact RcAt.none_list p.isList h0
  | bl b =>
    cases rx
    cases h2 with
    | non => exact absurd ⟨by decide, by decide⟩ h3
    | bl b => exact absurd rfl hij
    | int k => exact absurd ⟨by decide, by decide⟩ h3
    | str z => obtain ⟨t, rfl⟩ := ry; exact RcAt.bool_str b z t
    | tup hs => cases ry; obtain ⟨_, _, p, _⟩ := I.tuple hs; exact RcAt.bool_tuple b p h0
    | lst hs => cases ry; obtain ⟨_, _, p, _⟩ := I.list hs; exact RcAt.bool_list b p.isList h0
  | int k =>
    obtain ⟨t1, rfl⟩ := rx
    cases h2 with
    | non => exact absurd ⟨by decide, by decide⟩ h3
    | bl b => exact absurd ⟨by decide, by decide⟩ h3
    | int k => exact absurd rfl hij
    | str z => obtain ⟨t, rfl⟩ := ry; exact RcAt.int_str k t1 z t
    | tup hs => cases ry; obtain ⟨_, _, p, _⟩ := I.tuple hs; exact RcAt.int_tuple k t1 p h0
    | lst hs => cases ry; obtain ⟨_, _, p, _⟩ := I.list hs; exact RcAt.int_list k t1 p.isList h0
  | str x =>
    obtain ⟨t1, rfl⟩ := rx
    cases h2 with
    | non => cases ry; exact RcAt.str_none x t1
    | bl b => cases ry; exact RcAt.str_bool x t1 b
    | int k => obtain ⟨t, rfl⟩ := ry; exact RcAt.str_int x t1 k t
    | str z => exact absurd rfl hij
    | tup hs => cases ry; obtain ⟨_, _, p, _⟩ := I.tuple hs; exact RcAt.str_tuple x t1 p h0
    | lst hs => cases ry; obtain ⟨_, _, p, _⟩ := I.list hs; exact RcAt.str_list x t1 p.isList h0
  | tup hs =>
    cases rx
    obtain ⟨_, _, p1, _⟩ := I.tuple hs
    cases h2 with
    | non => cases ry; exact RcAt.tuple_none p1 h0
    | bl b => cases ry; exact RcAt.tuple_bool b p1 h0
    | int k => obtain ⟨t, rfl⟩ := ry; exact RcAt.tuple_int k t p1 h0
    | str z => obtain ⟨t, rfl⟩ := ry; exact RcAt.tuple_str z t p1 h0
    | tup hs => exact absurd rfl hij
    | lst hs => cases ry; obtain ⟨_, _, p, _⟩ := I.list hs; exact RcAt.tuple_list p1 p.isList h0
  | lst hs =>
    cases rx
    obtain ⟨_, _, p1, _⟩ := I.list hs
    cases h2 with
    | non => cases ry; exact RcAt.list_none p1.isList h0
    | bl b => cases ry; exact RcAt.list_bool b p1.isList h0
    | int k => obtain ⟨t, rfl⟩ := ry; exact RcAt.list_int k t p1.isList h0
    | str z => obtain ⟨t, rfl⟩ := ry; exact RcAt.list_str z t p1.isList h0
    | tup hs => cases ry; obtain ⟨_, _, p, _⟩ := I.tuple hs; exact RcAt.list_tuple p1.isList p h0
    | lst hs => exact absurd rfl hij

/-! ### ==, != -/
theorem min_le {a b n : Nat} (h : a ≤ n) : min a b ≤ n := Nat.le_trans (Nat.min_le_left _ _) h
theorem eq_plain2 (hG : A.G.K = X.K) (I : Inv X pins σ H s) (hu : X.A.units + 64 < cLine) {F : Hp} {m : List Addr} {h : Cells} {a b : IV} {x y : V} {v u : Value} {Q E0 : Value → Shared → Prop} (c : Core A.G F m h H) (r1 : RpS A.G F m H a x) (r2 : RpS A.G F m H b y) (rx : RelV x v) (ry : RelV y u)
    (pa : pln a deepEq = true) (pb : pln b deepEq = true) (q : Q (.bool (eqv a b)) s) : wpAny (model X.prog X.w) X.A (compareOp .Eq v u) Q E0 s := by
  have d1 := dps c pa r1
  have d2 := dps c pb r2
  rw [hG] at d1 d2
  obtain ⟨as, e1⟩ := Dp.reads I _ x v d1 rx
  obtain ⟨bs, e2⟩ := Dp.reads I _ y u d2 ry
  have l1 := toD_lay a _ pa
  have l2 := toD_lay b _ pb
  refine SeqAt.eq_plain e1 e2 l1.1 l2.1 ?_ (by rw [eqv_toD a _ b _ pa pb]; exact q)
  have := min_le (b := (toD b).depth) l1.2
  unfold deepEq at this
  omega
theorem ne_plain2 (hG : A.G.K = X.K) (I : Inv X pins σ H s) (hu : X.A.units + 64 < cLine) {F : Hp} {m : List Addr} {h : Cells} {a b : IV} {x y : V} {v u : Value} {Q E0 : Value → Shared → Prop} (c : Core A.G F m h H) (r1 : RpS A.G F m H a x) (r2 : RpS A.G F m H b y) (rx : RelV x v) (ry : RelV y u)
    (pa : pln a deepEq = true) (pb : pln b deepEq = true) (q : Q (.bool (!eqv a b)) s) : wpAny (model X.prog X.w) X.A (compareOp .NotEq v u) Q E0 s := by
  have d1 := dps c pa r1
  have d2 := dps c pb r2
  rw [hG] at d1 d2
  obtain ⟨as, e1⟩ := Dp.reads I _ x v d1 rx
  obtain ⟨bs, e2⟩ := Dp.reads I _ y u d2 ry
  have l1 := toD_lay a _ pa
  have l2 := toD_lay b _ pb
  refine SeqAt.ne_plain e1 e2 l1.1 l2.1 ?_ (by rw [eqv_toD a _ b _ pa pb]; exact q)
  have := min_le (b := (toD b).depth) l1.2
  unfold deepEq at this
  omega
theorem dict_dict (I : Inv X pins σ H s) (hu : X.A.units < cLine) {a b : Addr} {ks ls : List (Key × V)} (e1 : ∃ o, H a = some (.frz o (.dK ks))) (e2 : ∃ o, H b = some (.frz o (.dK ls))) (hz : ks.length ≠ ls.length ∨ ks.length = 0) {Q E0 : Value → Shared → Prop} :
    (Q (.bool (ks.length == ls.length)) s → wpAny (model X.prog X.w) X.A (compareOp .Eq (.ref a) (.ref b)) Q E0 s) ∧ (Q (.bool (!(ks.length == ls.length))) s → wpAny (model X.prog X.w) X.A (compareOp .NotEq (.ref a) (.ref b)) Q E0 s) := by
  obtain ⟨oa, e1⟩ := e1
  obtain ⟨ob, e2⟩ := e2
  obtain ⟨_, ya, va, ra, da⟩ := (show ObjOk X.prog X.w H s.heap a (.dK ks) from (show ObjOk X.prog X.w H s.heap a (.frz oa (.dK ks)) from I.hok a _ e1).2)
  obtain ⟨_, yb, vb, rb, db⟩ := (show ObjOk X.prog X.w H s.heap b (.dK ls) from (show ObjOk X.prog X.w H s.heap b (.frz ob (.dK ls)) from I.hok b _ e2).2)
  have la : ks.length = va.length := Paired.length ra
  have lb : ls.length = vb.length := Paired.length rb
  have hits : va.length = vb.length → PySem.W.KeqHits X.A.in1 s vb va true := fun e => by
    have : va = [] := List.length_eq_zero_iff.mp (by omega)
    subst this
    exact .nil
  have e : (va.length == vb.length && true) = (ks.length == ls.length) := by rw [la, lb, Bool.and_true]
  exact ⟨fun q => PySem.W.keq_eq ya yb da db hu hits (by rw [e]; exact q), fun q => PySem.W.keq_ne ya yb da db hu hits (by rw [e]; exact q)⟩
/-- lists of unlike lengths -/
theorem lsts_len (I : Inv X pins σ H s) (hu : X.A.units < cLine) {a b : Addr} {xs ys : List V} (e1 : H a = some (.lst xs)) (e2 : H b = some (.lst ys)) (hz : xs.length ≠ ys.length) {Q E0 : Value → Shared → Prop} :
    (Q (.bool false) s → wpAny (model X.prog X.w) X.A (compareOp .Eq (.ref a) (.ref b)) Q E0 s) ∧ (Q (.bool true) s → wpAny (model X.prog X.w) X.A (compareOp .NotEq (.ref a) (.ref b)) Q E0 s) := by
  obtain ⟨i1, v1, p1, _⟩ := I.list (SqL.of e1)
  obtain ⟨i2, v2, p2, _⟩ := I.list (SqL.of e2)
  have hn : (i1.toArray.size != i2.toArray.size) = true := by
    have a1 := v1.length
    have a2 := v2.length
    simp only [List.size_toArray, bne_iff_ne, ne_eq]
    omega
  exact ⟨fun q => RcAt.lists_lengths p1.isList p2.isList hn hu _ _ _ _ q, fun q => RcNeAt.lists_lengths p1.isList p2.isList hn hu _ _ _ _ q⟩
theorem so_eq (hG : A.G.K = X.K) (hu : X.A.units + 64 < cLine) : OpR X (compareOp .Eq) (rP2 A .eq) := by
  intro pins s σ H x y v u Q I rx ry k
  obtain ⟨F, m, h, a, b, z, c, r1, r2, e, q⟩ := arity2 k
  have e : (eqo a b).map IV.bl = some z := e
  obtain ⟨t, et, rfl⟩ := Option.map_eq_some_iff.mp e
  have hu1 : X.A.units < cLine := by omega
  unfold eqo at et
  split at et
  · rename_i hp
    obtain ⟨pa, pb⟩ := Bool.and_eq_true_iff.mp hp
    cases et
    exact eq_plain2 hG I hu c r1 r2 rx ry pa pb ⟨.bl _, H, I, rfl, fin0 c q (.bl (eqv a b))⟩
  · split at et
    · rename_i hk
      cases et
      unfold kdNe at hk
      simp only [Bool.and_eq_true, bne_iff_ne, ne_eq, Bool.not_eq_true', Bool.and_eq_false_iff, decide_eq_false_iff_not] at hk
      obtain ⟨⟨⟨k1, k2⟩, k3⟩, k4⟩ := hk
      by_cases k5 : kd a = 7
      · have k6 : kd b ≠ 7 := fun z => k3 (k5.trans z.symm)
        have h2 := shp_of c r2 k2 k6
        rw [hG] at h2
        cases a <;> try (simp [kd] at k5; done)
        obtain ⟨a1, d1, rfl, h1, l1⟩ := rps_dct c r1
        cases rx
        exact (dict_other I hu1 h1 h2 ry ⟨.bl _, H, I, rfl, fin0 c q (.bl _)⟩).1
      · have h1 := shp_of c r1 k1 k5
        rw [hG] at h1
        by_cases k6 : kd b = 7
        · cases b <;> try (simp [kd] at k6; done)
          obtain ⟨a1, d1, rfl, h2, l1⟩ := rps_dct c r2
          cases ry
          exact (dict_other I hu1 h2 h1 rx ⟨.bl _, H, I, rfl, fin0 c q (.bl _)⟩).2
        · have h2 := shp_of c r2 k2 k6
          rw [hG] at h2
          exact shp_ne I hu h1 h2 rx ry k3 (fun z => k4.elim (fun y => y z.1) fun y => y z.2) _ _ _ _ ⟨.bl _, H, I, rfl, fin0 c q (.bl _)⟩
    · split at et
      · rename_i ks ls
        obtain ⟨a1, d1, rfl, h1, l1⟩ := rps_dct c r1
        obtain ⟨a2, d2, rfl, h2, l2⟩ := rps_dct c r2
        cases rx
        cases ry
        split at et
        · rename_i hz
          cases et
          refine (dict_dict I hu1 h1 h2 (.inl (by omega))).1 ⟨.bl _, H, I, rfl, ?_⟩
          rw [show (d1.length == d2.length) = false from by simp; omega]
          exact fin0 c q (.bl _)
        · split at et
          · rename_i hz hz2
            cases et
            refine (dict_dict I hu1 h1 h2 (.inr (by omega))).1 ⟨.bl _, H, I, rfl, ?_⟩
            rw [show (d1.length == d2.length) = true from by simp; omega]
            exact fin0 c q (.bl _)
          · cases et
      · rename_i xs ys
        split at et
        · rename_i hz
          cases et
          obtain ⟨a1, v1, rfl, h1, l1⟩ := rps_lst c r1
          obtain ⟨a2, v2, rfl, h2, l2⟩ := rps_lst c r2
          cases rx
          cases ry
          exact (lsts_len I hu1 h1 h2 (by rw [l1.1, l2.1]; exact hz)).1 ⟨.bl _, H, I, rfl, fin0 c q (.bl _)⟩
        · cases et
      · cases et

theorem so_ne (hG : A.G.K = X.K) (hu : X.A.units + 64 < cLine) : OpR X (compareOp .NotEq) (rP2 A .ne) := by
  intro pins s σ H x y v u Q I rx ry k
  obtain ⟨F, m, h, a, b, z, c, r1, r2, e, q⟩ := arity2 k
  have e : (neo a b).map IV.bl = some z := e
  obtain ⟨t, et, rfl⟩ := Option.map_eq_some_iff.mp e
  have hu1 : X.A.units < cLine := by omega
  unfold neo at et
  split at et
  · rename_i hp
    obtain ⟨pa, pb⟩ := Bool.and_eq_true_iff.mp hp
    cases et
    exact ne_plain2 hG I hu c r1 r2 rx ry pa pb ⟨.bl _, H, I, rfl, fin0 c q (.bl _)⟩
  · split at et
    · obtain ⟨a1, d1, rfl, h1, l1⟩ := rps_dct c r1
      obtain ⟨a2, d2, rfl, h2, l2⟩ := rps_dct c r2
      cases rx
      cases ry
      split at et
      · rename_i hz
        cases et
        refine (dict_dict I hu1 h1 h2 (.inl (by omega))).2 ⟨.bl _, H, I, rfl, ?_⟩
        rw [show (!(d1.length == d2.length)) = true from by simp; omega]
        exact fin0 c q (.bl _)
      · split at et
        · rename_i hz hz2
          cases et
          refine (dict_dict I hu1 h1 h2 (.inr (by omega))).2 ⟨.bl _, H, I, rfl, ?_⟩
          rw [show (!(d1.length == d2.length)) = false from by simp; omega]
          exact fin0 c q (.bl _)
        · cases et
    · split at et
      · rename_i hz
        cases et
        obtain ⟨a1, v1, rfl, h1, l1⟩ := rps_lst c r1
        obtain ⟨a2, v2, rfl, h2, l2⟩ := rps_lst c r2
        cases rx
        cases ry
        exact (lsts_len I hu1 h1 h2 (by rw [l1.1, l2.1]; exact hz)).2 ⟨.bl _, H, I, rfl, fin0 c q (.bl _)⟩
      · cases et
    · cases et
end
end PI

set_option Elab.async false
set_option linter.all false
set_option maxRecDepth 100000
set_option maxHeartbeats 4000000
/-! PIe: further operations. -/
namespace PI
open PySem PySem.Calls PySem.Spec PyProof.Rows L2

theorem RpL.flat {G : Gi} {F : Hp} {m : List Addr} {xs : List IV} {vs : List V} (r : RpL G F m xs vs) : ∀ k : Nat, RpL G F m (List.replicate k xs).flatten (List.replicate k vs).flatten
  | 0 => by simpa using RpL.nil
  | k + 1 => by
    rw [List.replicate_succ, List.replicate_succ, List.flatten_cons, List.flatten_cons]
    exact r.append (r.flat k)
theorem tx_mul (s : List Nat) {j : Int} (h : Txt.mul (tx s) j = (if j < 1 then Str.empty else if (j == 1 || (tx s).length == 0) = true then tx s else ⟨(List.replicate j.toNat (tx s).cps).foldl (· ++ ·) #[]⟩)) : Txt.mul (tx s) j = tx (List.replicate j.toNat s).flatten := by
  rw [h]
  split
  · rename_i h1
    have : j.toNat = 0 := by omega
    rw [this]
    rfl
  · split
    · rename_i h1 h2
      rcases Bool.or_eq_true_iff.mp h2 with h3 | h3
      · have : j = 1 := by simpa using h3
        subst this
        simp
      · have : s = [] := by
          have := eq_of_beq h3
          rw [tx_length] at this
          exact List.length_eq_zero_iff.mp this
        subst this
        have : ∀ k : Nat, (List.replicate k ([] : List Nat)).flatten = [] := fun k => by induction k with
          | zero => rfl
          | succ k ih => rw [List.replicate_succ, List.flatten_cons, ih]; rfl
        rw [this]
    · have key : ∀ (k : Nat) (acc : List Nat), (List.replicate k s.toArray).foldl (· ++ ·) acc.toArray = (acc ++ (List.replicate k s).flatten).toArray := fun k => by
        induction k with
        | zero => intro acc; simp
        | succ k ih =>
          intro acc
          rw [List.replicate_succ, List.foldl_cons, List.replicate_succ, List.flatten_cons, ← List.append_assoc, ← ih (acc ++ s)]
          simp
      have := key j.toNat []
      simp only [List.nil_append] at this
      show (⟨(List.replicate j.toNat s.toArray).foldl (· ++ ·) #[]⟩ : Str) = _
      rw [this]
      rfl
mutual
theorem pln_succ : ∀ (x : IV) (n : Nat), pln x n = true → pln x (n + 1) = true
  | .non, _, _ => rfl
  | .bl _, _, _ => rfl
  | .int _, _, _ => rfl
  | .str _, _, _ => rfl
  | .tup xs, 0, h => by simp [pln] at h
  | .tup xs, n + 1, h => by simpa [pln] using plns_succ xs n (by simpa [pln] using h)
  | .lst xs, 0, h => by simp [pln] at h
  | .lst xs, n + 1, h => by simpa [pln] using plns_succ xs n (by simpa [pln] using h)
  | .dct _, n, h => by simp [pln] at h
  | .obj _ _, n, h => by simp [pln] at h
  | .cell _, n, h => by simp [pln] at h
  | .fn _, n, h => by simp [pln] at h
  | .scr _, n, h => by simp [pln] at h
termination_by structural x => x
theorem plns_succ : ∀ (xs : List IV) (n : Nat), plns xs n = true → plns xs (n + 1) = true
  | [], _, _ => rfl
  | x :: r, n, h => by
    have b : pln x n = true ∧ plns r n = true := by simpa [plns] using h
    simp [plns, pln_succ x n b.1, plns_succ r n b.2]
termination_by structural x => x
end
section
variable {X : Cx} {A : Ar}
theorem so_mul : OpR X (binaryOp .Mult) (rP2 A .mul) := by
  intro pins s σ H x y v u Q I rx ry k
  obtain ⟨F, m, h, a, b, z, c, r1, r2, e, q⟩ := arity2 k
  have e : pMul [a, b] = some z := e
  cases a <;> cases b <;> simp only [pMul] at e <;> try (cases e; done)
  · split at e
    · cases e
      rename_i hz
      cases rps_int r1
      cases rps_int r2
      refine op_mul pins s σ H _ _ v u Q I rx ry ⟨_, _, rfl, rfl, ?_, fin0 c q (.int _)⟩
      rcases hz with hz | hz
      · exact .inl ⟨by omega, by omega⟩
      · exact .inr ⟨by omega, by omega⟩
    · cases e
  · split at e
    · cases e
      rename_i sx j hz
      obtain ⟨h1, h2⟩ := hz
      cases rps_str r1
      cases rps_int r2
      obtain ⟨t, rfl⟩ := rx
      obtain ⟨t', rfl⟩ := ry
      have hl : (tx sx).length = sx.length := tx_length sx
      have hs : szl = sizeLine := szl_eq
      have hsz : sizeLine = 16777216 := sizeLine_eq
      refine PySem.SB.mul (x := tx sx) ⟨by rw [decide_eq_false (by omega), decide_eq_false (by omega)]; rfl, fun h3 h4 => ?_, fun h3 h4 => ?_⟩ fun t' k => ?_
      · rw [hl]
        have : (sx.length : Int) * j ≤ 16777216 := by
          have : sx.length * j.toNat ≤ 16777216 := by omega
          have e3 : (j.toNat : Int) = j := Int.toNat_of_nonneg (by omega)
          rw [← e3, ← Int.natCast_mul]
          omega
        have h5 : (sx.length : Int) ≤ (2 ^ 63 - 1) / j := by
          refine (Int.le_ediv_iff_mul_le (by omega)).mpr ?_
          omega
        omega
      · show decide ((tx sx).length * j.toNat > sizeLine) = false
        rw [hl]
        exact decide_eq_false (by omega)
      · rw [tx_mul sx rfl]
        exact ⟨.str _, H, I.tok _, ⟨_, rfl⟩, fin0 c q (.str _)⟩
    · cases e
  · split at e
    · cases e
      rename_i hz
      obtain ⟨h1, h2⟩ := hz
      obtain ⟨a1, v1, rfl, h3, l1⟩ := rps_lst c r1
      cases rps_int r2
      exact op_rep pins s σ H _ _ v u Q I rx ry ⟨a1, _, v1, rfl, rfl, h3, by omega, by omega, by rw [l1.1, ← szl_eq]; exact h1, fun p n => finL c q (l1.flat _) n⟩
    · cases e

theorem so_neg : UnR X (unaryOp .USub) (fun x H Q => rP A .neg [x] H Q) := by
  intro pins s σ H x v Q I rx k
  obtain ⟨F, m, h, a, z, c, r, e, q⟩ := arity1 k
  have e : vNeg a = some z := e
  cases a <;> simp only [vNeg] at e <;> try (cases e; done)
  cases e
  cases rps_int r
  exact un_neg pins s σ H _ v Q I rx ⟨_, rfl, fin0 c q (.int _)⟩

/-! ### in -/
theorem eqvAny (x : IV) (n : Nat) (hx : pln x n = true) : ∀ (ys : List IV) (k : Nat), plns ys k = true → (toDs ys).any (fun d => PyData.eqv d (toD x)) = ys.any fun y => eqv y x
  | [], _, _ => rfl
  | y :: r, k, h => by
    have b : pln y k = true ∧ plns r k = true := by simpa [plns] using h
    simp only [toDs, List.any_cons]
    rw [eqv_toD y k x n b.1 hx, eqvAny x n hx r k b.2]
theorem so_in (hG : A.G.K = X.K) (hu : X.A.units + 64 < cLine) : OpR X (compareOp .In) (rP2 A .inn) ∧ OpR X (compareOp .NotIn) (rP2 A .notin) := by
  have seq : ∀ {pins : List (Addr × Obj)} {s : Shared} {σ : L2.St} {H : Hp} {F : Hp} {m : List Addr} {h : Cells} {x y : V} {v u : Value} {a : IV} {ys : List IV} (l : Bool), L2.Inv X pins σ H s → Core A.G F m h H → RpS A.G F m H a x → RpS A.G F m H (if l then .lst ys else .tup ys) y → L2.RelV x v → L2.RelV y u →
      pln a deepEq = true → plns ys 58 = true → ∀ Q : Bool → Value → Shared → Prop, (∀ n, Q n (.bool (inList a ys != n)) s) → wpAny (model X.prog X.w) X.A (compareOp .In v u) (Q false) X.xe s ∧ wpAny (model X.prog X.w) X.A (compareOp .NotIn v u) (Q true) X.xe s := by
    intro pins s σ H F m h x y v u a ys l I c r1 r2 rx ry pa pb Q q
    have d1 := dps c pa r1
    have d2 : Dp A.G.K H y (toD (if l then .lst ys else .tup ys)) := dps c (by cases l <;> simpa [pln, deepEq] using (plns_succ ys _ pb)) r2
    rw [hG] at d1 d2
    obtain ⟨as, e1⟩ := Dp.reads I _ x v d1 rx
    obtain ⟨bs, e2⟩ := Dp.reads I _ y u d2 ry
    have l1 := toD_lay a _ pa
    have l2 := toDs_lay ys _ pb
    have hz : X.A.units + 1 + min (PyData.depthAll (toDs ys)) (toD a).depth < cLine := by
      have := min_le (b := (toD a).depth) l2.2
      omega
    have ea : (toDs ys).any (fun d => PyData.eqv d (toD a)) = inList a ys := by
      rw [eqvAny a _ pa ys _ pb]
      have : ∀ zs : List IV, zs.any (fun y => eqv y a) = inList a zs := fun zs => by
        induction zs with
        | nil => rfl
        | cons z r ih => simp [inList, ih]
      exact this ys
    cases l with
    | true =>
      have e2 : Reads s.heap u (.list (toDs ys)) bs := by simpa [toD] using e2
      exact ⟨SeqAt.in_list_data e2 e1 l2.1 l1.1 hz (by rw [ea]; simpa using q false), SeqAt.notIn_list_data e2 e1 l2.1 l1.1 hz (by rw [ea]; simpa using q true)⟩
    | false =>
      have e2 : Reads s.heap u (.tuple (toDs ys)) bs := by simpa [toD] using e2
      exact ⟨SeqAt.in_tuple_data e2 e1 l2.1 l1.1 hz (by rw [ea]; simpa using q false), SeqAt.notIn_tuple_data e2 e1 l2.1 l1.1 hz (by rw [ea]; simpa using q true)⟩
  have both : ∀ n : Bool, OpR X (compareOp (if n then .NotIn else .In)) (fun x y => rP A (if n then .notin else .inn) [x, y]) := by
    intro n pins s σ H x y v u Q I rx ry k
    obtain ⟨F, m, h, a, b, z, c, r1, r2, e0, q⟩ := arity2 k
    have e : pIn n [a, b] = some z := by cases n <;> exact e0
    clear e0
    unfold pIn at e
    split at e
    · rename_i a0 ys eq
      cases eq
      split at e
      · rename_i hp
        cases e
        obtain ⟨pa, pb⟩ := Bool.and_eq_true_iff.mp hp
        have := seq false I c r1 r2 rx ry pa pb (fun n r s' => r = .bool (inList a ys != n) ∧ s' = s) fun n => ⟨rfl, rfl⟩
        have fin : EP X pins σ Q (.bool (inList a ys != n)) s := ⟨.bl _, H, I, rfl, fin0 c q (.bl _)⟩
        cases n with
        | false => exact wpAny_mono this.1 (fun r s' ⟨h1, h2⟩ => by rw [h1, h2]; exact fin) fun _ _ x => x
        | true => exact wpAny_mono this.2 (fun r s' ⟨h1, h2⟩ => by rw [h1, h2]; exact fin) fun _ _ x => x
      · cases e
    · rename_i a0 ys eq
      cases eq
      split at e
      · rename_i hp
        cases e
        obtain ⟨pa, pb⟩ := Bool.and_eq_true_iff.mp hp
        have := seq true I c r1 r2 rx ry pa pb (fun n r s' => r = .bool (inList a ys != n) ∧ s' = s) fun n => ⟨rfl, rfl⟩
        have fin : EP X pins σ Q (.bool (inList a ys != n)) s := ⟨.bl _, H, I, rfl, fin0 c q (.bl _)⟩
        cases n with
        | false => exact wpAny_mono this.1 (fun r s' ⟨h1, h2⟩ => by rw [h1, h2]; exact fin) fun _ _ x => x
        | true => exact wpAny_mono this.2 (fun r s' ⟨h1, h2⟩ => by rw [h1, h2]; exact fin) fun _ _ x => x
      · cases e
    · rename_i ch ys eq
      cases eq
      cases e
      cases rps_str r1
      cases rps_str r2
      have f : Q (.bl (decide (ch ∈ ys) != n)) H := fin0 c q (.bl _)
      cases n with
      | false => exact op_in_sign pins s σ H _ _ v u Q I rx ry ⟨ch, tx ys, rfl, rfl, by
        have f : Q (.bl (decide (ch ∈ ys) != false)) H := f
        rw [Bool.bne_false] at f
        exact Eq.mp (congrArg (fun b => Q (.bl b) H) (decide_eq_decide.mpr Iff.rfl)) f⟩
      | true => exact op_notIn_sign pins s σ H _ _ v u Q I rx ry ⟨ch, tx ys, rfl, rfl, by
        have f : Q (.bl (decide (ch ∈ ys) != true)) H := f
        rw [Bool.bne_true] at f
        exact Eq.mp (congrArg (fun b => Q (.bl (!b)) H) (decide_eq_decide.mpr Iff.rfl)) f⟩
    · cases e
  exact ⟨both false, both true⟩

/-! ### is -/
theorem so_isnon : OpR X (fun v u => compareOp .Is v u) (fun x y H Q => y = .non ∧ rP A .isnon [x] H Q) := by
  intro pins s σ H x y v u Q I rx ry k
  obtain ⟨ey, k⟩ := k
  obtain ⟨F, m, h, a, z, c, r, e0, q⟩ := arity1 k
  have e : some (IV.bl (isNon a != false)) = some z := e0
  clear e0
  cases e
  refine op_isN pins s σ H x y v u Q I rx ry ⟨ey, ?_⟩
  have f := fin0 c q (.bl _)
  cases r with
  | inl r => cases r <;> simpa [isNon] using f
  | inr r => obtain ⟨_, _, _, rfl, rfl, _⟩ := r; simpa [isNon] using f
theorem so_notnon : OpR X (fun v u => compareOp .IsNot v u) (fun x y H Q => y = .non ∧ rP A .notnon [x] H Q) := by
  intro pins s σ H x y v u Q I rx ry k
  obtain ⟨ey, k⟩ := k
  obtain ⟨F, m, h, a, z, c, r, e0, q⟩ := arity1 k
  have e : some (IV.bl (isNon a != true)) = some z := e0
  clear e0
  cases e
  refine op_notN pins s σ H x y v u Q I rx ry ⟨ey, ?_⟩
  have f := fin0 c q (.bl _)
  cases r with
  | inl r => cases r <;> simpa [isNon] using f
  | inr r => obtain ⟨_, _, _, rfl, rfl, _⟩ := r; simpa [isNon] using f
theorem isB_inv {b n : Bool} {a z : IV} (e : isB b n a = some z) : ∃ c, a = .bl c ∧ z = .bl (decide (c = b) != n) := by
  cases a <;> simp [isB] at e
  exact ⟨_, rfl, by rw [← e]⟩
theorem so_isb (b : Bool) : OpR X (fun v u => compareOp .Is v u) (fun x y H Q => y = .bl b ∧ rP A (.isb b) [x] H Q) := by
  intro pins s σ H x y v u Q I rx ry k
  obtain ⟨ey, k⟩ := k
  obtain ⟨F, m, h, a, z, c, r, e0, q⟩ := arity1 k
  obtain ⟨d, rfl, rfl⟩ := isB_inv (show isB b false a = some z from e0)
  cases rps_bl r
  exact op_isBl pins s σ H _ y v u Q I rx ry ⟨d, b, rfl, ey, by have := fin0 c q (.bl _); simpa using this⟩
theorem so_notb (b : Bool) : OpR X (fun v u => compareOp .IsNot v u) (fun x y H Q => y = .bl b ∧ rP A (.notb b) [x] H Q) := by
  intro pins s σ H x y v u Q I rx ry k
  obtain ⟨ey, k⟩ := k
  obtain ⟨F, m, h, a, z, c, r, e0, q⟩ := arity1 k
  obtain ⟨d, rfl, rfl⟩ := isB_inv (show isB b true a = some z from e0)
  cases rps_bl r
  exact op_notBl pins s σ H _ y v u Q I rx ry ⟨d, b, rfl, ey, by have := fin0 c q (.bl _); simpa using this⟩

/-! ### built-in functions -/
theorem rP1 {p : Pr} {xs : List V} {H : Hp} {Q : VK} {f : IV → Option IV} (hp : ∀ vs h, pr p vs h = pOne f vs) (k : rP A p xs H Q) : ∃ x F m h a z, xs = [x] ∧ Core A.G F m h H ∧ RpS A.G F m H a x ∧ f a = some z ∧ ∀ F' m' H' v, Stp F F' m m' H H' → Core A.G F' m' h H' → Rp A.G F' m' z v → Q v H' := by
  obtain ⟨F, m, h, as, z, c, r, e, q⟩ := k
  rw [hp] at e
  match as, e with
  | [a], e =>
    obtain ⟨x, us, rfl, r1, r2⟩ := r.cons
    cases r2.nil
    exact ⟨x, F, m, h, a, z, rfl, c, r1, e, q⟩
theorem so_len (hG : A.G.K = X.K) : CallR X (.builtin "len") (rP A .len) := by
  intro pins s σ H xs us Q I rs k
  obtain ⟨x, F, m, h, a, z, rfl, c, r, e, q⟩ := rP1 (f := vLen) (fun _ _ => rfl) k
  cases a <;> simp only [vLen] at e <;> try (cases e; done)
  · split at e
    · cases e
      rename_i hz
      cases rps_str r
      refine call_len_str pins s σ H _ us Q I rs ⟨_, rfl, by rw [tx_length, ← szl_eq]; exact hz, ?_⟩
      rw [tx_length]
      exact fin0 c q (.int _)
    · cases e
  · cases e
    obtain ⟨a1, v1, rfl, h1, l1, _⟩ := rps_tup c r
    rw [hG] at h1
    exact call_len_seq pins s σ H _ us Q I rs ⟨a1, v1, rfl, .inr h1, by rw [l1.1]; exact fin0 c q (.int _)⟩
  · cases e
    obtain ⟨a1, v1, rfl, h1, l1⟩ := rps_lst c r
    exact call_len_seq pins s σ H _ us Q I rs ⟨a1, v1, rfl, .inl (SqL.of h1), by rw [l1.1]; exact fin0 c q (.int _)⟩
  · cases e
    obtain ⟨a1, d1, rfl, h1, l1⟩ := rps_dct c r
    obtain ⟨u, rfl, ru⟩ := vals1 rs
    cases ru
    exact d_len I (.inr h1) fun t s' I' => ⟨.int d1.length, H, I', ⟨t, rfl⟩, by rw [l1]; exact fin0 c q (.int _)⟩
theorem so_int1 : CallR X (.type "int") (rP A .int) := by
  intro pins s σ H xs us Q I rs k
  obtain ⟨x, F, m, h, a, z, rfl, c, r, e, q⟩ := rP1 (f := vInt) (fun _ _ => rfl) k
  cases a <;> simp only [vInt] at e <;> try (cases e; done)
  · cases e
    cases rps_bl r
    exact call_int1 pins s σ H _ us Q I rs (.inr ⟨_, rfl, fin0 c q (.int _)⟩)
  · cases e
    cases rps_int r
    exact call_int1 pins s σ H _ us Q I rs (.inl ⟨_, rfl, fin0 c q (.int _)⟩)
theorem so_bool1 : CallR X (.type "bool") (rP A .bool) := by
  intro pins s σ H xs us Q I rs k
  obtain ⟨x, F, m, h, a, z, rfl, c, r, e, q⟩ := rP1 (f := vBool) (fun _ _ => rfl) k
  cases a <;> simp only [vBool] at e <;> try (cases e; done)
  cases e
  cases rps_bl r
  exact call_bool1 pins s σ H _ us Q I rs (.inr ⟨_, rfl, fin0 c q (.bl _)⟩)
theorem so_abs : CallR X (.builtin "abs") (rP A .abs) := by
  intro pins s σ H xs us Q I rs k
  obtain ⟨x, F, m, h, a, z, rfl, c, r, e, q⟩ := rP1 (f := vAbs) (fun _ _ => rfl) k
  cases a <;> simp only [vAbs] at e <;> try (cases e; done)
  cases e
  cases rps_int r
  exact call_abs pins s σ H _ us Q I rs ⟨_, rfl, fin0 c q (.int _)⟩
theorem bools_inv : ∀ {xs : List IV} {l : List Bool}, bools xs = some l → xs = l.map IV.bl
  | [], l, h => by cases h; rfl
  | x :: r, l, h => by
    cases x <;> simp only [bools] at h <;> try (cases h; done)
    obtain ⟨l', e, rfl⟩ := Option.map_eq_some_iff.mp h
    rw [bools_inv e]
    rfl
theorem rpl_bools {G : Gi} {F : Hp} {m : List Addr} : ∀ {l : List Bool} {vs : List V}, RpL G F m (l.map IV.bl) vs → vs = l.map V.bl
  | [], vs, r => List.length_eq_zero_iff.mp (by simpa using r.1)
  | b :: l, vs, r => by
    cases vs with
    | nil => exact absurd r.1 (by simp)
    | cons v us =>
      have h1 := r.head
      cases h1
      rw [rpl_bools r.tail]
      rfl
theorem so_all (hc : X.calm = true) (hG : A.G.K = X.K) : CallR X (.builtin "all") (rP A .all) := by
  intro pins s σ H xs us Q I rs k
  obtain ⟨x, F, m, h, a, z, rfl, c, r, e, q⟩ := rP1 (f := vAll) (fun _ _ => rfl) k
  cases a <;> simp only [vAll] at e <;> try (cases e; done)
  obtain ⟨l, e2, rfl⟩ := Option.map_eq_some_iff.mp e
  obtain rfl := bools_inv e2
  obtain ⟨a1, v1, rfl, h1, l1⟩ := rps_lst c r
  obtain rfl := rpl_bools l1
  exact cr_all hc pins s σ H _ us Q I rs ⟨a1, l, rfl, SqL.of h1, fin0 c q (.bl _)⟩
theorem so_tuple (hG : A.G.K = X.K) : CallR X (.type "tuple") (rP A .tuple) := by
  intro pins s σ H xs us Q I rs k
  obtain ⟨x, F, m, h, a, z, rfl, c, r, e, q⟩ := rP1 (f := fun x => (seqOf x).map .tup) (fun _ _ => rfl) k
  cases a <;> simp only [seqOf, Option.map_some, Option.map_none] at e <;> try (cases e; done)
  · cases e
    obtain ⟨a1, v1, rfl, h1, l1, f1⟩ := rps_tup c r
    rw [hG] at h1
    exact call_tuple_of pins s σ H _ us Q I rs ⟨a1, v1, rfl, .inr ⟨h1, fin0 c q (.tup f1 l1.1 l1.2)⟩⟩
  · cases e
    obtain ⟨a1, v1, rfl, h1, l1⟩ := rps_lst c r
    exact call_tuple_of pins s σ H _ us Q I rs ⟨a1, v1, rfl, .inl ⟨SqL.of h1, fun p n => finT c q l1 n⟩⟩
theorem so_max (hc : X.calm = true) : CallR X (.builtin "max") (rP A .max) := by
  intro pins s σ H xs us Q I rs k
  obtain ⟨F, m, h, as, z, c, r, e, q⟩ := k
  have e : pInt (fun i j => some (.int (if j > i then j else i))) as = some z := e
  rcases as with _ | ⟨a, _ | ⟨b, _ | ⟨b2, as⟩⟩⟩
  · cases e
  · cases a <;> cases e
  · obtain ⟨i, j, rfl, rfl, e⟩ := pInt_inv e
    cases e
    obtain ⟨x, us1, rfl, r1, r⟩ := r.cons
    obtain ⟨y, us2, rfl, r2, r⟩ := r.cons
    cases r.nil
    cases rps_int r1
    cases rps_int r2
    exact call_max2 hc pins s σ H _ us Q I rs ⟨i, j, rfl, fin0 c q (.int _)⟩
  · cases a <;> cases b <;> cases e
end
end PI

set_option Elab.async false
set_option linter.all false
set_option maxRecDepth 100000
set_option maxHeartbeats 4000000
/-! PIf: subscripts, slices, isinstance, displays. -/
namespace PI
open PySem PySem.Calls PySem.Spec PyProof.Rows L2 PySem.SeqAt
section
variable {G : Gi} {F : Hp} {m : List Addr} {H : Hp} {h : Cells} {v : V}
/-! ### at an index -/
theorem at_atI {xs : List IV} {vs : List V} {i : Int} {z : IV} (r : RpL G F m xs vs) (e : at? xs i = some z) : ∃ v, atI vs i = some v ∧ Rp G F m z v := by
  unfold at? at e
  have hl := r.1
  unfold atI ixN
  by_cases h0 : 0 ≤ i
  · rw [if_pos h0] at e ⊢
    obtain ⟨v, e2, q⟩ := r.get e
    have hi : i.toNat < vs.length := (List.getElem?_eq_some_iff.mp e2).1
    rw [if_pos (by omega)]
    exact ⟨v, e2, q⟩
  · rw [if_neg h0] at e ⊢
    split at e
    · obtain ⟨v, e2, q⟩ := r.get e
      rw [if_pos (by omega), hl]
      exact ⟨v, e2, q⟩
    · cases e
theorem at_chars {s : List Nat} {i : Int} {z : IV} (e : at? (chars s) i = some z) : ∃ c, atI s i = some c ∧ z = .str [c] := by
  unfold at? chars at e
  unfold atI ixN
  by_cases h0 : 0 ≤ i
  · rw [if_pos h0] at e ⊢
    rw [List.getElem?_map] at e
    obtain ⟨c, e2, rfl⟩ := Option.map_eq_some_iff.mp e
    have hi : i.toNat < s.length := (List.getElem?_eq_some_iff.mp e2).1
    rw [if_pos (by omega)]
    exact ⟨c, e2, rfl⟩
  · rw [if_neg h0] at e ⊢
    rw [List.length_map] at e
    split at e
    · rw [List.getElem?_map] at e
      obtain ⟨c, e2, rfl⟩ := Option.map_eq_some_iff.mp e
      rw [if_pos (by omega)]
      exact ⟨c, e2, rfl⟩
    · cases e
theorem dget_val {kvs : List (Ky × IV)} {k : List Nat} {z : IV} : ∀ {ds : List (Key × V)}, ds.length = kvs.length → (∀ (i : Nat) (k : Ky) (x : IV) (l : Key) (v : V), kvs[i]? = some (k, x) → ds[i]? = some (l, v) → KyR k l) →
    (∀ (i : Nat) (k : Ky) (x : IV) (l : Key) (v : V), kvs[i]? = some (k, x) → ds[i]? = some (l, v) → Rp G F m x v) → dget (.str k) kvs = some z → ∃ v, valV ds (.inr (tx k)) = some v ∧ Rp G F m z v := by
  induction kvs with
  | nil => intro ds _ _ _ e; cases e
  | cons p r ih =>
    intro ds hl hk hr e
    obtain ⟨l, x⟩ := p
    cases ds with
    | nil => exact absurd hl (by simp)
    | cons q ds =>
      obtain ⟨lk, v⟩ := q
      have h1 : KyR l lk := hk 0 l x lk v rfl rfl
      have h2 : Rp G F m x v := hr 0 l x lk v rfl rfl
      unfold dget at e
      unfold valV
      have tl := fun hb : (Ky.beq (.str k) l) = false => ih (ds := ds) (by simpa using hl) (fun i k x l v a b => hk (i + 1) k x l v (by simpa using a) (by simpa using b)) (fun i k x l v a b => hr (i + 1) k x l v (by simpa using a) (by simpa using b)) (by rw [hb] at e; simpa using e)
      cases h1 with
      | int i =>
        obtain ⟨v', e1, e2⟩ := tl rfl
        refine ⟨v', ?_, e2⟩
        rw [List.find?_cons_of_neg (by simp)]
        exact e1
      | str s =>
        by_cases hs : k = s
        · subst hs
          have hb : Ky.beq (.str k) (.str k) = true := by simp [Ky.beq]
          rw [hb] at e
          cases e
          exact ⟨v, by rw [List.find?_cons_of_pos (by simp)]; rfl, h2⟩
        · obtain ⟨v', e1, e2⟩ := tl (by simp [Ky.beq, hs])
          refine ⟨v', ?_, e2⟩
          rw [List.find?_cons_of_neg (by simp; exact fun e => hs (tx_inj e).symm)]
          exact e1
end
section
variable {X : Cx} {A : Ar}
theorem ix_item (hG : A.G.K = X.K) (hu : X.A.units + 64 < cLine) : IxR X (rP2 A .item) := by
  intro value slice pins s σ H x y v u Q I rx ry k hs
  obtain ⟨F, m, h, a, b, z, c, r1, r2, e, q⟩ := arity2 k
  replace e : pItem [a, b] h = some z := e
  unfold pItem at e
  split at e
  · rename_i xs i eq1
    cases eq1
    obtain ⟨a1, v1, rfl, h1, l1⟩ := rps_lst c r1
    cases rps_int r2
    obtain ⟨w, e1, rw'⟩ := at_atI l1 e
    exact ix_list value slice pins s σ H _ _ v u Q I rx ry ⟨a1, v1, i, w, rfl, rfl, SqL.of h1, e1, fin0 c q rw'⟩ hs
  · rename_i xs i eq1
    cases eq1
    obtain ⟨a1, v1, rfl, h1, l1, _⟩ := rps_tup c r1
    cases rps_int r2
    obtain ⟨w, e1, rw'⟩ := at_atI l1 e
    rw [hG] at h1
    exact ix_tup value slice pins s σ H _ _ v u Q I rx ry ⟨a1, v1, i, w, rfl, rfl, h1, e1, fin0 c q rw'⟩ hs
  · rename_i t i eq1
    cases eq1
    split at e
    · rename_i hz
      cases rps_str r1
      cases rps_int r2
      obtain ⟨ch, e1, rfl⟩ := at_chars e
      exact ix_str value slice pins s σ H _ _ v u Q I rx ry ⟨tx t, i, ch, rfl, rfl, by rw [tx_length, ← szl_eq]; exact hz, e1, fin0 c q (.str [ch])⟩ hs
    · cases e
  · rename_i kvs t eq1
    cases eq1
    cases rps_str r2
    rcases r1 with r1 | ⟨_, _, _, e', _⟩
    · cases r1 with
      | @dct a1 od _ ds ed hl hk hr =>
        obtain ⟨w, e1, rw'⟩ := dget_val hl hk hr e
        cases rx
        have g : DGet H a1 (.str (tx t)) (some w) := by
          exact .inl ⟨ds, .inr (tx t), .inr ⟨od, c.sub _ _ ed⟩, rfl, e1.symm⟩
        exact tail_any (dict_typeIs I g) PySem.F.slot_dict_getitem.lookup (d_getItem (by omega) I g ry fun w' s3 I3 rw2 => ⟨w, H, I3, rw2, fin0 c q rw'⟩) hs
    · cases e'
  · rename_i ci i eq1
    cases eq1
    obtain ⟨a1, rfl, em⟩ := rps_cell r1
    cases rps_int r2
    split at e
    · rename_i xs eh
      obtain ⟨n0, v1, h1, l1⟩ := c.cel _ _ _ em eh
      obtain ⟨w, e1, rw'⟩ := at_atI l1 e
      exact ix_list value slice pins s σ H _ _ v u Q I rx ry ⟨a1, v1, i, w, rfl, rfl, SqL.of h1, e1, fin0 c q rw'⟩ hs
    · cases e
  · cases e

/-! ### slices -/
theorem sIx_HT (n d : Nat) (o : Option Int) : HT.sIx n d o = sIx n d o := by cases o <;> rfl
theorem RpL.drop {G : Gi} {F : Hp} {m : List Addr} {xs : List IV} {vs : List V} (r : RpL G F m xs vs) (n : Nat) : RpL G F m (xs.drop n) (vs.drop n) :=
  ⟨by simp [r.1], fun i x v a b => r.2 (n + i) x v (by rw [List.getElem?_drop] at a; exact a) (by rw [List.getElem?_drop] at b; exact b)⟩
theorem RpL.take {G : Gi} {F : Hp} {m : List Addr} {xs : List IV} {vs : List V} (r : RpL G F m xs vs) (n : Nat) : RpL G F m (xs.take n) (vs.take n) := by
  refine ⟨by simp [r.1], fun i x v a b => ?_⟩
  rw [List.getElem?_take] at a b
  split at a
  · rw [if_pos (by assumption)] at b
    exact r.2 i x v a b
  · cases a
theorem RpL.cut {G : Gi} {F : Hp} {m : List Addr} {xs : List IV} {vs : List V} (r : RpL G F m xs vs) (lo hi : Option Int) : RpL G F m (cutL xs lo hi) (L2.cutV vs lo hi) := by
  unfold cutL L2.cutV
  rw [sIx_HT, sIx_HT, r.1]
  exact (r.drop _).take _
theorem RpL.ints {G : Gi} {F : Hp} {m : List Addr} (ns : List Int) : RpL G F m (ns.map IV.int) (ns.map V.int) := by
  refine ⟨by simp, fun i x v a b => ?_⟩
  rw [List.getElem?_map] at a b
  cases e : ns[i]? with
  | none => rw [e] at a; cases a
  | some n => rw [e] at a b; cases a; cases b; exact .int n
/-- a slice's reading -/
def rCut (A : Ar) (x : V) (lo hi : Option Int) (H : Hp) (Q : VK) : Prop := ∃ F m h a z, Core A.G F m h H ∧ RpS A.G F m H a x ∧ cutV a lo hi = some z ∧ ∀ F' m' H' v, Stp F F' m m' H H' → Core A.G F' m' h H' → Rp A.G F' m' z v → Q v H'
theorem sl_cut (hG : A.G.K = X.K) : SlR X (rCut A) := by
  intro pins s σ H x v vl vu lo hi sl Q I rx hs pl pu k
  obtain ⟨F, m, h, a, z, c, r, e, q⟩ := k
  unfold cutV at e
  split at e
  · cases e
    obtain ⟨a1, v1, rfl, h1, l1⟩ := rps_lst c r
    exact sl_list pins s σ H _ v vl vu lo hi sl Q I rx hs pl pu ⟨a1, v1, rfl, SqL.of h1, fun p n => finL c q (l1.cut lo hi) n⟩
  · rename_i ns
    cases e
    obtain ⟨a1, rfl, h1⟩ := rps_scr c r
    rw [hG] at h1
    exact sl_list pins s σ H _ v vl vu lo hi sl Q I rx hs pl pu ⟨a1, _, rfl, h1, fun p n => finL c q ((RpL.ints ns).cut lo hi) n⟩
  · rename_i xs
    cases e
    obtain ⟨a1, v1, rfl, h1, l1, f1⟩ := rps_tup c r
    rw [hG] at h1
    refine sl_tupA pins s σ H _ v vl vu lo hi sl Q I rx hs pl pu ⟨a1, v1, rfl, h1, fun hw => ?_, fun _ p n => finT c q (l1.cut lo hi) n⟩
    have e2 : cutL xs lo hi = xs := by
      unfold cutL
      rw [sIx_HT, sIx_HT, l1.1] at hw
      rw [hw.1, hw.2]
      simp
    rw [e2] at q
    exact fin0 c q (.tup f1 l1.1 l1.2)
  · cases e

end
/-! ### isinstance -/
section
variable {X : Cx} {A : Ar}
def tyN : TyC → String
  | .int => "int" | .bool => "bool" | .str => "str" | .list => "list" | .tuple => "tuple" | .dict => "dict"
theorem ty_of (hG : A.G.K = X.K) {F : Hp} {m : List Addr} {h : Cells} {H : Hp} {a : IV} {x : V} {T : String} (c : Core A.G F m h H) (r : RpS A.G F m H a x) (e : ownT a = some T) (ho : ∀ k, a ≠ .odd k) : TyX X.K H x (.type T) := by
  cases a <;> simp only [ownT] at e <;> try (cases e; done)
  all_goals cases e
  · cases rps_non r; exact .base .non
  · cases rps_bl r; exact .base (.bl _)
  · cases rps_int r; exact .base (.int _)
  · cases rps_str r; exact .base (.str _)
  · obtain ⟨a1, v1, rfl, h1, _⟩ := rps_tup c r
    rw [hG] at h1
    rcases h1 with (h1 | ⟨o, h1⟩) | ⟨o, its, n, h1, h2, _⟩
    · exact .base (.tup h1)
    · exact .fTuple h1
    · exact .kTuple h1 h2
  · obtain ⟨a1, v1, rfl, h1, _⟩ := rps_lst c r
    exact .base (.lst h1)
  · obtain ⟨a1, d1, rfl, h1, _⟩ := rps_dct c r
    obtain ⟨od, h1⟩ := h1
    exact .fDict h1
  · exact absurd rfl (ho _)
/-- an odd dict's object -/
theorem odd_obj {F : Hp} {m : List Addr} {h : Cells} {H : Hp} {k : Nat} {x : V} (c : Core A.G F m h H) (r : RpS A.G F m H (.odd k) x) : ∃ a o, x = .ref a ∧ H a = some (.frz o (.ext fun _ => True)) ∧ o.ExactDict := by
  rcases r with r | ⟨_, _, _, e, _⟩
  · cases r with
    | odd e1 e2 _ _ _ _ => exact ⟨_, _, rfl, c.sub _ _ e1, e2⟩
  · cases e
theorem kit_all : ∀ (a : IV) (T : String) (t : TyC), ownT a = some T → kitB T (tyN t) = some (isT a t) := by
  intro a T t e
  cases a <;> simp only [ownT] at e <;> try (cases e; done)
  all_goals cases e
  all_goals cases t
  all_goals (simp only [isT, tyN]; decide +kernel)
end
end PI

set_option Elab.async false
set_option linter.all false
set_option maxRecDepth 100000
set_option maxHeartbeats 4000000
/-! PIf2: list(x), sorted(texts), sep.join(texts), dict(pairs). -/
namespace PI
open PySem PySem.Spec PyProof.Rows L2
/-! ### sorting -/
theorem leS_iff (a b : List Nat) : leS a b = true ↔ a ≤ b := by
  unfold leS
  rw [PyProof.Rows.ltCps_eq]
  simp
theorem insS_perm (x : List Nat) : ∀ l, (insS x l).Perm (x :: l)
  | [] => .refl _
  | y :: r => by
    unfold insS
    split
    · exact .refl _
    · exact ((insS_perm x r).cons y).trans (.swap x y r)
theorem sortS_perm : ∀ l, (sortS l).Perm l
  | [] => .refl _
  | x :: r => (insS_perm x (sortS r)).trans ((sortS_perm r).cons x)
theorem insS_pw (x : List Nat) : ∀ l : List (List Nat), l.Pairwise (· ≤ ·) → (insS x l).Pairwise (· ≤ ·)
  | [], _ => by simp [insS]
  | y :: r, h => by
    unfold insS
    obtain ⟨h1, h2⟩ := List.pairwise_cons.mp h
    split
    · rename_i hl
      have hxy := (leS_iff x y).mp hl
      exact List.pairwise_cons.mpr ⟨fun z hz => by
        rcases List.mem_cons.mp hz with rfl | hz
        · exact hxy
        · exact List.le_trans hxy (h1 z hz), h⟩
    · rename_i hl
      have hyx : y ≤ x := (List.le_total x y).resolve_left fun q => hl ((leS_iff x y).mpr q)
      refine List.pairwise_cons.mpr ⟨fun z hz => ?_, insS_pw x r h2⟩
      rcases List.mem_cons.mp ((insS_perm x r).mem_iff.mp hz) with rfl | hz
      · exact hyx
      · exact h1 z hz
theorem sortS_pw : ∀ l, (sortS l).Pairwise (· ≤ ·)
  | [] => .nil
  | x :: r => insS_pw x _ (sortS_pw r)
theorem rising_pw : ∀ (p : Str) (l : List Str), PyProof.Rows.risingS p l = true → (p :: l).Pairwise fun a b => a.cps.toList ≤ b.cps.toList
  | p, [], _ => by simp
  | p, x :: r, h => by
    have h2 : (!ltCps x.cps.toList p.cps.toList && PyProof.Rows.risingS x r) = true := h
    obtain ⟨h3, h4⟩ := Bool.and_eq_true_iff.mp h2
    have ih := rising_pw x r h4
    have hpx : p.cps.toList ≤ x.cps.toList := (leS_iff _ _).mp h3
    refine List.pairwise_cons.mpr ⟨fun z hz => ?_, ih⟩
    rcases List.mem_cons.mp hz with rfl | hz
    · exact hpx
    · exact List.le_trans hpx ((List.pairwise_cons.mp ih).1 z hz)
theorem sorted_is {l : List (List Nat)} {ys : List Str} (hp : ys.Perm (l.map tx)) (hs : PyProof.Rows.sortedS ys = true) : ys = (sortS l).map tx := by
  have pw : ys.Pairwise fun a b => a.cps.toList ≤ b.cps.toList := by
    cases ys with
    | nil => exact .nil
    | cons x r => exact rising_pw x r hs
  have hz : (ys.map fun y => y.cps.toList).Perm l := by
    have := hp.map fun y => y.cps.toList
    rw [List.map_map] at this
    have e : ((fun y : Str => y.cps.toList) ∘ tx) = id := by funext s; simp [tx]
    rw [e, List.map_id] at this
    exact this
  have e : (ys.map fun y => y.cps.toList) = sortS l := List.Perm.eq_of_pairwise (le := fun a b : List Nat => a ≤ b) (fun a b _ _ h1 h2 => List.le_antisymm h1 h2) (List.pairwise_map.mpr pw) (sortS_pw l) (hz.trans (sortS_perm l).symm)
  rw [← e, List.map_map]
  have e2 : (tx ∘ fun y : Str => y.cps.toList) = id := by funext s; exact tx_of s
  rw [e2, List.map_id]
theorem strL_inv : ∀ {xs : List IV} {l : List (List Nat)}, strL xs = some l → xs = l.map IV.str
  | [], l, h => by cases h; rfl
  | x :: r, l, h => by
    cases x <;> simp only [strL] at h <;> try (cases h; done)
    obtain ⟨l', e, rfl⟩ := Option.map_eq_some_iff.mp h
    rw [strL_inv e]
    rfl
theorem rpl_strs {G : Gi} {F : Hp} {m : List Addr} : ∀ {l : List (List Nat)} {vs : List V}, RpL G F m (l.map IV.str) vs → vs = (l.map tx).map V.str
  | [], vs, r => List.length_eq_zero_iff.mp (by simpa using r.1)
  | s :: l, vs, r => by
    cases vs with
    | nil => exact absurd r.1 (by simp)
    | cons v us =>
      have h1 := r.head
      cases h1
      rw [rpl_strs r.tail]
      rfl
theorem strs_rpl {G : Gi} {F : Hp} {m : List Addr} : ∀ l : List (List Nat), RpL G F m (l.map IV.str) ((l.map tx).map V.str)
  | [] => .nil
  | s :: l => .cons (.str s) (strs_rpl l)
theorem kstrL_inv : ∀ {kvs : List (Ky × IV)} {l : List (List Nat)}, kstrL kvs = some l → kvs.map (·.1) = l.map Ky.str
  | [], l, h => by cases h; rfl
  | (k, v) :: r, l, h => by
    cases k <;> simp only [kstrL] at h <;> try (cases h; done)
    obtain ⟨l', e, rfl⟩ := Option.map_eq_some_iff.mp h
    simp [kstrL_inv e]
theorem keys_str {kvs : List (Ky × IV)} {l : List (List Nat)} (e : kvs.map (·.1) = l.map Ky.str) {ds : List (Key × V)} (hl : ds.length = kvs.length) (hk : ∀ (i : Nat) (k : Ky) (x : IV) (l : Key) (v : V), kvs[i]? = some (k, x) → ds[i]? = some (l, v) → KyR k l) : ds.map (·.1) = (l.map tx).map Sum.inr := by
  apply List.ext_getElem?
  intro i
  have e1 := congrArg (fun z : List Ky => z[i]?) e
  simp only [List.getElem?_map] at e1 ⊢
  cases ek : kvs[i]? with
  | none =>
    have : ds[i]? = none := by
      rw [List.getElem?_eq_none_iff] at ek ⊢
      omega
    rw [ek] at e1
    rw [this]
    cases es : l[i]? with
    | none => rfl
    | some s => rw [es] at e1; cases e1
  | some p =>
    obtain ⟨k, x⟩ := p
    have hi : i < ds.length := by rw [hl]; exact (List.getElem?_eq_some_iff.mp ek).1
    have ed : ds[i]? = some (ds[i].1, ds[i].2) := List.getElem?_eq_getElem hi
    have kr := hk i k x _ _ ek ed
    rw [ek] at e1
    cases es : l[i]? with
    | none => rw [es] at e1; cases e1
    | some s =>
      rw [es] at e1
      have : k = .str s := by simpa using e1
      subst this
      rw [ed]
      generalize ds[i].1 = kk at kr
      cases kr
      rfl
section
variable {X : Cx} {A : Ar}
theorem so_sorted (hc : X.calm = true) (hG : A.G.K = X.K) : CallR X (.builtin "sorted") (rP A .sorted) := by
  intro pins s σ H xs us Q I rs k
  obtain ⟨x, F, m, h, a, z, rfl, c, r, e, q⟩ := rP1 (f := vSorted) (fun _ _ => rfl) k
  cases a <;> simp only [vSorted] at e <;> try (cases e; done)
  · obtain ⟨l, e1, e2⟩ := Option.bind_eq_some_iff.mp e
    obtain rfl := strL_inv e1
    unfold sortV at e2
    split at e2
    · rename_i h64
      cases e2
      obtain ⟨a1, v1, rfl, h1, l1⟩ := rps_lst c r
      obtain rfl := rpl_strs l1
      refine cr_sortedS pins s σ H _ us Q I rs ⟨a1, l.map tx, rfl, SqL.of h1, by rw [List.length_map]; exact h64, fun ys p hp hs n => ?_⟩
      obtain rfl := sorted_is hp hs
      exact finL c q (strs_rpl (sortS l)) n
    · cases e2
  · rename_i kvs
    obtain ⟨l, e1, e2⟩ := Option.bind_eq_some_iff.mp e
    have ek := kstrL_inv e1
    unfold sortV at e2
    split at e2
    · rename_i h64
      cases e2
      rcases r with r | ⟨_, _, _, e', _⟩
      · cases r with
        | @dct d o _ ds ed hl hk hr =>
          refine call_sortedD hc pins s σ H _ us Q I rs ⟨d, ds, l.map tx, rfl, .inr ⟨o, c.sub _ _ ed⟩, keys_str ek hl hk, by rw [List.length_map]; exact h64, fun ys p hp hs n => ?_⟩
          obtain rfl := sorted_is hp hs
          exact finL c q (strs_rpl (sortS l)) n
      · cases e'
    · cases e2
theorem so_list (hG : A.G.K = X.K) : CallR X (.type "list") (rP A .list) := by
  intro pins s σ H xs us Q I rs k
  obtain ⟨x, F, m, h, a, z, rfl, c, r, e, q⟩ := rP1 (f := fun x => (seqOf x).map .lst) (fun _ _ => rfl) k
  cases a <;> simp only [seqOf, Option.map_some, Option.map_none] at e <;> try (cases e; done)
  · cases e
    obtain ⟨a1, v1, rfl, h1, l1, f1⟩ := rps_tup c r
    rw [hG] at h1
    exact call_list_of pins s σ H _ us Q I rs ⟨a1, v1, rfl, .inr h1, fun p n => finL c q l1 n⟩
  · cases e
    obtain ⟨a1, v1, rfl, h1, l1⟩ := rps_lst c r
    exact call_list_of pins s σ H _ us Q I rs ⟨a1, v1, rfl, .inl (SqL.of h1), fun p n => finL c q l1 n⟩
theorem lens_tx (l : List (List Nat)) : ((l.map tx).map (·.length)).sum = (l.map List.length).sum := by
  rw [List.map_map]
  exact congrArg List.sum (List.map_congr_left fun s _ => tx_length s)
theorem so_join : MtR X "str.join" (fun x xs H Q => rP A .join (x :: xs) H Q) := by
  intro pins s σ H x xs v us Q I rx rxs k
  obtain ⟨F, m, h, as, z, c, r, e, q⟩ := k
  have e : pJoin as = some z := e
  unfold pJoin at e
  split at e
  · rename_i sep ys _
    obtain ⟨l, e1, e2⟩ := Option.bind_eq_some_iff.mp e
    obtain rfl := strL_inv e1
    split at e2
    · rename_i hz
      cases e2
      obtain ⟨x', us2, eq1, r1, r2⟩ := r.cons
      cases eq1
      obtain ⟨y', us3, rfl, r3, r4⟩ := r2.cons
      cases r4.nil
      cases rps_str r1
      obtain ⟨a1, v1, rfl, h1, l1⟩ := rps_lst c r3
      obtain rfl := rpl_strs l1
      refine mt_join pins s σ H _ _ v us Q I rx rxs ⟨tx sep, a1, l.map tx, rfl, rfl, .inl (SqL.of h1), ?_, ?_⟩
      · rw [lens_tx, List.length_map, tx_length]
        exact hz
      · have e3 : Txt.join (tx sep) (l.map tx) = tx (TL.joinL sep l) := SX.join_S sep l
        rw [e3]
        exact fin0 c q (.str _)
    · cases e2
  · cases e
end

/-! ### dicts from pairs -/
/-- a dict's pairs stand at a dict's entries -/
def DR (G : Gi) (F : Hp) (m : List Addr) (kvs : List (Ky × IV)) (ds : List (Key × V)) : Prop := Paired (fun (p : Ky × IV) (q : Key × V) => KyR p.1 q.1 ∧ Rp G F m p.2 q.2) kvs ds
theorem kyr_beq {k k2 : Ky} {l l2 : Key} (a : KyR k l) (b : KyR k2 l2) : Ky.beq k k2 = decide (l2 = l) := by
  cases a <;> cases b <;> simp [Ky.beq]
  · exact eq_comm
  · exact ⟨fun e => by rw [e], fun e => (tx_inj e).symm⟩
theorem putK_skip {ds : List (Key × V)} {l : Key} {v : V} (h : ∀ p ∈ ds, p.1 ≠ l) : ds.map (fun kv => if kv.1 = l then (kv.1, v) else kv) = ds := by
  induction ds with
  | nil => rfl
  | cons p r ih => simp [h p (by simp), ih fun q hq => h q (List.mem_cons_of_mem _ hq)]
theorem dput_putK {G : Gi} {F : Hp} {m : List Addr} {k : Ky} {x : IV} {l : Key} {v : V} (hk : KyR k l) (hx : Rp G F m x v) : ∀ {kvs : List (Ky × IV)} {ds : List (Key × V)}, DR G F m kvs ds → (ds.map (·.1)).Nodup → DR G F m (dput k x kvs) (putK ds l v) ∧ ((putK ds l v).map (·.1)).Nodup
  | [], [], .nil, _ => ⟨.cons ⟨hk, hx⟩ .nil, by simp [putK]⟩
  | (k2, x2) :: kvs, (l2, v2) :: ds, .cons ⟨h1, h2⟩ t, nd => by
    have nd2 : l2 ∉ ds.map (·.1) ∧ (ds.map (·.1)).Nodup := by simpa using nd
    have hb := kyr_beq hk h1
    unfold dput
    by_cases he : l2 = l
    · subst he
      rw [hb, if_pos (by simp)]
      have hp : putK ((l2, v2) :: ds) l2 v = (l2, v) :: ds := by
        unfold putK
        rw [if_pos (by simp)]
        simp only [List.map_cons, if_true]
        rw [putK_skip fun p hp e => nd2.1 (List.mem_map.mpr ⟨p, hp, e⟩)]
      rw [hp]
      exact ⟨.cons ⟨h1, hx⟩ t, by simpa using nd⟩
    · rw [hb, if_neg (by simp [he])]
      obtain ⟨ih1, ih2⟩ := dput_putK hk hx t nd2.2
      have hp : putK ((l2, v2) :: ds) l v = (l2, v2) :: putK ds l v := by
        unfold putK
        by_cases ha : (ds.any fun kv => decide (kv.1 = l)) = true
        · rw [if_pos (by simp [ha]), if_pos ha]
          simp [he]
        · rw [if_neg (by simpa [he] using ha), if_neg ha]
          rfl
      rw [hp]
      refine ⟨.cons ⟨h1, h2⟩ ih1, ?_⟩
      simp only [List.map_cons, List.nodup_cons]
      refine ⟨fun hm => ?_, ih2⟩
      obtain ⟨p, hp1, hp2⟩ := List.mem_map.mp hm
      unfold putK at hp1
      split at hp1
      · obtain ⟨q, hq, e⟩ := List.mem_map.mp hp1
        apply nd2.1
        refine List.mem_map.mpr ⟨q, hq, ?_⟩
        split at e <;> (rw [← e] at hp2; exact hp2)
      · rcases List.mem_append.mp hp1 with hq | hq
        · exact nd2.1 (List.mem_map.mpr ⟨p, hq, hp2⟩)
        · rw [List.mem_singleton.mp hq] at hp2
          exact he hp2.symm
theorem dputs_merge {G : Gi} {F : Hp} {m : List Addr} : ∀ {ps : List (Ky × IV)} {qs : List (Key × V)} {kvs : List (Ky × IV)} {ds : List (Key × V)}, DR G F m ps qs → DR G F m kvs ds → (ds.map (·.1)).Nodup → DR G F m (dputs ps kvs) (mergeK ds qs)
  | [], [], kvs, ds, .nil, h, _ => h
  | p :: ps, q :: qs, kvs, ds, .cons ⟨h1, h2⟩ t, h, nd => by
    obtain ⟨a, b⟩ := dput_putK h1 h2 h nd
    exact dputs_merge (ps := ps) (qs := qs) t a b
theorem DR.dct {G : Gi} {F : Hp} {m : List Addr} {kvs : List (Ky × IV)} {ds : List (Key × V)} (h : DR G F m kvs ds) {a : Addr} {o : Obj} (e : F a = some (.frz o (.dK ds))) : Rp G F m (.dct kvs) (.ref a) := by
  have get : ∀ (i : Nat) (k : Ky) (x : IV) (l : Key) (v : V), kvs[i]? = some (k, x) → ds[i]? = some (l, v) → KyR k l ∧ Rp G F m x v := by
    clear e
    induction h with
    | nil => intro i k x l v h; simp at h
    | cons h t ih =>
      intro i k x l v h1 h2
      cases i with
      | zero => simp at h1 h2; subst h1; subst h2; exact h
      | succ i => exact ih i k x l v (by simpa using h1) (by simpa using h2)
  exact .dct e (Paired.length h).symm (fun i k x l v a b => (get i k x l v a b).1) fun i k x l v a b => (get i k x l v a b).2
theorem DR.mono {G : Gi} {F F' : Hp} {m m' : List Addr} {kvs : List (Ky × IV)} {ds : List (Key × V)} (g : Ge F F' m m') (h : DR G F m kvs ds) : DR G F' m' kvs ds := by
  induction h with
  | nil => exact .nil
  | cons h t ih => exact .cons ⟨h.1, h.2.mono g⟩ ih
section
variable {X : Cx} {A : Ar}
/-- a new dict, locked at once -/
theorem lock_ep {pins : List (Addr × Obj)} {σ : L2.St} {H : Hp} {s' : Shared} {p : Addr} {u : Value} {ds : List (Key × V)} {Q : VK} (I : L2.Inv X pins σ (L2.upd H p (.dK ds)) s') (r : L2.RelV (.ref p) u) (q : ∀ o, Q (.ref p) (L2.upd H p (.frz o (.dK ds)))) : EP X pins σ Q u s' := by
  obtain ⟨od, I2⟩ := I.lock upd_same True.intro
  rw [upd_upd] at I2
  exact ⟨.ref p, _, I2, r, q od⟩
theorem pairs_inv (hG : A.G.K = X.K) {F : Hp} {m : List Addr} {h : Cells} {H : Hp} (c : Core A.G F m h H) : ∀ {xs : List IV} {ps : List (Ky × IV)} {vs : List V}, pairsOf xs = some ps → RpL A.G F m xs vs → ∃ (as : List Addr) (qs : List (Key × V)), vs = as.map V.ref ∧ DR A.G F m ps qs ∧ Paired (fun (p : Addr) (kv : Key × V) => SqT X.K H p [kV kv.1, kv.2]) as qs
  | [], ps, vs, e, r => by
    cases e
    exact ⟨[], [], List.length_eq_zero_iff.mp (by simpa using r.1), .nil, .nil⟩
  | x :: xs, ps, vs, e, r => by
    have e : ((pairOf x).bind fun p => (pairsOf xs).map fun l => p :: l) = some ps := e
    obtain ⟨p, e1, e2⟩ := Option.bind_eq_some_iff.mp e
    obtain ⟨l, e3, rfl⟩ := Option.map_eq_some_iff.mp e2
    cases vs with
    | nil => exact absurd r.1 (by simp)
    | cons v vs =>
      obtain ⟨as, qs, rfl, h1, h2⟩ := pairs_inv hG c e3 r.tail
      unfold pairOf at e1
      split at e1
      · rename_i k y
        obtain ⟨ky, ek, rfl⟩ := Option.map_eq_some_iff.mp e1
        have rh := r.head
        cases rh with
        | @tup a _ us es hl hq =>
          match us, hl with
          | [u1, u2], hl =>
            have r1 := hq 0 _ _ rfl rfl
            have r2 := hq 1 _ _ rfl rfl
            have : ∃ lk, KyR ky lk ∧ u1 = kV lk := by
              unfold keyOf at ek
              split at ek
              · cases ek; cases r1; exact ⟨.inl _, .int _, rfl⟩
              · cases ek; cases r1; exact ⟨.inr _, .str _, rfl⟩
              · cases ek
            obtain ⟨lk, kr, rfl⟩ := this
            have es2 := sqT_mono c.sub es
            rw [hG] at es2
            exact ⟨a :: as, (lk, u2) :: qs, rfl, .cons ⟨kr, r2⟩ h1, .cons es2 h2⟩
      · cases e1
theorem so_dictl (hc : X.calm = true) (hG : A.G.K = X.K) : CallR X (.type "dict") (rP A .dictl) := by
  intro pins s σ H xs us Q I rs k
  obtain ⟨x, F, m, h, a, z, rfl, c, r, e, q⟩ := rP1 (f := vDictl) (fun _ _ => rfl) k
  cases a <;> simp only [vDictl] at e <;> try (cases e; done)
  obtain ⟨ps, e1, rfl⟩ := Option.map_eq_some_iff.mp e
  obtain ⟨a1, v1, rfl, h1, l1⟩ := rps_lst c r
  obtain ⟨as, qs, rfl, hd, hp⟩ := pairs_inv hG c e1 l1
  have key := call_dictP hc pins s σ H _ us (fun v H' => ∃ p, v = .ref p ∧ H p = none ∧ H' = L2.upd H p (.dK (mergeK [] qs))) I rs ⟨a1, as, qs, rfl, SqL.of h1, hp, fun p n => ⟨p, rfl, n, rfl⟩⟩
  refine thn key fun u s' ⟨v, H', I', rv, p, ev, n, eH⟩ => ?_
  subst ev eH
  refine lock_ep I' rv fun o => ?_
  have hm := dputs_merge (kvs := []) (ds := []) hd .nil (by simp)
  exact q _ _ _ _ (.fresh c n) (c.new n) ((hm.mono (Stp.fresh c n).ge).dct upd_same)
end
end PI

set_option Elab.async false
set_option linter.all false
set_option maxRecDepth 100000
set_option maxHeartbeats 4000000
/-! PIg: which text an expression of the evaluator stands for. -/
namespace PI
open PySem PySem.Spec PyProof.Rows L2

/-! ### names -/
inductive Gk where
  | fn (i n : Nat) | blt | con (v : IV)
  /-- a def called with n written values, keywords ks, the defaults: the parameters in their order -/
  | kw (i n : Nat) (ks : List Str) (pm : List (Sum Nat IV))
abbrev Tab := List (Str × Gk)
theorem tab_mem {T : Tab} {x : Str} {g : Gk} (h : T.lookup x = some g) : (x, g) ∈ T := by
  induction T with
  | nil => cases h
  | cons p r ih =>
    obtain ⟨y, k⟩ := p
    rw [List.lookup_cons] at h
    split at h
    · rename_i he
      cases h
      rw [eq_of_beq he]
      exact List.mem_cons_self
    · exact List.mem_cons_of_mem _ (ih h)
def cEq : IV → IV → Bool
  | .non, .non => true
  | .bl a, .bl b => a == b
  | .int i, .int j => decide (i = j)
  | .str s, .str t => decide (s = t)
  | _, _ => false
theorem cEq_eq {a b : IV} (h : cEq a b = true) : a = b := by
  cases a <;> cases b <;> simp [cEq] at h <;> first | rfl | (rw [h])
def pmEq : List (Sum Nat IV) → List (Sum Nat IV) → Bool
  | [], [] => true
  | .inl i :: r, .inl j :: s => decide (i = j) && pmEq r s
  | .inr v :: r, .inr w :: s => cEq v w && pmEq r s
  | _, _ => false
theorem pmEq_eq : ∀ {a b : List (Sum Nat IV)}, pmEq a b = true → a = b
  | [], [], _ => rfl
  | .inl i :: r, .inl j :: s, h => by
    have h2 : i = j ∧ pmEq r s = true := by simpa [pmEq] using h
    rw [h2.1, pmEq_eq h2.2]
  | .inr v :: r, .inr w :: s, h => by
    have h2 : cEq v w = true ∧ pmEq r s = true := by simpa [pmEq] using h
    rw [cEq_eq h2.1, pmEq_eq h2.2]
  | .inl _ :: _, .inr _ :: _, h => by simp [pmEq] at h
  | .inr _ :: _, .inl _ :: _, h => by simp [pmEq] at h
  | [], .inl _ :: _, h => by simp [pmEq] at h
  | [], .inr _ :: _, h => by simp [pmEq] at h
  | .inl _ :: _, [], h => by simp [pmEq] at h
  | .inr _ :: _, [], h => by simp [pmEq] at h
def kwIs (T : Tab) (x : Str) (f n : Nat) (nms : List (Option Str)) (pm : List (Sum Nat IV)) : Bool := T.any fun q => decide (q.1 = x) && (match q.2 with
  | .kw i m ks pm2 => (i == f) && (m == n) && decide (nms = ks.map some) && pmEq pm pm2
  | _ => false)
theorem kwIs_mem {T : Tab} {x : Str} {f n : Nat} {nms : List (Option Str)} {pm : List (Sum Nat IV)} (h : kwIs T x f n nms pm = true) : ∃ ks, (x, Gk.kw f n ks pm) ∈ T ∧ nms = ks.map some := by
  unfold kwIs at h
  obtain ⟨⟨y, g⟩, hm, hq⟩ := List.any_eq_true.mp h
  obtain ⟨h1, h2⟩ := Bool.and_eq_true_iff.mp hq
  have h1 : y = x := by simpa using h1
  subst h1
  split at h2
  · rename_i i m ks pm2 eq
    simp only [Bool.and_eq_true, beq_iff_eq, decide_eq_true_eq] at h2
    obtain ⟨⟨⟨rfl, rfl⟩, h3⟩, h4⟩ := h2
    rw [← pmEq_eq h4] at eq
    have eq : g = _ := eq
    rw [eq] at hm
    exact ⟨ks, hm, h3⟩
  · cases h2
def gl (sc : Scope) (x : Str) : Bool := match sc.names.lookup x with
  | some .globalImplicit => true
  | _ => false
def vis (sc : Scope) (x : Str) : Bool := match sc.names.lookup x with
  | some .local => true
  | some .cell => true
  | some .free => true
  | _ => false
def oddN (x : Str) : Bool := x == ("__debug__" : Str) || x == ("__classdict__" : Str)
def bltN (T : Tab) (sc : Scope) (x : Str) (nm : String) : Bool := decide (x = (nm : Str)) && gl sc x && (match T.lookup x with
  | some .blt => true
  | _ => false)
def star : Expr → Bool
  | .Starred _ _ => true
  | _ => false
def slc : Expr → Bool
  | .Slice _ _ _ _ => true
  | _ => false
def noIf : Expr → Bool
  | .IfExp _ _ _ _ => false
  | _ => true
def isBo : Expr → Bool
  | .BoolOp _ _ _ => true
  | _ => false
theorem star_each {e : Expr} {es : List Expr} {env : Env} (h : star e = false) : starEach (e :: es) env = (false, eval e env) :: starEach es env := by
  cases e <;> first | rfl | (exact absurd h (by simp [star]))
theorem slc_plain {b : Expr} (h : slc b = false) : PlainIx b := by
  intro o i
  cases b <;> first | rfl | (exact absurd h (by simp [slc]))
theorem star_any {pos : Pos} {env : Env} : ∀ {es : List Expr}, es.all (fun e => !star e) = true → (backTo pos (starEach es env)).any (·.1) = false
  | [], _ => rfl
  | e :: r, h => by
    have h2 : star e = false ∧ r.all (fun e => !star e) = true := by simpa using h
    rw [star_each h2.1]
    have ih := star_any (pos := pos) (env := env) h2.2
    unfold backTo at ih ⊢
    simpa using ih
theorem gl_of {X : Cx} {x : Str} (h : gl X.env.scope x = true) : Gl X x := by
  show X.env.scope.names.lookup x = _
  unfold gl at h
  split at h
  · assumption
  · cases h
theorem vis_of {sc : Scope} {x : Str} (h : vis sc x = true) : Vis sc x := by
  unfold vis at h
  unfold Vis
  split at h
  · exact .inl (by assumption)
  · exact .inr (.inl (by assumption))
  · exact .inr (.inr (by assumption))
  · cases h

/-! ### operations by their text -/
def binOf : Pr → Option Operator
  | .add => some .Add | .sub => some .Sub | .mul => some .Mult | .fdiv => some .FloorDiv | .mod => some .Mod | .pow => some .Pow | _ => none
def cmpOf : Pr → Option CmpOp
  | .eq => some .Eq | .ne => some .NotEq | .lt => some .Lt | .le => some .LtE | .gt => some .Gt | .ge => some .GtE | .inn => some .In | .notin => some .NotIn | _ => none
def bltOf : Pr → Option String
  | .len => some "len" | .abs => some "abs" | .max => some "max" | .all => some "all" | .int => some "int" | .bool => some "bool" | .tuple => some "tuple" | .list => some "list" | .sorted => some "sorted" | .dictl => some "dict" | .repr => some "repr" | _ => none
def tyIs (T : Tab) (sc : Scope) (t : TyC) : Expr → Bool
  | .Name x _ => bltN T sc x (tyN t)
  | _ => false
def tysAre (T : Tab) (sc : Scope) : List TyC → List Expr → Bool
  | [], [] => true
  | t :: ts, e :: es => tyIs T sc t e && tysAre T sc ts es
  | _, _ => false
def opnd (T : Tab) (sc : Scope) (p : Pr) (e : Expr) : Option (List Expr) := match p, e with
  | .neg, .UnaryOp .USub a _ => some [a]
  | .isnon, .Compare a [.Is] [.Constant .none _ _] _ => some [a]
  | .notnon, .Compare a [.IsNot] [.Constant .none _ _] _ => some [a]
  | .isb b, .Compare a [.Is] [.Constant (.bool c) _ _] _ => if b = c then some [a] else none
  | .notb b, .Compare a [.IsNot] [.Constant (.bool c) _ _] _ => if b = c then some [a] else none
  | .isi ts, .Call (.Name f _) [a, t] [] _ => if bltN T sc f "isinstance" && !star t then (match ts, t with
      | [t1], e => if tyIs T sc t1 e then some [a] else none
      | ts, .Tuple es _ _ => if tysAre T sc ts es && ts.length ≤ 6 then some [a] else none
      | _, _ => none) else none
  | .item, .Subscript a i _ => if slc i then none else some [a, i]
  | .cut lo hi, .Subscript a (.Slice l u none _) _ => if lo = l.isSome ∧ hi = u.isSome then some (a :: (l.toList ++ u.toList)) else none
  | .ditems, .Call (.Name f _) [.Call (.Attribute (.Name x p) nm ap) [] [] cp] [] _ => if bltN T sc f "list" && decide (nm = ("items" : Str)) && (ap.endLine == cp.line) then some [.Name x p] else none
  | p, .BinOp a op b _ => if binOf p = some op then some [a, b] else none
  | p, .Compare a [op] [b] _ => if cmpOf p = some op ∧ behindInMarks op b = false then some [a, b] else none
  | p, .Call (.Name f _) (a :: r) [] _ => (match bltOf p with
      | some nm => if bltN T sc f nm && (a :: r).all (fun e => !star e) then some (a :: r) else none
      | none => none)
  | _, _ => none
def chkC (T : Tab) (sc : Scope) (v : IV) (e : Expr) : Bool := match e with
  | .Constant .none _ _ => (match v with
    | .non => true
    | _ => false)
  | .Constant (.bool b) _ _ => (match v with
    | .bl c => b == c
    | _ => false)
  | .Constant (.int i) _ _ => (match v with
    | .int j => decide (i = j)
    | _ => false)
  | .Constant (.str x) _ _ => (match v with
    | .str s => decide (x.cps.toList = s)
    | _ => false)
  | .Name x _ => gl sc x && !(oddN x) && (match v, T.lookup x with
    | .int i, some (.con (.int j)) => decide (i = j)
    | .str i, some (.con (.str j)) => decide (i = j)
    | _, _ => false)
  | .Dict [some (.Constant .none _ _)] [.Constant (.int 1) _ _] _ => (match v with
    | .odd 0 => true
    | _ => false)
  | .Dict [some (.Tuple [.Constant (.str x) _ _] _ _)] [.Constant (.int 1) _ _] _ => (match v with
    | .odd 1 => decide (x.cps.toList = [97])
    | _ => false)
  | _ => false
def chkN (N : List Str) (sc : Scope) (i : Nat) (e : Expr) : Bool := match e with
  | .Name x _ => decide (N[i]? = some x) && vis sc x && !(oddN x)
  | _ => false
def fnIs (T : Tab) (sc : Scope) (x : Str) (f n : Nat) : Bool := gl sc x && !(oddN x) && (match T.lookup x with
  | some (.fn g k) => decide (g = f) && decide (k = n)
  | _ => false)
/-- a walk's text: its source's operands -/
def walkE (T : Tab) (sc : Scope) (k : Sk) (e : Expr) : Option (List Expr) := match k, e with
  | .range, .Call (.Name f _) [a] [] _ => if bltN T sc f "range" && !star a then some [a] else none
  | .zip, .Call (.Name f _) [a, b] [] _ => if bltN T sc f "zip" && !star a && !star b then some [a, b] else none
  | .items, .Call (.Attribute (.Name x p) m ap) [] [] cp => if m = ("items" : Str) ∧ (ap.endLine == cp.line) = true then some [.Name x p] else none
  | .val, .Call _ _ _ _ => some [e]
  | .val, .Name _ _ => some [e]
  | .val, .Subscript _ _ _ => some [e]
  | .val, .Tuple _ _ _ => some [e]
  | .val, .List _ _ => some [e]
  | .val, .BinOp _ _ _ _ => some [e]
  | _, _ => none
/-- a local name (c: or a cell of the def's own) -/
def locN (c : Bool) (sc : Scope) (x : Str) : Bool := match sc.names.lookup x with
  | some .local => true
  | some .cell => c
  | _ => false
/-- a target's name and slot -/
def chkT1 (c : Bool) (N : List Str) (sc : Scope) (i : Nat) (e : Expr) : Bool := match e with
  | .Name x _ => decide (N[i]? = some x) && locN c sc x
  | _ => false
def chkTs (c : Bool) (N : List Str) (sc : Scope) : List Nat → List Expr → Bool
  | [], [] => true
  | i :: is, e :: es => chkT1 c N sc i e && chkTs c N sc is es
  | _, _ => false
def chkT (c : Bool) (N : List Str) (sc : Scope) : Tg → Expr → Bool
  | .one i, e => chkT1 c N sc i e
  | .many is, .Tuple es _ _ => chkTs c N sc is es
  | _, _ => false
/-- pairs are taken apart at once -/
def pairT : Sk → Tg → Bool
  | .zip, .one _ => false
  | .items, .one _ => false
  | _, _ => true
def slotsT : Tg → List Nat
  | .one i => [i]
  | .many is => is
def ownT2 (N : List Str) (is : List Nat) : List (Str × Nat) := is.filterMap fun i => (N[i]?).map fun x => (x, i)
/-- a display's keys: written ints and texts -/
def keyOk : Ky → Option Expr → Bool
  | .int i, some (.Constant (.int j) _ _) => decide (i = j)
  | .str s, some (.Constant (.str x) _ _) => decide (x.cps.toList = s)
  | _, _ => false
def keysOk : List Ky → List (Option Expr) → Bool
  | [], [] => true
  | k :: ks, e :: es => keyOk k e && keysOk ks es
  | _, _ => false
/-- an operand: a list of the frame's own, or any -/
def oper (o : Option Nat) (N : List Str) (sc : Scope) (x : Expr) (d : Bool) : Bool := match o with
  | some i => chkN N sc i x
  | none => d
mutual
def chk (N : List Str) (T : Tab) : E → Scope → Expr → Bool
  | .c v, sc, e => chkC T sc v e
  | .slot i, sc, e => chkN N sc i e
  | .own _, _, _ => false
  | .pr p es, sc, e => (match opnd T sc p e with
    | some xs => chka N T es sc xs
    | none => false)
  | .tup es, sc, e => (match e with
    | .Tuple xs _ _ => chks N T es sc xs
    | _ => false)
  | .lst es, sc, e => (match e with
    | .List xs _ => chks N T es sc xs
    | _ => false)
  | .chain p q a b c, sc, e => (match e with
    | .Compare x [o1, o2] [y, z] _ => decide (cmpOf p = some o1) && decide (cmpOf q = some o2) && !(lastMarks [o1, o2] [y, z]) && chk N T a sc x && chk N T b sc y && chk N T c sc z
    | _ => false)
  | .join s a, sc, e => (match e with
    | .Call (.Attribute (.Constant (.str x) _ _) nm ap) [y] [] cp => decide (x.cps.toList = s) && (nm == ("join" : Str)) && (ap.endLine == cp.line) && !(star y) && oper (isOwn a) N sc y (chk N T a sc y)
    | _ => false)
  | .call f es, sc, e => (match e with
    | .Call (.Name x _) xs [] _ => fnIs T sc x f es.length && chks N T es sc xs
    | _ => false)
  | .callk f pm es, sc, e => (match e with
    | .Call (.Name x _) args kws _ => gl sc x && !(oddN x) && kwIs T x f args.length (kws.map fun k => k.arg) pm && !(args.isEmpty && kws.isEmpty) && chks N T es sc (args ++ kws.map fun k => k.value)
    | _ => false)
  | .and a b, sc, e => (match e with
    | .BoolOp .And (x :: y :: r) pos => noIf x && noIf y && chk N T a sc x && chk N T b sc (if r.isEmpty then y else .BoolOp .And (y :: r) pos)
    | _ => false)
  | .or a b, sc, e => (match e with
    | .BoolOp .Or (x :: y :: r) pos => noIf x && noIf y && chk N T a sc x && chk N T b sc (if r.isEmpty then y else .BoolOp .Or (y :: r) pos)
    | _ => false)
  | .not a, sc, e => (match e with
    | .UnaryOp .Not x _ => noIf x && chk N T a sc x
    | _ => false)
  | .ife t a b, sc, e => (match e with
    | .IfExp x y z _ => noIf x && chk N T t sc x && chk N T a sc y && chk N T b sc z
    | _ => false)
  | .comp tg k src ifs elt, sc, e => (match e with
    | .ListComp el [⟨te, it, is, 0⟩] scope _ => (match walkE T sc k it with
      | some xs => pairT k tg && chka N T src sc xs && blkC N sc scope (ownT2 N (slotsT tg)) && chkT false N (L2.relS scope sc) tg te && chki N T ifs (L2.relS scope sc) is && chk N T elt (L2.relS scope sc) el
      | none => false)
    | _ => false)
  | .dcomp tg k src ke ve, sc, e => (match e with
    | .DictComp kx vx [⟨te, it, [], 0⟩] scope _ => (match walkE T sc k it with
      | some xs => pairT k tg && chka N T src sc xs && blkC N sc scope (ownT2 N (slotsT tg)) && chkT false N (L2.relS scope sc) tg te && chk N T ke (L2.relS scope sc) kx && chk N T ve (L2.relS scope sc) vx
      | none => false)
    | _ => false)
  | .dict ks es, sc, e => (match e with
    | .Dict keys vals _ => keysOk ks keys && chks N T es sc vals && (es.length == ks.length) && decide (ks.length ≤ 15)
    | _ => false)
termination_by structural x => x
def chks (N : List Str) (T : Tab) : List E → Scope → List Expr → Bool
  | [], _, xs => xs.isEmpty
  | e :: r, sc, xs => (match xs with
    | x :: xs => !star x && chk N T e sc x && chks N T r sc xs
    | [] => false)
termination_by structural x => x
def chka (N : List Str) (T : Tab) : List E → Scope → List Expr → Bool
  | [], _, xs => xs.isEmpty
  | e :: r, sc, xs => (match xs with
    | x :: xs => !star x && oper (isOwn e) N sc x (chk N T e sc x) && chka N T r sc xs
    | [] => false)
termination_by structural x => x
def chki (N : List Str) (T : Tab) : List E → Scope → List Expr → Bool
  | [], _, xs => xs.isEmpty
  | e :: r, sc, xs => (match xs with
    | x :: xs => noIf x && r.isEmpty && chk N T e sc x && chki N T r sc xs
    | [] => false)
termination_by structural x => x
end
end PI

set_option Elab.async false
set_option linter.all false
set_option maxRecDepth 100000
set_option maxHeartbeats 4000000
/-! PIg0: displays of one key that is None or a tuple of a text. -/
namespace PI
open PySem PySem.Spec PyProof.Rows L2
/-- a new locked dict of one entry: its key is None; a new tuple of a text -/
def tOdd0 : TE := fun σ H Q => ∀ p o e ep, H p = none → o.ExactDict → o.data = .dict #[e] ep → (p == sysModules) = false → e.key = .none → Q (.ref p) (L2.upd H p (.frz o (.ext fun _ => True)))
def tOdd1 (x : Str) : TE := fun σ H Q => ∀ p t o e ep, H p = none → H t = none → p ≠ t → o.ExactDict → o.data = .dict #[e] ep → (p == sysModules) = false → e.key = .ref t → Q (.ref p) (L2.upd (L2.upd H t (.tup [.str x])) p (.frz o (.ext fun _ => True)))
section
variable {X : Cx} {pos p1 p2 : Pos} {k1 k2 k3 : Nat} {p3 : Pos} {x : Str}
theorem odd_new {P : Program} {w : World} {H : Hp} {h : Heap} {p : Addr} {o : Obj} (e : h.get? p = some o) : ObjOk P w H h p (.frz o (.ext fun _ => True)) := ⟨e, trivial, ⟨o, e⟩, fun _ _ _ _ => trivial⟩
theorem empty_of {P : Program} {w : World} {h : Heap} {a : Addr} (d : h.DictOf (mixKind P w) a []) : ∃ o ep, h.get? a = some o ∧ o.ExactDict ∧ o.data = .dict #[] ep := by
  obtain ⟨o, es, ep, h1, h2, h3, _, h5, _⟩ := d
  have : es.toList = [] := List.length_eq_zero_iff.mp h5.length
  have : es = #[] := by simpa using this
  subst this
  exact ⟨o, ep, h1, h2, h3⟩
theorem pe_odd0 : PE X (.Dict [some (.Constant .none k1 p1)] [.Constant (.int 1) k2 p2] pos) tOdd0 := by
  refine ⟨fun pins s σ H Q I q => ?_⟩
  have hn := I.hok.fresh (Nat.le_refl s.heap.objs.size)
  have I1 := I.laid (a := s.heap.objs.size) (o := .dK []) (t' := s.toks) (h' := s.heap.push { cls := .type "dict", data := .dict #[] })
    (fun _ _ z => Heap.get?_push_of_some _ z) (Nat.le_refl _)
    (dk_empty s.heap I.big)
  obtain ⟨z, hd, vs0, r0, dd⟩ := dk_of I1.hok upd_same
  cases r0
  refine wpAny_Dict_walk (knd := noneKind X.prog X.w) rfl rfl (by simp) (by simp) ?_
  refine pairTrees_cons_walk (thn (pe_non.run pins _ σ _ (fun v H1 => v = .non ∧ H1 = L2.upd H s.heap.objs.size (.dK [])) I1 ⟨rfl, rfl⟩) ?_)
  rintro u1 s1 ⟨v1, H1, I2, rv1, rfl, rfl⟩
  cases rv1
  refine thn (pe_int.run pins _ σ _ (fun v H1 => v = .int 1 ∧ H1 = L2.upd H s.heap.objs.size (.dK [])) I2 ⟨rfl, rfl⟩) ?_
  rintro u2 s2 ⟨v2, H2, I3, rv2, rfl, rfl⟩
  refine pairTrees_nil_walk ?_
  obtain ⟨z3, hd3, vs3, r3, dd3⟩ := dk_of I3.hok upd_same
  cases r3
  obtain ⟨o3, ep3, g1, g2, g3⟩ := empty_of dd3
  refine ⟨[(none, u2)], ⟨rfl, rfl, trivial⟩, ⟨o3, #[], ep3, g1, g2, g3, fun e he => by simp at he, .nil, by simp⟩, fun h' dd' hs => ?_⟩
  obtain ⟨o, es, ep, e1, e2, e3, _, e5, _⟩ := dd'
  have e5 : Pairs (noneKind X.prog X.w) es.toList [(none, u2)] := e5
  obtain ⟨en, he⟩ : ∃ en, es.toList = [en] := by
    have := e5.length
    match hh : es.toList, this with
    | [en], _ => exact ⟨en, rfl⟩
    | [], h => simp at h
    | _ :: _ :: _, h => simp at h
  have he2 : es = #[en] := by
    apply Array.toList_inj.mp
    rw [he]
  subst he2
  rw [he] at e5
  have hk : en.key = .none := by
    cases e5 with
    | cons a _ _ => exact nk_none a
  refine ⟨.ref s.heap.objs.size, _, d_write (a := s.heap.objs.size) (ob := .frz o (.ext fun _ => True)) I3 (by rw [upd_same]; exact True.intro) hs ⟨o, e1⟩ (odd_new e1), rfl, ?_⟩
  have hu2 : ∀ u : HO, L2.upd (L2.upd H s.heap.objs.size (.dK [])) s.heap.objs.size u = L2.upd H s.heap.objs.size u := fun u => upd_upd
  rw [hu2]
  exact q _ o en ep hn e2 e3 hd3 hk
theorem pe_odd1 (hu : X.A.units + 64 < cLine) : PE X (.Dict [some (.Tuple [.Constant (.str x) k3 p3] k1 p1)] [.Constant (.int 1) k2 p2] pos) (tOdd1 x) := by
  refine ⟨fun pins s σ H Q I q => ?_⟩
  have hn := I.hok.fresh (Nat.le_refl s.heap.objs.size)
  have I1 := I.laid (a := s.heap.objs.size) (o := .dK []) (t' := s.toks) (h' := s.heap.push { cls := .type "dict", data := .dict #[] })
    (fun _ _ z => Heap.get?_push_of_some _ z) (Nat.le_refl _)
    (dk_empty s.heap I.big)
  let keys : List (Option Expr) := [some (.Tuple [.Constant (.str x) k3 p3] k1 p1)]
  let values : List Expr := [.Constant (.int 1) k2 p2]
  have hz := zip_pairTrees keys values X.env pos rfl rfl
  have hl : (pairTrees keys values X.env pos).length = 1 := pairTrees_length keys values X.env pos rfl rfl
  have go : wpAny (model X.prog X.w) X.A (subDict (pairTrees keys values X.env pos)) (fun d s' => wpAny (model X.prog X.w) X.A (pure (Value.ref d)) (EP X pins σ Q) X.xe s') X.xe s := by
    refine wpAny_subDictH (knd := tupleKind (mixKind X.prog X.w)) (show X.A.units < cLine by omega) (by rw [hl]; decide) ?_
    refine pairTrees_cons_walk (thn ((pe_tup (pa_cons pe_str pa_nil)).run pins _ σ _ (fun v H1 => ∃ t, v = .ref t ∧ L2.upd H s.heap.objs.size (.dK []) t = none ∧ H1 = L2.upd (L2.upd H s.heap.objs.size (.dK [])) t (.tup [.str x])) I1 ⟨by simp [sizeLine_eq], fun t ht => ⟨t, rfl, ht, rfl⟩⟩) ?_)
    rintro u1 s1 ⟨v1, H1, I2, rv1, t, rfl, ht, rfl⟩
    cases rv1
    refine thn (pe_int.run pins _ σ _ (fun v H2 => v = .int 1 ∧ H2 = L2.upd (L2.upd H s.heap.objs.size (.dK [])) t (.tup [.str x])) I2 ⟨rfl, rfl⟩) ?_
    rintro u2 s2 ⟨v2, H2, I3, rv2, rfl, rfl⟩
    refine pairTrees_nil_walk ?_
    have hne : s.heap.objs.size ≠ t := fun z => by rw [← z, upd_same] at ht; cases ht
    have hH : H t = none := by rw [upd_ne (Ne.symm hne)] at ht; exact ht
    obtain ⟨z3, hd3, vs3, r3, dd3⟩ := dk_of I3.hok (a := s.heap.objs.size) (by rw [upd_ne hne, upd_same])
    cases r3
    obtain ⟨o3, ep3, g1, g2, g3⟩ := empty_of dd3
    obtain ⟨_, its, rv, ot, f1, f2, n2, f3⟩ := (show ObjOk X.prog X.w _ s2.heap t (.tup [.str x]) from I3.hok t _ upd_same)
    have hits : ItemsAre (mixKind X.prog X.w) [.inr x] its.toArray.toList := by
      cases rv with
      | cons a b =>
        cases b
        obtain ⟨tk, rfl⟩ := a
        exact .cons (mixKind_str _ _ x tk) .nil
    refine ⟨[([.inr x], t, u2)], ⟨rfl, rfl, ⟨ot, its.toArray, n2, f1, f2, f3, hits⟩, trivial⟩, ⟨o3, #[], ep3, g1, g2, g3, by simp, by simp, by simp⟩, fun h' tk dd' hs => ?_⟩
    obtain ⟨o, es, ep, e1, e2, e3, e4, _, _⟩ := dd'
    have he2 : es = #[entryOfKey (tupleKind (mixKind X.prog X.w)) ([.inr x], t, u2)] := by
      apply Array.toList_inj.mp
      rw [e4]
      rfl
    subst he2
    refine wpAny_pure ⟨.ref s.heap.objs.size, _, d_write (a := s.heap.objs.size) (ob := .frz o (.ext fun _ => True)) I3 (by rw [upd_ne hne, upd_same]; exact True.intro) hs ⟨o, e1⟩ (odd_new e1), rfl, ?_⟩
    have e : L2.upd (L2.upd (L2.upd H s.heap.objs.size (.dK [])) t (.tup [.str x])) s.heap.objs.size (.frz o (.ext fun _ => True)) = L2.upd (L2.upd H t (.tup [.str x])) s.heap.objs.size (.frz o (.ext fun _ => True)) := by
      funext b
      unfold L2.upd
      by_cases hb : b = s.heap.objs.size
      · simp [hb]
      · simp [hb]
    rw [e]
    exact q _ t o _ ep hn hH hne e2 e3 hd3 rfl
  show wpAny (model X.prog X.w) X.A (eval (.Dict keys values pos) X.env) _ _ s
  have e := arm_eval_Dict keys values pos X.env
  rw [hz, dictDisplay_pairs _ (fun z => by rw [z] at hl; cases hl) (by omega)] at e
  rw [e]
  exact wpAny_bind (wpAny_standAt (wpAny_bind go))
end
end PI

set_option Elab.async false
set_option linter.all false
set_option maxRecDepth 100000
set_option maxHeartbeats 4000000
/-! PIh: the evaluator's values of expressions are the machine's. -/
namespace PI
open PySem PySem.Spec PyProof.Rows L2

/-! ### a def's promise -/
/-- .. where no text of a container is being made (the guards are none) -/
structure FnG (P : Program) (w : World) (K : PySem.W.Frag) (mg : Str → Option Value) (base : Heap) (CX : CXT) (k : Nat) (f : Addr) (fd : FuncData) (ps : List Str) (sp : Sp) : Prop where
  len : ∀ vs H Q E, sp vs H Q E → vs.length = ps.length
  run : ∀ (A : Around) (outer : List Env) (s : Shared) (H : Hp) (args : Args) (us : List Value) (vs : List V) (Q : VK) (E : XK), Room k A → A.guards = some [] → Env0 P w K mg base A outer s H → BindsTo s fd args (ps.zip us) → Vals vs us → sp vs H Q E →
    codeAny (model P w) A (.call (.ref f) args) (CR CX outer P w H s Q E) s
def spF (G : Gi) (xi : XI) (fs : Nat → Option Fn) (W n i : Nat) : Sp := fun vs H Q E => ∃ F m h xs, Core G F m h H ∧ RpL G F m xs vs ∧ tP ⟨G, xi, fun c d _ H => E c d H⟩ (relV G) (callF fs W n i xs) F m h [] H Q
def GkOk (fs : Nat → Option Fn) (W n : Nat) (CX : CXT) (A : Ar) (X : Cx) (x : Str) : Gk → Prop
  | .blt => X.mg x = none
  | .con v => ∃ vv u, X.mg x = some u ∧ RelV vv u ∧ ∀ F m, Rp A.G F m v vv
  | .kw i k ks pm => ∃ fd ps g gV, X.mg x = some (.ref (A.G.fa i)) ∧ PySem.W.keepIn X.K (.ref (A.G.fa i)) = true ∧ KBn X.K fd ps k ks g gV ∧ FnG X.prog X.w X.K X.mg X.base CX n (A.G.fa i) fd ps (spF A.G A.xi fs W n i) ∧
    ∀ (F : Hp) (m : List Addr) (xs rs : List IV) (vs zs : List V), RpL A.G F m xs (vs ++ zs) → vs.length = k → zs.length = ks.length → permV pm xs = some rs → RpL A.G F m rs (gV vs zs)
  | .fn i k => ∃ fd ps, X.mg x = some (.ref (A.G.fa i)) ∧ PySem.W.keepIn X.K (.ref (A.G.fa i)) = true ∧ ps.length = k ∧ Binds X.K fd ps [] ∧ FnG X.prog X.w X.K X.mg X.base CX n (A.G.fa i) fd ps (spF A.G A.xi fs W n i)
structure Sta (fs : Nat → Option Fn) (W n : Nat) (CX : CXT) (T : Tab) (A : Ar) (X : Cx) : Prop where
  hG : A.G.K = X.K
  room : Room n X.A
  gd : X.A.guards = some []
  calm : X.calm = true
  nd : X.N.Nodup
  tab : ∀ x g, (x, g) ∈ T → GkOk fs W n CX A X x g
  pass : ∀ σ, PassesAt CX X σ (WE A.W σ)
  nox : ∀ (st : List Env) (H : Hp) (s : Shared) (e : Value) (s' : Shared), CX st H s (fun _ _ _ => False) e s' → False

theorem M.assoc {α β γ : Type} (m : M α) (f : α → M β) (g : β → M γ) : (m.bind f).bind g = m.bind fun a => (f a).bind g := by
  funext h
  unfold M.bind
  cases m h <;> rfl
theorem M.pure_bind {α β : Type} (a : α) (f : α → M β) : (M.pure a).bind f = f a := rfl

/-! ### lists of expressions -/
def tList : List TE → TA
  | [] => tNil
  | t :: r => tCons t (tList r)
def evo (Φ : Nat → List IV → M IV) (e : E) (fr : Fr) : M IV := evo1 e (ev Φ e fr) fr
section
variable {A : Ar} {Φ : Nat → List IV → M IV}
theorem evs_run {γ δ : Type} {rel2 : Rel γ δ} {fr : Fr} {σ : L2.St} {Q' : δ → Hp → Prop} : ∀ (es : List E) {F : Hp} {m : List Addr} {h : Cells} {H : Hp} {f : List IV → M γ} {Qc : List V → Hp → Prop}, Fok A.G F m fr h σ H → tP A rel2 ((evs Φ es fr).bind f) F m h σ H Q' →
    (∀ F' m' h' H' xs vs, Stp F F' m m' H H' → Fok A.G F' m' fr h' σ H' → RpL A.G F' m' xs vs → tP A rel2 (f xs) F' m' h' σ H' Q' → Qc vs H') → tList (es.map fun e => tE A (ev Φ e)) σ H Qc
  | [], F, m, h, H, f, Qc, K, k, hq => hq F m h H [] [] .refl K RpL.nil k
  | e :: r, F, m, h, H, f, Qc, K, k, hq => by
    have k2 : tP A rel2 ((ev Φ e fr).bind fun v => (evs Φ r fr).bind fun vs => f (v :: vs)) F m h σ H Q' := by
      have e1 : (evs Φ (e :: r) fr).bind f = (ev Φ e fr).bind fun v => (evs Φ r fr).bind fun vs => f (v :: vs) := by
        show (((ev Φ e fr).bind fun v => (evs Φ r fr).bind fun vs => M.pure (v :: vs))).bind f = _
        rw [M.assoc]
        congr 1
        funext v
        rw [M.assoc]
        rfl
      rw [e1] at k
      exact k
    refine ⟨F, m, fr, h, K, (tP.bind (rel := relV A.G) K k2).mono fun v H1 ⟨F1, m1, h1, x, s1, K1, r1, k1⟩ => ?_⟩
    exact evs_run r K1 k1 fun F' m' h' H' xs vs s2 K2 r2 k2 => hq F' m' h' H' (x :: xs) (v :: vs) (s1.trans s2) K2 (.cons (r1.mono s2.ge) r2) k2
theorem RpS.step {G : Gi} {F F' : Hp} {m m' : List Addr} {H H' : Hp} {x : IV} {v : V} (t : Stp F F' m m' H H') (r : RpS G F m H x v) : RpS G F' m' H' x v := by
  rcases r with r | ⟨a, xs, vs, rfl, rfl, h1, h3, h2, r⟩
  · exact .inl (r.mono t.ge)
  · have k : SlotOk G F' m' H' (.own xs) (some (.ref a)) := SlotOk.mono t ⟨a, vs, rfl, h1, r, h2, h3⟩
    obtain ⟨a', vs', e, k1, k2, k3, k4⟩ := k
    cases e
    exact .inr ⟨a, xs, vs', rfl, rfl, k1, k4, k3, k2⟩
theorem RpSL.cons' {G : Gi} {F : Hp} {m : List Addr} {H : Hp} {x : IV} {v : V} {xs : List IV} {vs : List V} (a : RpS G F m H x v) (b : RpSL G F m H xs vs) : RpSL G F m H (x :: xs) (v :: vs) := by
  refine ⟨by simp [b.1], fun i y u h1 h2 => ?_⟩
  cases i with
  | zero => simp at h1 h2; subst h1; subst h2; exact a
  | succ i => exact b.2 i y u (by simpa using h1) (by simpa using h2)
theorem eva_run {γ δ : Type} {rel2 : Rel γ δ} {fr : Fr} {σ : L2.St} {Q' : δ → Hp → Prop} : ∀ (es : List E) {F : Hp} {m : List Addr} {h : Cells} {H : Hp} {f : List IV → M γ} {Qc : List V → Hp → Prop}, Fok A.G F m fr h σ H → tP A rel2 ((eva Φ es fr).bind f) F m h σ H Q' →
    (∀ F' m' h' H' xs vs, Stp F F' m m' H H' → Fok A.G F' m' fr h' σ H' → RpSL A.G F' m' H' xs vs → tP A rel2 (f xs) F' m' h' σ H' Q' → Qc vs H') → tList (es.map fun e => tS A (evo Φ e)) σ H Qc
  | [], F, m, h, H, f, Qc, K, k, hq => hq F m h H [] [] .refl K ⟨rfl, fun i x v h => by simp at h⟩ k
  | e :: r, F, m, h, H, f, Qc, K, k, hq => by
    have k2 : tP A rel2 ((evo Φ e fr).bind fun v => (eva Φ r fr).bind fun vs => f (v :: vs)) F m h σ H Q' := by
      have e1 : (eva Φ (e :: r) fr).bind f = (evo Φ e fr).bind fun v => (eva Φ r fr).bind fun vs => f (v :: vs) := by
        show (((evo Φ e fr).bind fun v => (eva Φ r fr).bind fun vs => M.pure (v :: vs))).bind f = _
        rw [M.assoc]
        congr 1
        funext v
        rw [M.assoc]
        rfl
      rw [e1] at k
      exact k
    refine ⟨F, m, fr, h, K, (tP.bind (rel := relS A.G) K k2).mono fun v H1 ⟨F1, m1, h1, x, s1, K1, r1, k1⟩ => ?_⟩
    exact eva_run r K1 k1 fun F' m' h' H' xs vs s2 K2 r2 k2 => hq F' m' h' H' (x :: xs) (v :: vs) (s1.trans s2) K2 (RpSL.cons' (r1.step s2) r2) k2
/-- an operation on operands -/
theorem pr_run {p : Pr} {es : List E} {σ : L2.St} {H : Hp} {Q : VK} (k : tE A (ev Φ (.pr p es)) σ H Q) : tList (es.map fun e => tS A (evo Φ e)) σ H fun vs H2 => rP A p vs H2 Q := by
  obtain ⟨F, m, fr, h, K, k⟩ := k
  refine eva_run (rel2 := relV A.G) es K (show tP A (relV A.G) ((eva Φ es fr).bind fun vs => fun h => M.opt (pr p vs h) h) F m h σ H Q from k) fun F' m' h' H' xs vs s K' r k' => ?_
  obtain ⟨z, e, q⟩ := tP.opt (show tP A (relV A.G) (M.opt (pr p xs h')) F' m' h' σ H' Q from k')
  exact ⟨F', m', h', xs, z, K'.core, r, e, q⟩
end

/-! ### names -/
section
variable {X : Cx} {A : Ar} {fs : Nat → Option Fn} {W n : Nat} {CX : CXT} {T : Tab}
theorem slot_get {F : Hp} {m : List Addr} {fr : Fr} {h : Cells} {σ : L2.St} {H : Hp} (K : Fok A.G F m fr h σ H) {i : Nat} {s : SV} (e : fr[i]? = some s) : ∃ v, σ[i]? = some v ∧ SlotOk A.G F m H s v := by
  have hi : i < σ.length := by rw [← K.len]; exact (List.getElem?_eq_some_iff.mp e).1
  exact ⟨σ[i], List.getElem?_eq_getElem hi, K.slot i s _ e (List.getElem?_eq_getElem hi)⟩
theorem chkN_inv {N : List Str} {sc : Scope} {i : Nat} {e : Expr} (h : chkN N sc i e = true) : ∃ x pos, e = .Name x pos ∧ N[i]? = some x ∧ Vis sc x ∧ (x == ("__debug__" : Str)) = false ∧ (x == ("__classdict__" : Str)) = false := by
  unfold chkN at h
  split at h
  · rename_i x pos
    simp only [Bool.and_eq_true, decide_eq_true_eq, Bool.not_eq_true', oddN, Bool.or_eq_false_iff] at h
    exact ⟨x, pos, rfl, h.1.1, vis_of h.1.2, h.2.1, h.2.2⟩
  · cases h
theorem pe_slot {i : Nat} {e : Expr} (hc : chkN X.N X.env.scope i e = true) : PE X e (tE A fun fr => M.opt (slotV fr i)) := by
  obtain ⟨x, pos, rfl, hN, hv, h1, h2⟩ := chkN_inv hc
  refine (pe_var hN hv h1 h2).imp fun σ H Q k => ?_
  obtain ⟨F, m, fr, h, K, k⟩ := k
  obtain ⟨z, e, q⟩ := tP.opt k
  unfold slotV at e
  split at e
  · rename_i v ef
    cases e
    obtain ⟨w, ew, u, rfl, r⟩ := slot_get K ef
    exact ⟨u, ew, q F m H u .refl K.core r⟩
  · cases e
theorem pe_own {i : Nat} {e : Expr} (hc : chkN X.N X.env.scope i e = true) : PE X e (tS A fun fr => M.opt (ownV fr i)) := by
  obtain ⟨x, pos, rfl, hN, hv, h1, h2⟩ := chkN_inv hc
  refine (pe_var hN hv h1 h2).imp fun σ H Q k => ?_
  obtain ⟨F, m, fr, h, K, k⟩ := k
  obtain ⟨z, e, q⟩ := tP.opt k
  unfold ownV at e
  split at e
  · rename_i xs ef
    cases e
    obtain ⟨w, ew, a, vs, rfl, h1, r, h2, h3⟩ := slot_get K ef
    exact ⟨.ref a, ew, q F m H (.ref a) .refl K.core (.inr ⟨a, xs, vs, rfl, rfl, h1, h3, h2, r⟩)⟩
  · cases e
theorem tE_pure {v : IV} {u : V} (hr : ∀ F m, Rp A.G F m v u) (σ : L2.St) (H : Hp) (Q : VK) (k : tE A (fun _ => M.pure v) σ H Q) : tC u σ H Q := by
  obtain ⟨F, m, fr, h, K, k⟩ := k
  exact tP.pure k F m H u .refl K.core (hr F m)
theorem sta_u0 (S : Sta fs W n CX T A X) : X.A.units + 64 < cLine := S.room.units
theorem pe_con (S : Sta fs W n CX T A X) {v : IV} {e : Expr} (hc : chkC T X.env.scope v e = true) : PE X e (tE A fun _ => M.pure v) := by
  unfold chkC at hc
  split at hc
  · split at hc
    · exact pe_non.imp (tE_pure fun _ _ => .non)
    · cases hc
  · split at hc
    · simp at hc
      subst hc
      exact pe_bl.imp (tE_pure fun _ _ => .bl _)
    · cases hc
  · split at hc
    · simp at hc
      subst hc
      exact pe_int.imp (tE_pure fun _ _ => .int _)
    · cases hc
  · split at hc
    · simp at hc
      rename_i x _ _ _ s
      have : tx s = x := by rw [← hc]; cases x; simp [tx]
      rw [← this]
      exact pe_str.imp (tE_pure fun _ _ => .str _)
    · cases hc
  · rename_i x pos
    simp only [Bool.and_eq_true, Bool.not_eq_true', oddN, Bool.or_eq_false_iff] at hc
    obtain ⟨⟨hg, hd, _⟩, hc⟩ := hc
    split at hc
    · rename_i i j ht
      simp at hc
      subst hc
      obtain ⟨vv, u, hm, r, hr⟩ := S.tab _ _ (tab_mem ht)
      exact (pe_glob (gl_of hg) hm r hd).imp (tE_pure hr)
    · rename_i i j ht
      simp at hc
      subst hc
      obtain ⟨vv, u, hm, r, hr⟩ := S.tab _ _ (tab_mem ht)
      exact (pe_glob (gl_of hg) hm r hd).imp (tE_pure hr)
    · cases hc
  · split at hc
    · refine pe_odd0.imp fun σ H Q ⟨F, m, fr, h, K, k⟩ p o e ep hn hx hd hs hk => ?_
      exact tP.pure k _ m _ _ (.fresh K.core hn) (K.core.new hn) (.odd upd_same hx hd hs (fun _ => hk) fun z => absurd rfl z)
    · cases hc
  · split at hc
    · rename_i x _ _ _ _ _ _ _ _
      have hxx : tx [97] = x := by
        have : x.cps.toList = [97] := by simpa using hc
        rw [← this]
        exact tx_of x
      subst hxx
      refine (pe_odd1 (sta_u0 S)).imp fun σ H Q ⟨F, m, fr, h, K, k⟩ p t o e ep hn hn2 hpt hx hd hs hk => ?_
      have c1 := K.core.new (o := .tup [.str (tx [97])]) hn2
      have hn3 : L2.upd H t (.tup [.str (tx [97])]) p = none := by rw [upd_ne hpt]; exact hn
      exact tP.pure k _ m _ _ ((Stp.fresh (o := .tup [.str (tx [97])]) K.core hn2).trans (.fresh c1 hn3)) (c1.new hn3) (.odd upd_same hx hd hs (fun z => absurd z (by decide)) fun _ => ⟨t, hk, SqT.of (by rw [upd_ne (Ne.symm hpt), upd_same])⟩)
    · cases hc
  · cases hc

/-! ### lists of expressions by their parts -/
/-- a reading that grows with its end -/
def TMon (t : TE) : Prop := ∀ (σ : L2.St) (H : Hp) (Q Q' : VK), t σ H Q → (∀ v H, Q v H → Q' v H) → t σ H Q'
theorem TMon.g {A : Ar} {rel : Rel IV V} {r : Fr → M IV} : TMon (tG A rel r) := fun σ H Q Q' ⟨F, m, fr, h, K, k⟩ i => ⟨F, m, fr, h, K, k.mono i⟩
def PEs (X : Cx) : List Expr → List TE → Prop
  | [], [] => True
  | e :: es, t :: ts => (star e = false ∧ TMon t) ∧ PE X e t ∧ PEs X es ts
  | _, _ => False
theorem PEs.pa : ∀ {es : List Expr} {ts : List TE}, PEs X es ts → PA X es (tList ts)
  | [], [], _ => pa_nil
  | e :: es, t :: ts, h => pa_cons h.2.1 (PEs.pa h.2.2) (star_each h.1.1)
  | [], _ :: _, h => h.elim
  | _ :: _, [], h => h.elim
theorem PEs.stars : ∀ {es : List Expr} {ts : List TE}, PEs X es ts → es.all (fun e => !star e) = true
  | [], [], _ => rfl
  | e :: es, t :: ts, h => by
    have := PEs.stars h.2.2
    simp [h.1.1]
    simpa using this
  | [], _ :: _, h => h.elim
  | _ :: _, [], h => h.elim
theorem PEs.one {e : Expr} {ts : List TE} (h : PEs X [e] ts) : ∃ t, ts = [t] ∧ PE X e t ∧ TMon t := by
  match ts, h with
  | [t], h => exact ⟨t, rfl, h.2.1, h.1.2⟩
theorem PEs.two {e e2 : Expr} {ts : List TE} (h : PEs X [e, e2] ts) : ∃ t t2, ts = [t, t2] ∧ PE X e t ∧ PE X e2 t2 := by
  match ts, h with
  | [t, t2], h => exact ⟨t, t2, rfl, h.2.1, h.2.2.2.1⟩
theorem bltN_inv {sc : Scope} {x : Str} {nm : String} (h : bltN T sc x nm = true) : x = (nm : Str) ∧ gl sc x = true ∧ T.lookup x = some .blt := by
  unfold bltN at h
  simp only [Bool.and_eq_true, decide_eq_true_eq] at h
  refine ⟨h.1.1, h.1.2, ?_⟩
  have h2 := h.2
  split at h2
  · assumption
  · cases h2
end
end PI

set_option Elab.async false
set_option linter.all false
set_option maxRecDepth 100000
set_option maxHeartbeats 4000000
/-! PIh2: list(d.items()) of a locked dict. -/
namespace PI
open PySem PySem.Spec PyProof.Rows L2
/-- what never changes, with all that is new -/
def growF (F H H' : Hp) : Hp := fun b => match F b with
  | some o => some o
  | none => (match H b with
    | some _ => none
    | none => H' b)
theorem growF_old {F H H' : Hp} {b : Addr} {o : HO} (e : F b = some o) : growF F H H' b = some o := by
  unfold growF
  rw [e]
theorem growF_new {F H H' : Hp} {b : Addr} (e : F b = none) (e2 : H b = none) : growF F H H' b = H' b := by
  unfold growF
  rw [e, e2]
theorem growF_cell {F H H' : Hp} {b : Addr} {o : HO} (e : F b = none) (e2 : H b = some o) : growF F H H' b = none := by
  unfold growF
  rw [e, e2]
theorem growF_inv {F H H' : Hp} {b : Addr} {o : HO} (e : growF F H H' b = some o) : F b = some o ∨ (H b = none ∧ H' b = some o) := by
  unfold growF at e
  split at e
  · rename_i h
    exact .inl (h.trans e)
  · split at e
    · cases e
    · rename_i h
      exact .inr ⟨h, e⟩
section
variable {G : Gi} {F : Hp} {m : List Addr} {h : Cells} {H H' : Hp}
theorem Stp.grow (k : ∀ b o, H b = some o → H' b = some o) : Stp F (growF F H H') m m H H' :=
  ⟨fun _ _ e => growF_old e, fun a o e => (growF_inv e).imp id fun q => .inl q.1, ⟨[], by simp⟩, fun _ h => .inl h, fun a o e _ => k a o e⟩
theorem Core.grow (c : Core G F m h H) (k : ∀ b o, H b = some o → H' b = some o) : Core G (growF F H H') m h H' := by
  refine ⟨fun a o e => ?_, c.nd, c.len, fun i a co e1 e2 => ?_⟩
  · rcases growF_inv e with q | q
    · exact k _ _ (c.sub _ _ q)
    · exact q.2
  · have q := c.cel i a co e1 e2
    cases co with
    | dead => exact ⟨growF_cell q.1 q.2.choose_spec, q.2.imp fun o e => k _ _ e⟩
    | lst xs =>
      obtain ⟨z, vs, e, r⟩ := q
      exact ⟨growF_cell z e, vs, k _ _ e, r.mono (Stp.grow (m := m) k).ge⟩
theorem core_none (c : Core G F m h H) {b : Addr} (e : H b = none) : F b = none := by
  cases q : F b with
  | none => rfl
  | some o => rw [c.sub _ _ q] at e; cases e
end
section
variable {X : Cx} {A : Ar} {e : Expr} {te : TE} {p apos cpos pos : Pos}
theorem pe_litems (hG : A.G.K = X.K) (hc : X.calm = true) (he : PE X e te) (hg : Gl X "list") (hm : X.mg "list" = none) (hbase : attributeBase e "items" X.env (eval e X.env) = eval e X.env) (hline : (apos.endLine == cpos.line) = true) :
    PE X (.Call (.Name "list" p) [.Call (.Attribute e "items" apos) [] [] cpos] [] pos) (fun σ H Q => te σ H fun x H1 => rP A .ditems [x] H1 Q) := by
  have hv : bootBuiltins "list" = some (.type "list") := by decide +kernel
  have hs : starEach [.Call (.Attribute e "items" apos) [] [] cpos] X.env = (false, eval (.Call (.Attribute e "items" apos) [] [] cpos) X.env) :: starEach [] X.env := rfl
  refine ⟨fun pins s σ H Q I hq => ?_⟩
  refine wpAny_Call_Name_kw (ld_blt I hg hm hv ?_)
  refine PyProof.Rows.callWith_type1 ?_ hs rfl
  rw [hs]
  show wpAny _ _ (spliced ((false, eval (.Call (.Attribute e "items" apos) [] [] cpos) X.env) :: backTo pos (starEach [] X.env))) _ _ s
  refine Calls.spliced_cons ?_
  refine wpAny_Call_method (T := "dict") (id := "dict.items") hbase rfl hline PySem.F.plainAttrs_dict PySem.F.slot_dict_items PySem.F.type_dict_items (thn (he.run pins s σ H _ I hq) fun u s1 ⟨x, H1, I1, rx, k⟩ => ?_)
  obtain ⟨x', F, m, h, a, z, ex, c, r, ez, q⟩ := rP1 (f := vDitems) (fun _ _ => rfl) k
  cases ex
  cases a <;> simp only [vDitems] at ez <;> try (cases ez; done)
  cases ez
  rcases r with r | ⟨_, _, _, e', _⟩
  · cases r with
    | @dct d o kvs0 kvs ed hl hk hr =>
      obtain rfl : u = Value.ref d := rx
      obtain ⟨_, hz, hs0, vs, kv, hdo⟩ := I1.hok d _ (c.sub _ _ ed)
      obtain ⟨ep, hat⟩ := hdo.dictAt
      have lk : kvs.length = vs.length := Paired.length kv
      have I2 : Inv X pins σ H1 { s1 with heap := s1.heap.push { cls := .type "dict_items", data := .fields #[.ref d] } } := I1.kept (t' := s1.toks) fun b ob q => Heap.get?_push_of_some _ q
      refine ⟨hdo.typeIs, hdo.mapOf.noDict, ?_⟩
      show wpAny _ _ (callWith cpos (.builtin "dict.items") [.ref d] [] []) _ X.xe s1
      refine method_meetsIn PySem.F.slot_dict_items PySem.F.entry_dict_items rfl (PySem.evalArgs_none ⟨rfl, hdo.typeIs, PySem.F.args_dict_items_1 _, _, meets_dict_items (mixKind X.prog X.w) d hs0, ⟨vs, hdo⟩, ?_⟩)
      refine Calls.spliced_nil ?_
      refine PySem.W.kdx_call (knd := mixKind X.prog X.w) (kvs := vs) (ep := ep) (I1.ok.hd hc) ⟨_, Heap.get?_push_size _ rfl, rfl, rfl⟩ (hat.push _) (by omega) fun h' tk acc cc as hk' hS hl' hG' hacc => ?_
      obtain ⟨H', k1, k2, k3, k4, k5, k6, J⟩ := LiI.items_laid (tk := tk) I2 hz kv hk' hS hl' hG' hacc
      refine ⟨.ref _, H', J, rfl, q (growF F H1 H') m H' _ (Stp.grow k1) (c.grow k1) ?_⟩
      refine .lst (vs := as.map V.ref) ((growF_new (core_none c k2) k2).trans k5) ?_ fun i y v e1 e2 => ?_
      · rw [List.length_map, List.length_map, ← hl]
        exact Paired.length k6
      · rw [List.getElem?_map] at e1 e2
        obtain ⟨⟨ky, y0⟩, e3, rfl⟩ := Option.map_eq_some_iff.mp e1
        obtain ⟨t, e4, rfl⟩ := Option.map_eq_some_iff.mp e2
        obtain ⟨⟨l, w⟩, e5, e6⟩ := LiI.paired_get k6 e4
        have ht : H1 t = none := k3 t (List.mem_of_getElem? e4)
        refine .tup (vs := [kV l, w]) (.inl (.inl ((growF_new (core_none c ht) ht).trans e6))) rfl fun j y1 v1 f1 f2 => ?_
        match j with
        | 0 =>
          cases f1
          cases f2
          have kr := hk i _ _ _ _ e3 e5
          cases kr with
          | int i => exact .int i
          | str s => exact .str s
        | 1 =>
          cases f1
          cases f2
          exact (hr i _ _ _ _ e3 e5).mono (Stp.grow (m := m) k1).ge
        | j + 2 => simp at f1
  · cases e'
end
end PI

set_option Elab.async false
set_option linter.all false
set_option maxRecDepth 100000
set_option maxHeartbeats 4000000
/-! PIy: the data of a tree without lists within, read from the heap. -/
namespace PI
open PySem PySem.Spec PyProof.Rows L2
theorem key_reads {h : Heap} {k : Ky} {l : Key} {d : PyData} {u : Value} (r : KyR k l) (e : kyP k = some d) (q : keyIs l u = true) : Reads h u d [] := by
  rcases keyIs_shape q with ⟨i, t, rfl, rfl⟩ | ⟨x, t, rfl, rfl⟩
  · cases r
    cases e
    exact .int _ _
  · cases r
    cases e
    exact .str _ _
section
variable {X : Cx} {pins : List (Addr × Obj)} {σ : L2.St} {H : Hp} {s : Shared} {G : Gi} {F : Hp} {m : List Addr} {h : Cells}
mutual
theorem reads_of (I : Inv X pins σ H s) (hG : G.K = X.K) (c : Core G F m h H) : ∀ (x : IV) {d : PyData} {v : V} {u : Value}, toP x = some d → Rp G F m x v → RelV v u → ∃ as, Reads s.heap u d as ∧ sysModules ∉ as
  | .non, d, v, u, e, r, q => by
    cases r
    cases e
    obtain rfl : u = Value.none := q
    exact ⟨[], .none, by simp⟩
  | .bl b, d, v, u, e, r, q => by
    cases r
    cases e
    obtain rfl : u = Value.bool b := q
    exact ⟨[], .bool b, by simp⟩
  | .int i, d, v, u, e, r, q => by
    cases r
    cases e
    obtain ⟨t, rfl⟩ : ∃ t, u = Value.int i t := q
    exact ⟨[], .int i t, by simp⟩
  | .str x, d, v, u, e, r, q => by
    cases r
    cases e
    obtain ⟨t, rfl⟩ : ∃ t, u = Value.str (tx x) t := q
    exact ⟨[], .str _ t, by simp⟩
  | .tup xs, d, v, u, e, r, q => by
    unfold toP at e
    obtain ⟨ds, e1, rfl⟩ := Option.map_eq_some_iff.mp e
    cases r with
    | @tup a _ vs es hl hq =>
      obtain rfl : u = Value.ref a := q
      have es := sqT_mono c.sub es
      rw [hG] at es
      obtain ⟨its, rv, ⟨o, g1, g2, n, g3⟩, _⟩ := I.tuple es
      obtain ⟨as, ra, na⟩ := reads_all I hG c xs e1 ⟨hl, hq⟩ rv
      exact ⟨as, .tuple g1 g2 g3 (by simpa using ra), na⟩
  | .dct kvs, d, v, u, e, r, q => by
    unfold toP at e
    obtain ⟨ds, e1, rfl⟩ := Option.map_eq_some_iff.mp e
    cases r with
    | @dct a o _ dk ed hl hk hr =>
      obtain rfl : u = Value.ref a := q
      obtain ⟨_, hz, hs0, vs, kv, o1, es, ep, g1, g2, g3, _, hp, _⟩ := I.hok a _ (c.sub _ _ ed)
      obtain ⟨as, bs, ra, rb, na, nb⟩ := reads_kvs I hG c kvs e1 hl hk hr kv hp
      refine ⟨a :: as ++ bs, .dict g1 g2.1 g3 ra rb, fun z => ?_⟩
      rcases List.mem_append.mp z with z | z
      · rcases List.mem_cons.mp z with z | z
        · rw [z] at hs0
          simp at hs0
        · exact na z
      · exact nb z
  | .lst _, _, _, _, e, _, _ => by cases e
  | .obj _ _, _, _, _, e, _, _ => by cases e
  | .cell _, _, _, _, e, _, _ => by cases e
  | .fn _, _, _, _, e, _, _ => by cases e
  | .scr _, _, _, _, e, _, _ => by cases e
termination_by structural x => x
theorem reads_all (I : Inv X pins σ H s) (hG : G.K = X.K) (c : Core G F m h H) : ∀ (xs : List IV) {ds : List PyData} {vs : List V} {us : List Value}, toPs xs = some ds → RpL G F m xs vs → Vals vs us → ∃ as, ReadsAll s.heap us ds as ∧ sysModules ∉ as
  | [], ds, vs, us, e, r, q => by
    cases e
    obtain rfl : vs = [] := List.length_eq_zero_iff.mp (by simpa using r.1)
    cases q
    exact ⟨[], .nil, by simp⟩
  | x :: xs, ds, vs, us, e, r, q => by
    unfold toPs at e
    obtain ⟨d, e1, e2⟩ := Option.bind_eq_some_iff.mp e
    obtain ⟨l, e3, rfl⟩ := Option.map_eq_some_iff.mp e2
    cases q with
    | nil => exact absurd r.1 (by simp)
    | cons q qs =>
      obtain ⟨as, ra, na⟩ := reads_of I hG c x e1 r.head q
      obtain ⟨bs, rb, nb⟩ := reads_all I hG c xs e3 r.tail qs
      exact ⟨as ++ bs, .cons ra rb, fun z => (List.mem_append.mp z).elim na nb⟩
termination_by structural xs => xs
theorem reads_kvs (I : Inv X pins σ H s) (hG : G.K = X.K) (c : Core G F m h H) : ∀ (kvs : List (Ky × IV)) {ds : List (PyData × PyData)} {dk : List (Key × V)} {vs : List (Key × Value)} {es : List DictEntry}, toKs kvs = some ds → dk.length = kvs.length →
    (∀ (i : Nat) (k : Ky) (x : IV) (l : Key) (v : V), kvs[i]? = some (k, x) → dk[i]? = some (l, v) → KyR k l) → (∀ (i : Nat) (k : Ky) (x : IV) (l : Key) (v : V), kvs[i]? = some (k, x) → dk[i]? = some (l, v) → Rp G F m x v) → KV dk vs → Pairs (mixKind X.prog X.w) es vs →
    ∃ as bs, ReadsAll s.heap (es.map (·.key)) (ds.map (·.1)) as ∧ ReadsAll s.heap (es.map (·.val)) (ds.map (·.2)) bs ∧ sysModules ∉ as ∧ sysModules ∉ bs
  | [], ds, dk, vs, es, e, hl, hk, hr, kv, hp => by
    cases e
    obtain rfl : dk = [] := List.length_eq_zero_iff.mp (by simpa using hl)
    cases kv
    cases hp
    exact ⟨[], [], .nil, .nil, by simp, by simp⟩
  | (k, x) :: kvs, ds, dk, vs, es, e, hl, hk, hr, kv, hp => by
    unfold toKs at e
    obtain ⟨d, e1, e2⟩ := Option.bind_eq_some_iff.mp e
    obtain ⟨l, e3, rfl⟩ := Option.map_eq_some_iff.mp e2
    unfold toK at e1
    obtain ⟨d1, f1, f2⟩ := Option.bind_eq_some_iff.mp e1
    obtain ⟨d2, f3, rfl⟩ := Option.map_eq_some_iff.mp f2
    cases kv with
    | nil => exact absurd hl (by simp)
    | @cons p q _ _ h1 h2 =>
      obtain ⟨pk, pv⟩ := p
      obtain ⟨qk, qv⟩ := q
      obtain ⟨h1a, h1b⟩ := h1
      have h1a : pk = qk := h1a
      subst h1a
      cases hp with
      | @cons e0 _ es0 _ g1 g2 g3 =>
        have r1 : Reads s.heap e0.key d1 [] := key_reads (hk 0 _ _ _ _ rfl rfl) f1 g1
        have g2 : e0.val = qv := g2
        obtain ⟨as1, ra1, na1⟩ := reads_of I hG c x f3 (hr 0 _ _ _ _ rfl rfl) h1b
        obtain ⟨as, bs, ra, rb, na, nb⟩ := reads_kvs I hG c kvs e3 (by simpa using hl) (fun i k x l v a b => hk (i + 1) k x l v (by simpa using a) (by simpa using b)) (fun i k x l v a b => hr (i + 1) k x l v (by simpa using a) (by simpa using b)) h2 g3
        refine ⟨[] ++ as, as1 ++ bs, .cons r1 ra, .cons (show Reads s.heap e0.val d2 as1 by rw [g2]; exact ra1) rb, by simpa using na, fun z => (List.mem_append.mp z).elim na1 nb⟩
termination_by structural kvs => kvs
end
end
end PI

set_option Elab.async false
set_option linter.all false
set_option maxRecDepth 100000
set_option maxHeartbeats 4000000
/-! PIz: repr of data without lists within. -/
namespace PI
open PySem PySem.Spec PyProof.Rows L2
section
variable {X : Cx} {pins : List (Addr × Obj)} {σ : L2.St} {H : Hp} {s : Shared} {G : Gi} {F : Hp} {m : List Addr} {h : Cells}
theorem rp_txV (x : Str) : Rp G F m (txV x) (.str x) := by
  have := Rp.str (G := G) (F := F) (m := m) x.cps.toList
  rw [tx_of] at this
  exact this
theorem repr_call (I : Inv X pins σ H s) (hgd : X.A.guards = some []) (hu : X.A.units + 64 < cLine) (hG : G.K = X.K) (c : Core G F m h H) {a z : IV} {v : V} {u : Value} (r : RpS G F m H a v) (ru : RelV v u) (e : vRepr a = some z) {Q : VK} (q : ∀ x, z = txV x → Q (.str x) H) :
    wpAny (model X.prog X.w) X.A (call (.builtin "repr") [u]) (EP X pins σ Q) X.xe s := by
  have fin : ∀ (x : Str) (h' : Heap) (t : Tok) (tk : Tok), z = txV x → (∀ b o, s.heap.get? b = some o → h'.get? b = some o) → EP X pins σ Q (.str x t) { s with heap := h', toks := tk } :=
    fun x h' t tk ez k => ⟨.str x, H, I.kept (t' := tk) k, ⟨t, rfl⟩, q x ez⟩
  have big : ∀ (a : IV) (b : Addr) (d : PyData), toP a = some d → Rp G F m a (.ref b) → (d.showable = true ∧ d.depth ≤ 50 ∧ d.shown.length ≤ sizeLine) → z = txV d.shown → wpAny (model X.prog X.w) X.A (call (.builtin "repr") [.ref b]) (EP X pins σ Q) X.xe s := by
    intro a b d ed rb ⟨h1, h2, h3⟩ ez
    obtain ⟨as, ra, na⟩ := reads_of I hG c a ed rb (show RelV (.ref b) (.ref b) from rfl)
    exact repr_of_reads' ra h1 (fun _ => na) hgd (by omega) (fun _ _ e => e) (fun h' t tk k => fin _ h' t tk ez k) h3
  cases a with
  | non =>
    cases e
    rcases r with r | ⟨_, _, _, e', _⟩
    · cases r
      obtain rfl : u = Value.none := ru
      exact PySem.P.repr_of_none (fin _ s.heap _ _ rfl fun _ _ e => e)
    · cases e'
  | bl b =>
    rcases r with r | ⟨_, _, _, e', _⟩
    · cases r
      obtain rfl : u = Value.bool b := ru
      refine PySem.P.repr_of_bool (fin _ s.heap _ _ ?_ fun _ _ e => e)
      cases b <;> (cases e; rfl)
    · cases e'
  | int i =>
    rcases r with r | ⟨_, _, _, e', _⟩
    · cases r
      obtain ⟨t, rfl⟩ : ∃ t, u = Value.int i t := ru
      simp only [vRepr, toP, Option.bind_some] at e
      split at e
      · rename_i hz
        cases e
        exact PySem.P.repr_of_int (by simpa [PyData.showable] using hz.1) (fin _ s.heap _ _ rfl fun _ _ e => e)
      · cases e
    · cases e'
  | str x =>
    rcases r with r | ⟨_, _, _, e', _⟩
    · cases r
      obtain ⟨t, rfl⟩ : ∃ t, u = Value.str (tx x) t := ru
      simp only [vRepr, toP, Option.bind_some] at e
      split at e
      · rename_i hz
        cases e
        exact PySem.P.repr_of_str (fin _ s.heap _ _ rfl fun _ _ e => e) (by simpa only [PyData.shown] using hz.2.2)
      · cases e
    · cases e'
  | tup xs =>
    rcases r with r | ⟨_, _, _, e', _⟩
    · have r0 := r
      cases r with
      | tup e1 _ _ =>
        obtain rfl : u = Value.ref _ := ru
        simp only [vRepr] at e
        obtain ⟨d, ed, e2⟩ := Option.bind_eq_some_iff.mp e
        split at e2
        · rename_i hz
          cases e2
          exact big _ _ d ed r0 hz rfl
        · cases e2
    · cases e'
  | dct kvs =>
    rcases r with r | ⟨_, _, _, e', _⟩
    · have r0 := r
      cases r with
      | dct e1 _ _ _ =>
        obtain rfl : u = Value.ref _ := ru
        simp only [vRepr] at e
        obtain ⟨d, ed, e2⟩ := Option.bind_eq_some_iff.mp e
        split at e2
        · rename_i hz
          cases e2
          exact big _ _ d ed r0 hz rfl
        · cases e2
    · cases e'
  | lst xs =>
    obtain ⟨a1, v1, rfl, h1, l1⟩ := rps_lst c r
    obtain rfl : u = Value.ref a1 := ru
    simp only [vRepr] at e
    obtain ⟨ds, ed, e2⟩ := Option.bind_eq_some_iff.mp e
    split at e2
    · rename_i hz
      obtain ⟨hz1, hz2, hz3⟩ := hz
      cases e2
      obtain ⟨_, its, n, rv, g1⟩ := I.hok a1 _ h1
      obtain ⟨as, ra, na⟩ := reads_all I hG c xs ed l1 rv
      obtain ⟨bs, hb, hk⟩ := ReprAllK.of_readsAll (prog := X.prog) (w := X.w) ra hz1 (fun _ => na) (fun t ht => Nat.le_trans (listText_mem_le ht) hz3)
      have hna : a1 ∉ bs := not_mem_of_deeper (.list g1 rfl rfl (by simpa using ra)) (by simp only [PyData.depth]; omega) hb
      refine call_repr_slot (by omega) ⟨_, g1, rfl⟩ PySem.F.slot_list_repr.toG ?_
      cases its with
      | nil =>
        cases ra
        refine call_list_repr_empty ⟨_, g1, rfl⟩ g1 rfl ⟨_, _, rfl, fin _ s.heap _ _ ?_ fun _ _ e => e⟩
        simp only [PyData.shownAll, listText_nil]
      | cons x l =>
        exact call_list_reprK g1 rfl rfl hna (by simpa using hk.length_eq) (fun i y e => hk.item i y (by simpa using e)) hgd (fun b _ => Clear.nil b) (by show X.A.units + 1 + _ < cLine; omega) (fun _ _ e => e) (fun h' t tk k => ⟨_, _, rfl, fin _ h' t tk rfl k⟩) hz3
    · cases e2
  | _ => cases e
theorem so_repr {A : Ar} (hgd : X.A.guards = some []) (hu : X.A.units + 64 < cLine) (hG : A.G.K = X.K) : CallR X (.builtin "repr") (rP A .repr) := by
  intro pins s σ H xs us Q I rs k
  obtain ⟨x, F, m, h, a, z, rfl, c, r, e, q⟩ := rP1 (f := vRepr) (fun _ _ => rfl) k
  obtain ⟨u, rfl, ru⟩ := vals1 rs
  refine repr_call I hgd hu hG c r ru e fun y ez => ?_
  subst ez
  exact q _ _ _ _ .refl c (rp_txV y)
end
end PI

set_option Elab.async false
set_option linter.all false
set_option maxRecDepth 100000
set_option maxHeartbeats 4000000
/-! PIi: operations by their text. -/
namespace PI
open PySem PySem.Spec PyProof.Rows L2
section
variable {X : Cx} {A : Ar} {fs : Nat → Option Fn} {W n : Nat} {CX : CXT} {T : Tab}
/-- an operation's reading from its operands' -/
def tPr (A : Ar) (p : Pr) (ts : List TE) : TE := fun σ H Q => tList ts σ H fun vs H2 => rP A p vs H2 Q
theorem gk_blt (S : Sta fs W n CX T A X) {x : Str} {nm : String} (h : bltN T X.env.scope x nm = true) : x = (nm : Str) ∧ Gl X x ∧ X.mg x = none := by
  obtain ⟨e, g, t⟩ := bltN_inv h
  exact ⟨e, gl_of g, S.tab _ _ (tab_mem t)⟩
theorem sta_u (S : Sta fs W n CX T A X) : X.A.units + 64 < cLine := S.room.units

/-! ### one operand -/
theorem mon_iff {t : TE} {σ : L2.St} {H : Hp} {Q Q' : VK} (k : t σ H Q) (e : ∀ v H, Q v H ↔ Q' v H) : t σ H Q' := by
  have : Q = Q' := by funext v H; exact propext (e v H)
  rw [← this]; exact k
def tyTest (A : Ar) (ts : List TyC) (xs : List V) (H : Hp) (Q : VK) : Prop := ∃ x, xs = [x, .ty (tyN (ts.headD .int))] ∧ rP A (.isi ts) [x] H Q
theorem isi_inv {A : Ar} {ts : List TyC} {x : V} {H : Hp} {Q : VK} (k : rP A (.isi ts) [x] H Q) : ∃ F m h a N, Core A.G F m h H ∧ RpS A.G F m H a x ∧ ownT a = some N ∧ ∀ F' H', Stp F F' m m H H' → Core A.G F' m h H' → Q (.bl (ts.any fun t => isT a t)) H' := by
  obtain ⟨F, m, h, a, z, c, r, e, q⟩ := arity1 k
  have e : vIsi ts a = some z := e
  unfold vIsi at e
  obtain ⟨N, e1, e2⟩ := Option.map_eq_some_iff.mp e
  cases e2
  exact ⟨F, m, h, a, N, c, r, e1, fun F' H' s c' => q F' m H' _ s c' (.bl _)⟩
theorem so_isi1 (hG : A.G.K = X.K) (t : TyC) : CallR X (.builtin "isinstance") (fun xs H Q => ∃ x, xs = [x, .ty (tyN t)] ∧ rP A (.isi [t]) [x] H Q) := by
  intro pins s σ H xs us Q I rs k
  obtain ⟨x, rfl, k⟩ := k
  obtain ⟨F, m, h, a, N, c, r, e, q⟩ := isi_inv k
  have q2 := q F H .refl c
  by_cases ho : ∃ k, a = .odd k
  · obtain ⟨kk, rfl⟩ := ho
    obtain ⟨ad, o, rfl, hH, hx⟩ := odd_obj c r
    obtain ⟨u1, u2, rfl, r1, r2⟩ := vals2 rs
    cases r1
    cases r2
    cases e
    exact PySem.W.kia_one (PySem.W.kitx_dict) I.kIn ⟨o, (I.hok ad _ hH).1, hx.1⟩ (kit_ty (kit_all (.odd kk) _ t rfl)) (fun z => nomatch z) fun tk => ⟨.bl (isT (.odd kk) t), H, I.tok tk, rfl, by simpa using q2⟩
  refine call_isi pins s σ H _ us Q I rs ⟨x, .ty (tyN t), _, _, isT a t, rfl, .ty _, ty_of hG c r e (fun k z => ho ⟨k, z⟩), kit_ty (kit_all a N t e), ?_⟩
  simpa using q2
theorem kit_list (K : PySem.W.Frag) (a : IV) (N : String) (e : ownT a = some N) : ∀ ts : List TyC, PySem.W.kitAny K (.type N) (ts.map fun t => Value.type (tyN t)) = some (ts.any fun t => isT a t)
  | [] => rfl
  | t :: r => by
    refine kitAny_cons (kit_ty (kit_all a N t e)) (fun h => ?_) (fun h => by simp [h])
    rw [kit_list K a N e r]
    simp [h]
theorem cls_list : ∀ ts : List TyC, Paired ClsV (ts.map fun t => V.ty (tyN t)) (ts.map fun t => Value.type (tyN t))
  | [] => .nil
  | t :: r => .cons (.ty _) (cls_list r)
theorem so_isiT (hG : A.G.K = X.K) (ts : List TyC) : CallR X (.builtin "isinstance") (fun xs H' Q => ∃ x p H, xs = [x, .ref p] ∧ H p = none ∧ H' = upd H p (.tup (ts.map fun t => V.ty (tyN t))) ∧ rP A (.isi ts) [x] H Q) := by
  intro pins s σ H' xs us Q I rs k
  obtain ⟨x, p, H, rfl, n, rfl, k⟩ := k
  obtain ⟨F, m, h, a, N, c, r, e, q⟩ := isi_inv k
  have st : Stp F F m m H (upd H p (.tup (ts.map fun t => V.ty (tyN t)))) := .fresh0 n
  have c2 := c.new0 (o := .tup (ts.map fun t => V.ty (tyN t))) n
  by_cases ho : ∃ k, a = .odd k
  · obtain ⟨kk, rfl⟩ := ho
    obtain ⟨ad, o, rfl, hH, hx⟩ := odd_obj c2 (RpS.step st r)
    obtain ⟨u1, u2, rfl, r1, r2⟩ := vals2 rs
    cases r1
    cases r2
    cases e
    obtain ⟨_, its, rv, to, g1, g2, n2, g3⟩ := (show ObjOk X.prog X.w _ s.heap p (.tup (ts.map fun t => V.ty (tyN t))) from I.hok p _ upd_same)
    have e3 := ClsV.all (cls_list ts) rv
    subst e3
    obtain ⟨oc, od, dt, sl⟩ := to
    simp only at g2 g3
    subst g2 g3
    exact PySem.W.kia_tup (PySem.W.kitx_dict) I.kIn ⟨o, (I.hok ad _ hH).1, hx.1⟩ g1 (kit_list X.K (.odd kk) _ rfl ts) (fun z => nomatch z) fun tk => ⟨.bl (ts.any fun t => isT (.odd kk) t), _, I.tok tk, rfl, q F _ st c2⟩
  exact call_isiT pins s σ _ _ us Q I rs ⟨x, p, _, _, _, ts.any fun t => isT a t, rfl, upd_same, cls_list ts, ty_of hG c2 (RpS.step st r) e (fun k z => ho ⟨k, z⟩), kit_list X.K a N e ts, q F _ st c2⟩
theorem boot_ty (t : TyC) : bootBuiltins (tyN t : Str) = some (.type (tyN t)) := by cases t <;> decide +kernel
theorem boot_isi : bootBuiltins ("isinstance" : Str) = some (.builtin "isinstance") := by decide +kernel
theorem ty_name (t : TyC) : ((tyN t : Str)) ≠ ("__name__" : Str) ∧ (((tyN t : Str)) == ("__debug__" : Str)) = false := by cases t <;> exact ⟨by decide, by decide⟩
theorem pe_ty (S : Sta fs W n CX T A X) {t : TyC} {e : Expr} (h : tyIs T X.env.scope t e = true) : PE X e (tC (.ty (tyN t))) := by
  unfold tyIs at h
  split at h
  · obtain ⟨rfl, g, m⟩ := gk_blt S h
    exact pe_bltn g m (boot_ty t) (show RelV (.ty (tyN t)) (.type (tyN t)) from rfl) (ty_name t).1 (ty_name t).2
  · cases h
theorem ty_star {t : TyC} {sc : Scope} {e : Expr} (h : tyIs T sc t e = true) : star e = false := by
  unfold tyIs at h
  split at h
  · rfl
  · cases h
theorem tys_pa (S : Sta fs W n CX T A X) : ∀ {ts : List TyC} {es : List Expr}, tysAre T X.env.scope ts es = true → PA X es (tList (ts.map fun t => tC (.ty (tyN t))))
  | [], [], _ => pa_nil
  | t :: ts, e :: es, h => by
    have h2 : tyIs T X.env.scope t e = true ∧ tysAre T X.env.scope ts es = true := by simpa [tysAre] using h
    exact pa_cons (pe_ty S h2.1) (tys_pa S h2.2) (star_each (ty_star h2.1))
  | [], _ :: _, h => by simp [tysAre] at h
  | _ :: _, [], h => by simp [tysAre] at h
theorem tys_list (ts : List TyC) (σ : L2.St) (H : Hp) (Q : List V → Hp → Prop) (k : Q (ts.map fun t => V.ty (tyN t)) H) : tList (ts.map fun t => tC (.ty (tyN t))) σ H Q := by
  induction ts generalizing Q with
  | nil => exact k
  | cons t r ih => exact ih (fun xs H2 => Q (V.ty (tyN t) :: xs) H2) k

/-! ### is -/
theorem pe_isW {op : CmpOp} {p : Pr} {b e : Expr} {pos : Pos} {u : V} {t : TE} (so : OpR X (fun v w => compareOp op v w) (fun x y H Q => y = u ∧ rP A p [x] H Q)) (hb : PE X b (tC u)) (hm : behindInMarks op b = false) (ha : PE X e t) :
    PE X (.Compare e [op] [b] pos) (tPr A p [t]) ∧ PT X (.Compare e [op] [b] pos) (tB (tPr A p [t])) := by
  refine ⟨(pe_cmpR so ha hb hm).imp fun σ H Q k => mon_iff (t := t) k fun v H => ⟨fun k => ⟨rfl, k⟩, fun k => k.2⟩, (pt_cmpR so ha hb hm).imp fun σ H Q k => mon_iff (t := t) k fun v H => ⟨fun k => ⟨rfl, k⟩, fun k => k.2⟩⟩

/-! ### slices -/
theorem cut_inv {A : Ar} {lo hi : Bool} {x : V} {r : List V} {H : Hp} {Q : VK} (k : rP A (.cut lo hi) (x :: r) H Q) : ∃ l u, r = (l.toList ++ u.toList).map V.int ∧ l.isSome = lo ∧ u.isSome = hi ∧ rCut A x l u H Q := by
  obtain ⟨F, m, h, xs, z, c, rs, e, q⟩ := k
  have e : pCut lo hi xs = some z := e
  unfold pCut at e
  split at e
  · obtain ⟨x', us, e1, r1, rs⟩ := rs.cons
    cases e1
    obtain ⟨y, us2, rfl, r2, rs⟩ := rs.cons
    obtain ⟨y2, us3, rfl, r3, rs⟩ := rs.cons
    cases rs.nil
    cases rps_int r2
    cases rps_int r3
    exact ⟨some _, some _, rfl, rfl, rfl, F, m, h, _, z, c, r1, e, q⟩
  · obtain ⟨x', us, e1, r1, rs⟩ := rs.cons
    cases e1
    obtain ⟨y, us2, rfl, r2, rs⟩ := rs.cons
    cases rs.nil
    cases rps_int r2
    exact ⟨some _, none, rfl, rfl, rfl, F, m, h, _, z, c, r1, e, q⟩
  · obtain ⟨x', us, e1, r1, rs⟩ := rs.cons
    cases e1
    obtain ⟨y, us2, rfl, r2, rs⟩ := rs.cons
    cases rs.nil
    cases rps_int r2
    exact ⟨none, some _, rfl, rfl, rfl, F, m, h, _, z, c, r1, e, q⟩
  · obtain ⟨x', us, e1, r1, rs⟩ := rs.cons
    cases e1
    cases rs.nil
    exact ⟨none, none, rfl, rfl, rfl, F, m, h, _, z, c, r1, e, q⟩
  · cases e
/-- a[l:u] -/
theorem pe_sl3 {r : V → Option Int → Option Int → Hp → VK → Prop} (hr : SlR X r) {a l u : Expr} {p2 pos : Pos} {ta tl tu : TE} (ha : PE X a ta) (hl : PE X l tl) (hu : PE X u tu) :
    PE X (.Subscript a (.Slice (some l) (some u) none p2) pos) (fun σ H Q => ta σ H fun x H1 => tl σ H1 fun y H2 => tu σ H2 fun z H3 => ∃ i j, y = .int i ∧ z = .int j ∧ r x (some i) (some j) H3 Q) := by
  constructor
  intro pins s σ H Q I k
  apply Subscript_
  refine thn (ha.run pins s σ H _ I k) ?_
  rintro va sa ⟨x, Ha, Ia, ra, ka⟩
  apply wpAny_Slice
  rw [evalPart_some]
  refine thn (hl.run pins sa σ Ha _ Ia ka) ?_
  rintro vb sb ⟨y, Hb, Ib, rb, kb⟩
  rw [evalPart_some]
  refine thn (hu.run pins sb σ Hb _ Ib kb) ?_
  rintro vc sc ⟨z, Hc, Ic, rc, i, j, rfl, rfl, kc⟩
  rw [evalPart_none]
  obtain ⟨ti, rfl⟩ := rb
  obtain ⟨tj, rfl⟩ := rc
  apply wpAny_pure
  have grow : ∀ b ob, sc.heap.get? b = some ob → (sc.heap.push { cls := .type "slice", data := .fields #[.int i ti, .int j tj, .none] }).get? b = some ob := fun b ob q => Heap.get?_push_of_some _ q
  have In := Ic.kept (t' := sc.toks) grow
  obtain ⟨ty, nm, h1, h2, h3⟩ := hr pins _ σ Hc x va (.int i ti) (.int j tj) (some i) (some j) sc.heap.objs.size Q In ra (Heap.IsSliceOf.new ..) (.int i ti) (.int j tj) kc
  exact tail_any (ops := [.ref sc.heap.objs.size, va]) h2 h1 h3 (by with_unfolding_all rfl)
theorem pe_cutW (hG : A.G.K = X.K) {a : Expr} {l u : Option Expr} {p2 pos : Pos} {ts : List TE} (ps : PEs X (a :: (l.toList ++ u.toList)) ts) : PE X (.Subscript a (.Slice l u none p2) pos) (tPr A (.cut l.isSome u.isSome) ts) := by
  cases l with
  | none =>
    cases u with
    | none =>
      obtain ⟨t, rfl, ha, mt⟩ := ps.one
      refine (pe_slice (sl_cut hG) ha po_none po_none).imp fun σ H Q k => mt σ H _ _ k fun x H1 k => ?_
      obtain ⟨l, u, e, e1, e2, k⟩ := cut_inv k
      cases l <;> cases u <;> simp at e1 e2
      exact k
    | some u =>
      match ts, ps with
      | [t, t2], ps =>
        refine (pe_slice (sl_cut hG) ps.2.1 po_none (po_some ps.2.2.2.1)).imp fun σ H Q k => ps.1.2 σ H _ _ k fun x H1 k => ps.2.2.1.2 σ H1 _ _ k fun y H2 k => ?_
        obtain ⟨l, u, e, e1, e2, k⟩ := cut_inv k
        cases l <;> cases u <;> simp at e1 e2
        rename_i j
        simp at e
        exact ⟨j, e, k⟩
  | some l =>
    cases u with
    | none =>
      match ts, ps with
      | [t, t2], ps =>
        refine (pe_slice (sl_cut hG) ps.2.1 (po_some ps.2.2.2.1) po_none).imp fun σ H Q k => ps.1.2 σ H _ _ k fun x H1 k => ps.2.2.1.2 σ H1 _ _ k fun y H2 k => ?_
        obtain ⟨l, u, e, e1, e2, k⟩ := cut_inv k
        cases l <;> cases u <;> simp at e1 e2
        rename_i j
        simp at e
        exact ⟨j, e, k⟩
    | some u =>
      match ts, ps with
      | [t, t2, t3], ps =>
        refine (pe_sl3 (sl_cut hG) ps.2.1 ps.2.2.2.1 ps.2.2.2.2.2.1).imp fun σ H Q k => ps.1.2 σ H _ _ k fun x H1 k => ps.2.2.1.2 σ H1 _ _ k fun y H2 k => ps.2.2.2.2.1.2 σ H2 _ _ k fun w H3 k => ?_
        obtain ⟨l, u, e, e1, e2, k⟩ := cut_inv k
        cases l <;> cases u <;> simp at e1 e2
        rename_i i j
        simp at e
        exact ⟨i, j, e.1, e.2, k⟩

/-! ### by the operator -/
theorem so_bin (S : Sta fs W n CX T A X) {p : Pr} {op : Operator} (h : binOf p = some op) : OpR X (binaryOp op) (rP2 A p) := by
  cases p <;> simp only [binOf] at h <;> cases h
  · exact so_add S.hG
  · exact so_sub
  · exact so_mul
  · exact so_fdiv
  · exact so_mod
  · exact so_pow
theorem so_cmpO (S : Sta fs W n CX T A X) {p : Pr} {op : CmpOp} (h : cmpOf p = some op) : OpR X (compareOp op) (rP2 A p) := by
  cases p <;> simp only [cmpOf] at h <;> cases h
  · exact so_eq S.hG (sta_u S)
  · exact so_ne S.hG (sta_u S)
  · exact so_lt
  · exact so_le
  · exact so_gt
  · exact so_ge
  · exact (so_in S.hG (sta_u S)).1
  · exact (so_in S.hG (sta_u S)).2
theorem boot_b (nm : String) (h : nm ∈ ["len", "abs", "max", "all"]) : bootBuiltins (nm : Str) = some (.builtin nm) := by
  simp only [List.mem_cons, List.not_mem_nil, or_false] at h
  rcases h with rfl | rfl | rfl | rfl <;> decide +kernel
theorem pe_blt (S : Sta fs W n CX T A X) {p : Pr} {nm : String} {f : Str} {pf pos : Pos} {e : Expr} {es : List Expr} {ts : List TE} (h : bltOf p = some nm) (hb : bltN T X.env.scope f nm = true) (ps : PEs X (e :: es) ts) :
    PE X (.Call (.Name f pf) (e :: es) [] pos) (tPr A p ts) := by
  obtain ⟨rfl, g, m⟩ := gk_blt S hb
  have hs : star e = false := by have := ps.stars; simp at this; exact this.1
  have hpl := star_any (pos := pos) (env := X.env) (es := es) (by have := ps.stars; simp at this; simpa using this.2)
  have go : ∀ (c : CallR X (.builtin nm) (rP A p)) (hn : (nm : Str) ≠ "__name__") (hd : ((nm : Str) == ("__debug__" : Str)) = false) (hv : bootBuiltins (nm : Str) = some (.builtin nm)), PE X (.Call (.Name (nm : Str) pf) (e :: es) [] pos) (tPr A p ts) :=
    fun c hn hd hv => (pe_callB c g m hv ps.pa hn hd (star_each hs) hpl).imp fun σ H Q k => k
  have gt : ∀ (c : CallR X (.type nm) (rP A p)) (hn : (nm : Str) ≠ "__name__") (hd : ((nm : Str) == ("__debug__" : Str)) = false) (hv : bootBuiltins (nm : Str) = some (.type nm)), PE X (.Call (.Name (nm : Str) pf) (e :: es) [] pos) (tPr A p ts) :=
    fun c hn hd hv => (pe_callTy c g m hv ps.pa hn hd (star_each hs) hpl).imp fun σ H Q k => k
  cases p <;> simp only [bltOf] at h <;> cases h
  · exact go (so_len S.hG) (by decide) (by decide) (by decide +kernel)
  · exact gt so_int1 (by decide) (by decide) (by decide +kernel)
  · exact go so_abs (by decide) (by decide) (by decide +kernel)
  · exact go (so_max S.calm) (by decide) (by decide) (by decide +kernel)
  · exact go (so_all S.calm S.hG) (by decide) (by decide) (by decide +kernel)
  · exact gt (so_tuple S.hG) (by decide) (by decide) (by decide +kernel)
  · exact gt (so_list S.hG) (by decide) (by decide) (by decide +kernel)
  · exact gt so_bool1 (by decide) (by decide) (by decide +kernel)
  · exact go (so_sorted S.calm S.hG) (by decide) (by decide) (by decide +kernel)
  · exact gt (so_dictl S.calm S.hG) (by decide) (by decide) (by decide +kernel)
  · exact go (so_repr S.gd (sta_u S) S.hG) (by decide) (by decide) (by decide +kernel)
/-- isinstance -/
theorem pe_isi (S : Sta fs W n CX T A X) {tys : List TyC} {f : Str} {pf pos : Pos} {a t : Expr} {ts : List TE} (hf : bltN T X.env.scope f "isinstance" = true) (hst : star t = false)
    (ht : (∃ t1, tys = [t1] ∧ tyIs T X.env.scope t1 t = true) ∨ ∃ es k p, t = .Tuple es k p ∧ tysAre T X.env.scope tys es = true ∧ tys.length ≤ 6) (ps : PEs X [a] ts) : PE X (.Call (.Name f pf) [a, t] [] pos) (tPr A (.isi tys) ts) := by
  obtain ⟨rfl, g, m⟩ := gk_blt S hf
  obtain ⟨ta, rfl, ha, mt⟩ := ps.one
  have hs : star a = false := ps.1.1
  have hpl := star_any (pos := pos) (env := X.env) (es := [t]) (by simp [hst])
  rcases ht with ⟨t1, rfl, ht⟩ | ⟨es, kk, p, rfl, ht, hl⟩
  · have pa : PA X [a, t] (tCons ta (tCons (tC (.ty (tyN t1))) tNil)) := pa_cons ha (pa_cons (pe_ty S ht) pa_nil (star_each hst)) (star_each hs)
    refine (pe_callB (so_isi1 S.hG t1) g m boot_isi pa (by decide) (by decide) (star_each hs) hpl).imp fun σ H Q k => mt σ H _ _ k fun x H1 k => ?_
    exact ⟨x, rfl, k⟩
  · have pa : PA X [a, .Tuple es kk p] (tCons ta (tCons (tTup (tList (tys.map fun t => tC (.ty (tyN t))))) tNil)) := pa_cons ha (pa_cons (pe_tup (tys_pa S ht)) pa_nil (star_each hst)) (star_each hs)
    refine (pe_callB (so_isiT S.hG tys) g m boot_isi pa (by decide) (by decide) (star_each hs) hpl).imp fun σ H Q k => mt σ H _ _ k fun x H1 k => ?_
    refine tys_list tys σ H1 _ ⟨?_, fun p np => ⟨x, p, H1, rfl, np, rfl, k⟩⟩
    rw [List.length_map, sizeLine_eq]
    omega

/-! ### all of them -/
theorem pr_ok (S : Sta fs W n CX T A X) {p : Pr} {e : Expr} {xs : List Expr} {ts : List TE} (h : opnd T X.env.scope p e = some xs) (ps : PEs X xs ts) : PE X e (tPr A p ts) ∧ PT X e (tB (tPr A p ts)) := by
  have val : ∀ {e : Expr} (he : ∀ whole, isTrue e X.env whole = (do let v ← whole; standAt e.pos; holding [v] (truthy v))), PE X e (tPr A p ts) → PE X e (tPr A p ts) ∧ PT X e (tB (tPr A p ts)) := fun he h => ⟨h, pt_val h he⟩
  unfold opnd at h
  split at h
  · cases h
    obtain ⟨t, rfl, ha, _⟩ := ps.one
    exact val (fun _ => rfl) ((pe_un so_neg ha).imp fun σ H Q k => k)
  · cases h
    obtain ⟨t, rfl, ha, _⟩ := ps.one
    exact pe_isW so_isnon pe_non (nomark _) ha
  · cases h
    obtain ⟨t, rfl, ha, _⟩ := ps.one
    exact pe_isW so_notnon pe_non (nomark _) ha
  · split at h
    · rename_i hb
      subst hb
      cases h
      obtain ⟨t, rfl, ha, _⟩ := ps.one
      exact pe_isW (so_isb _) pe_bl (nomark _) ha
    · cases h
  · split at h
    · rename_i hb
      subst hb
      cases h
      obtain ⟨t, rfl, ha, _⟩ := ps.one
      exact pe_isW (so_notb _) pe_bl (nomark _) ha
    · cases h
  · split at h
    · rename_i hb
      obtain ⟨hf, hst⟩ := Bool.and_eq_true_iff.mp hb
      simp at hst
      split at h
      · rename_i t1 e2
        split at h
        · cases h
          exact val (fun _ => rfl) (pe_isi S hf hst (.inl ⟨_, rfl, by assumption⟩) ps)
        · cases h
      · split at h
        · rename_i hty
          cases h
          obtain ⟨h1, h2⟩ := Bool.and_eq_true_iff.mp hty
          exact val (fun _ => rfl) (pe_isi S hf hst (.inr ⟨_, _, _, rfl, h1, by simpa using h2⟩) ps)
        · cases h
      · cases h
    · cases h
  · split at h
    · cases h
    · rename_i hsl
      cases h
      obtain ⟨t, t2, rfl, ha, hb⟩ := ps.two
      exact val (fun _ => rfl) ((pe_ix (ix_item S.hG (sta_u S)) ha hb (slc_plain (by simpa using hsl))).imp fun σ H Q k => k)
  · split at h
    · rename_i hlu
      obtain ⟨rfl, rfl⟩ := hlu
      cases h
      exact val (fun _ => rfl) (pe_cutW S.hG ps)
    · cases h
  · split at h
    · rename_i hb
      simp only [Bool.and_eq_true, decide_eq_true_eq] at hb
      obtain ⟨⟨hf, rfl⟩, hln⟩ := hb
      cases h
      obtain ⟨t, rfl, ha, _⟩ := ps.one
      obtain ⟨rfl, g, m⟩ := gk_blt S hf
      exact val (fun _ => rfl) ((pe_litems S.hG S.calm ha g m rfl hln).imp fun σ H Q k => k)
    · cases h
  · split at h
    · rename_i hb
      cases h
      obtain ⟨t, t2, rfl, ha, hb2⟩ := ps.two
      exact val (fun _ => rfl) ((pe_op (so_bin S hb) ha hb2).imp fun σ H Q k => k)
    · cases h
  · split at h
    · rename_i hb
      cases h
      obtain ⟨t, t2, rfl, ha, hb2⟩ := ps.two
      exact ⟨(pe_cmpR (so_cmpO S hb.1) ha hb2 hb.2).imp fun σ H Q k => k, (pt_cmpR (so_cmpO S hb.1) ha hb2 hb.2).imp fun σ H Q k => k⟩
    · cases h
  · split at h
    · rename_i nm hb
      split at h
      · rename_i hc
        cases h
        exact val (fun _ => rfl) (pe_blt S hb (Bool.and_eq_true_iff.mp hc).1 ps)
      · cases h
    · cases h
  · cases h
end
end PI

set_option Elab.async false
set_option linter.all false
set_option maxRecDepth 100000
set_option maxHeartbeats 4000000
/-! PIj0: the keys of a dict whose one key is None or a tuple. -/
namespace PI
open PySem PySem.Spec PyProof.Rows L2
/-- the one key -/
def Ito (d : Addr) (o : Obj) (kx : V) : It :=
  ⟨fun i H => H d = some (.frz o (.ext fun _ => True)) ∧ i < 1, fun i H x H' => H' = H ∧ x = kx, fun i H => H d = some (.frz o (.ext fun _ => True)) ∧ 1 ≤ i⟩
section
variable {P : Program} {w : World} {K : PySem.W.Frag} {tg : Expr} {d : Addr} {o : Obj} {en : DictEntry} {ep : Nat} {kx : V}
theorem turn_keysO (it : Addr) (hod : o.data = .dict #[en] ep) (rk : RelV kx en.key) : Turn P w K tg (Ito d o kx) [it] it (fun i h => h.IsKeyIter it d i 1 ep) where
  mem := by simp
  obj := fun i h st b hb => by
    have e : b = it := by simpa using hb
    subst e
    obtain ⟨oi, e, c, dd⟩ := st
    exact ⟨oi, e, fun v z => by rw [dd] at z; cases z⟩
  keep := fun i h h' st k => st.at fun oi e => k it (by simp) oi e
  item := by
    intro X hP hw hK hc i pins s σ H E I hf st hg
    subst hP hw hK
    obtain ⟨hd, hi⟩ := hg
    obtain ⟨f0, f1, f2, f3, f4, f5⟩ := hf it (by simp)
    have hgd : s.heap.get? d = some o := (I.hok d _ hd).1
    have h0 : i = 0 := by omega
    subst h0
    refine next_key_item (en := en) st hgd hod rfl (by simp) fun h' st' sb => ?_
    have I1 : Inv X pins σ H { s with heap := h' } := I.turned (t' := s.toks) (fun b ob hb e => (sb.2 b hb).trans e) f0 f1 f3 f4 f5
    obtain ⟨oi, e, c, dd⟩ := id st'
    exact ⟨en.key, rfl, go_of (s := { s with heap := h' }) e c dd (by decide) ⟨kx, H, I1, rk, ⟨rfl, rfl⟩, st', fun b hb => (hf b hb).1⟩⟩
  done := by
    intro X hP hw hK hc i pins s σ H E I hf st hg
    subst hP hw hK
    obtain ⟨hd, hi⟩ := hg
    obtain ⟨f0, f1, f2, f3, f4, f5⟩ := hf it (by simp)
    have hgd : s.heap.get? d = some o := (I.hok d _ hd).1
    exact next_key_end (I.ok.hd hc) st hgd hod rfl hi fun h' eb => ⟨rfl, I.turned (t' := s.toks) (fun b ob hb e => eb b ob hb e) f0 f1 f3 f4 f5⟩
  self := fun A i s Q E st h => by
    refine wpAny_pyIter_slot st.typeIs PySem.F.slot_dict_keyiterator_iter (wpAny_call_entry PySem.F.slot_dict_keyiterator_iter st.typeIs PySem.F.entry_dict_keyiterator_iter ?_ (PySem.F.args_dict_keyiterator_iter_1 _))
    show wpAny _ _ (ret (.ref it)) _ _ s
    exact wpAny_pure ⟨_, rfl, "dict_keyiterator", _, st.typeIs, PySem.F.slot_dict_keyiterator_next.lookup, h⟩
end
/-- .. as a walk's source -/
def iKeysO (td : TE) : TI := fun σ H R => td σ H fun x H1 => ∃ d o en ep kx, x = .ref d ∧ H1 d = some (.frz o (.ext fun _ => True)) ∧ (d == sysModules) = false ∧ o.ExactDict ∧ o.data = .dict #[en] ep ∧ RelV kx en.key ∧ R (Ito d o kx) H1
theorem pi_keysO {X : Cx} {tg e : Expr} {td : TE} (he : PE X e td) : L2.PI X tg e (iKeysO td) := by
  refine ⟨fun pins s σ H R I h => ?_⟩
  refine thn (he.run pins s σ H _ I h) fun u s1 ⟨x, H1, I1, rx, d, o, en, ep, kx, ex, hd, hs, hx, hod, rk, q⟩ => ?_
  subst ex
  obtain rfl : u = Value.ref d := rx
  exact iter_keys hs (I1.hok d _ hd).1 hx hod (pi_one (tk := s1.toks) I1 _ (turn_keysO _ hod rk) ⟨_, Heap.get?_push_size _ rfl, rfl, rfl⟩ q)
end PI

set_option Elab.async false
set_option linter.all false
set_option maxRecDepth 100000
set_option maxHeartbeats 4000000
/-! PIj: walks. -/
namespace PI
open PySem PySem.Spec PyProof.Rows L2
/-- what may happen meanwhile -/
abbrev Mw := Hp → List Addr → Hp → Hp → List Addr → Hp → Prop
/-- .. to expressions; to statements -/
def mwE : Mw := fun F m H F' m' H' => Stp F F' m m' H H'
def mwS : Mw := fun F m _ F' m' _ => Ge F F' m m'
/-- J walks these items, whatever new comes meanwhile -/
def Wk (P : Mw) (G : Gi) (F : Hp) (m : List Addr) (H : Hp) (items : List IV) (J : It) : Prop := ∀ (i : Nat) (F' : Hp) (m' : List Addr) (h' : Cells) (H' : Hp), P F m H F' m' H' → Core G F' m' h' H' →
  (items.length ≤ i → J.stop i H') ∧ ∀ z, items[i]? = some z → J.go i H' ∧ ∀ x H'', J.yld i H' x H'' → ∃ F'', Stp F' F'' m' m' H' H'' ∧ Core G F'' m' h' H'' ∧ Rp G F'' m' z x
def relW (P : Mw) (G : Gi) : Rel (List IV) It := fun F m H items J => Wk P G F m H items J
/-- what an operand of a walk is -/
structure Opn (G : Gi) (rel : Rel IV V) (P : Mw) : Prop where
  ge : ∀ {F m H F' m' H'}, P F m H F' m' H' → Ge F F' m m'
  refl : ∀ {F m H}, P F m H F m H
  lst : ∀ {F m h H v xs}, Core G F m h H → rel F m H (.lst xs) v → ∃ a vs, v = .ref a ∧ RpL G F m xs vs ∧ ∀ F' m' h' H', P F m H F' m' H' → Core G F' m' h' H' → H' a = some (.lst vs)
  tup : ∀ {F m h H v xs}, Core G F m h H → rel F m H (.tup xs) v → ∃ a vs, v = .ref a ∧ RpL G F m xs vs ∧ ∀ F' m' h' H', P F m H F' m' H' → Core G F' m' h' H' → SqT G.K H' a vs
  dct : ∀ {F m H v kvs}, rel F m H (.dct kvs) v → Rp G F m (.dct kvs) v
  str : ∀ {F m H v s}, rel F m H (.str s) v → v = .str (tx s)
  int : ∀ {F m H v i}, rel F m H (.int i) v → v = .int i
  odd : ∀ {F m H v k}, rel F m H (.odd k) v → Rp G F m (.odd k) v
section
variable {X : Cx} {A : Ar} {fs : Nat → Option Fn} {W n : Nat} {CX : CXT} {T : Tab} {tg e : Expr}
theorem _root_.L2.PI.imp {wi wi' : TI} (p : L2.PI X tg e wi) (i : ∀ σ H R, wi' σ H R → wi σ H R) : L2.PI X tg e wi' := ⟨fun pins s σ H R I k => p.run pins s σ H R I (i σ H R k)⟩
theorem _root_.L2.PI.or {wi wi' : TI} (p : L2.PI X tg e wi) (q : L2.PI X tg e wi') : L2.PI X tg e (fun σ H R => wi σ H R ∨ wi' σ H R) := ⟨fun pins s σ H R I k => k.elim (p.run pins s σ H R I) (q.run pins s σ H R I)⟩
/-- a list that is read stays -/
theorem lst_later {G : Gi} {F : Hp} {m : List Addr} {h : Cells} {H : Hp} {v : V} {xs : List IV} (c : Core G F m h H) (r : RpS G F m H (.lst xs) v) : ∃ a vs, v = .ref a ∧ RpL G F m xs vs ∧ ∀ F' m' h' H', Stp F F' m m' H H' → Core G F' m' h' H' → H' a = some (.lst vs) := by
  rcases r with r | ⟨a, ys, vs, e, rfl, hH, hm, _, q⟩
  · cases r with
    | lst e l q => exact ⟨_, _, rfl, ⟨l, q⟩, fun F' m' h' H' s c' => c'.sub _ _ (s.kf _ _ e)⟩
  · cases e
    exact ⟨a, vs, rfl, q, fun F' m' h' H' s c' => s.kh _ _ hH hm⟩
theorem tup_later {G : Gi} {F : Hp} {m : List Addr} {h : Cells} {H : Hp} {v : V} {xs : List IV} (c : Core G F m h H) (r : RpS G F m H (.tup xs) v) : ∃ a vs, v = .ref a ∧ RpL G F m xs vs ∧ ∀ F' m' h' H', Stp F F' m m' H H' → Core G F' m' h' H' → SqT G.K H' a vs := by
  rcases r with r | ⟨_, _, _, e, _⟩
  · cases r with
    | tup e l q => exact ⟨_, _, rfl, ⟨l, q⟩, fun F' m' h' H' s c' => sqT_mono c'.sub (sqT_mono s.kf e)⟩
  · cases e
theorem sqL_at {K : PySem.W.Frag} {H : Hp} {a : Addr} {xs ys : List V} (h : H a = some (.lst xs)) (h2 : ∀ xs, SqL K H a xs → xs[0]? = ys[0]?) : xs[0]? = ys[0]? := h2 xs (SqL.of h)
theorem rpl_len {G : Gi} {F : Hp} {m : List Addr} {xs : List IV} {vs : List V} (r : RpL G F m xs vs) {i : Nat} (h : xs.length ≤ i) : vs.length ≤ i := by rw [r.1]; exact h
/-- a run's three ends -/
theorem tP.cases {α β γ δ : Type} {A : Ar} {rel : Rel α β} {rel2 : Rel γ δ} {m0 : M α} {f : α → M γ} {F : Hp} {m : List Addr} {h : Cells} {σ : L2.St} {H : Hp} {Q : δ → Hp → Prop} (k : tP A rel2 (m0.bind f) F m h σ H Q) :
    (∃ x h', m0 h = .ok x h' ∧ tP A rel2 (fun _ => f x h') F m h σ H Q ∧ ∀ Q' : β → Hp → Prop, (∀ F' m' H' v, Stp F F' m m' H H' → Core A.G F' m' h' H' → rel F' m' H' x v → Q' v H') → tP A rel m0 F m h σ H Q') ∨ ∀ Q' : β → Hp → Prop, tP A rel m0 F m h σ H Q' := by
  have k2 : tP A rel2 (fun _ => m0.bind f h) F m h σ H Q := k
  unfold M.bind at k2
  cases e : m0 h with
  | ok x h' =>
    rw [e] at k2
    refine .inl ⟨x, h', rfl, k2, fun Q' q => ?_⟩
    show match m0 h with
      | .ok x h' => ∀ F' m' H' v, Stp F F' m m' H H' → Core A.G F' m' h' H' → rel F' m' H' x v → Q' v H'
      | .exc x h' => ∀ F' m' H' c d, Stp F F' m m' H H' → Core A.G F' m' h' H' → A.xi F' m' H' x c d → A.W c d σ H'
      | .stuck => False
    rw [e]
    exact q
  | exc x h' =>
    rw [e] at k2
    refine .inr fun Q' => ?_
    show match m0 h with
      | .ok x h' => ∀ F' m' H' v, Stp F F' m m' H H' → Core A.G F' m' h' H' → rel F' m' H' x v → Q' v H'
      | .exc x h' => ∀ F' m' H' c d, Stp F F' m m' H H' → Core A.G F' m' h' H' → A.xi F' m' H' x c d → A.W c d σ H'
      | .stuck => False
    rw [e]
    exact k2
  | stuck =>
    rw [e] at k2
    exact k2.elim
theorem wk_list {P : Mw} (hg : ∀ {F m H F' m' H'}, P F m H F' m' H' → Ge F F' m m') {G : Gi} {F : Hp} {m : List Addr} {h : Cells} {H : Hp} {a : Addr} {xs : List IV} {vs : List V} (r : RpL G F m xs vs) (l : ∀ F' m' h' H', P F m H F' m' H' → Core G F' m' h' H' → H' a = some (.lst vs)) : Wk P G F m H xs (Itl G.K a) := by
  intro i F' m' h' H' s c
  have e := SqL.of (K := G.K) (l F' m' h' H' s c)
  refine ⟨fun hi => ⟨vs, e, rpl_len r hi⟩, fun z ez => ?_⟩
  obtain ⟨v, ev, rv⟩ := r.get ez
  refine ⟨⟨vs, v, e, ev⟩, fun x H'' ⟨e1, e2⟩ => ?_⟩
  subst e1
  have e3 := e2 vs e
  rw [ev] at e3
  cases e3
  exact ⟨F', .refl, c, rv.mono (hg s)⟩
theorem wk_tup {P : Mw} (hg : ∀ {F m H F' m' H'}, P F m H F' m' H' → Ge F F' m m') {G : Gi} {F : Hp} {m : List Addr} {h : Cells} {H : Hp} {a : Addr} {xs : List IV} {vs : List V} (r : RpL G F m xs vs) (l : ∀ F' m' h' H', P F m H F' m' H' → Core G F' m' h' H' → SqT G.K H' a vs) : Wk P G F m H xs (Itt G.K a) := by
  intro i F' m' h' H' s c
  have e := l F' m' h' H' s c
  refine ⟨fun hi => ⟨vs, e, rpl_len r hi⟩, fun z ez => ?_⟩
  obtain ⟨v, ev, rv⟩ := r.get ez
  refine ⟨⟨vs, v, e, ev⟩, fun x H'' ⟨e1, e2⟩ => ?_⟩
  subst e1
  have e3 := e2 vs e
  rw [ev] at e3
  cases e3
  exact ⟨F', .refl, c, rv.mono (hg s)⟩
theorem wk_str {P : Mw} (hg : ∀ {F m H F' m' H'}, P F m H F' m' H' → Ge F F' m m') {G : Gi} {F : Hp} {m : List Addr} {H : Hp} {t : List Nat} : Wk P G F m H (chars t) (Its (tx t)) := by
  intro i F' m' h' H' s c
  have hl : (chars t).length = t.length := by simp [chars]
  refine ⟨fun hi => ?_, fun z ez => ?_⟩
  · show (tx t).cps.size ≤ i
    simpa [tx, hl] using hi
  · unfold chars at ez
    rw [List.getElem?_map] at ez
    obtain ⟨ch, ec, rfl⟩ := Option.map_eq_some_iff.mp ez
    have hi : i < t.length := (List.getElem?_eq_some_iff.mp ec).1
    refine ⟨by show i < (tx t).cps.size; simpa [tx] using hi, fun x H'' ⟨e1, ch2, e2, e3⟩ => ?_⟩
    subst e1 e3
    have : (tx t).cps[i]? = some ch := by simpa [tx] using ec
    rw [this] at e2
    cases e2
    exact ⟨F', .refl, c, .str [ch]⟩
theorem wk_keys {P : Mw} (hg : ∀ {F m H F' m' H'}, P F m H F' m' H' → Ge F F' m m') {G : Gi} {F : Hp} {m : List Addr} {h : Cells} {H : Hp} {d : Addr} {o : Obj} {kvs : List (Ky × IV)} {ds : List (Key × V)} (c0 : Core G F m h H) (ed : F d = some (.frz o (.dK ds))) (hl : ds.length = kvs.length)
    (hk : ∀ (i : Nat) (k : Ky) (x : IV) (l : Key) (v : V), kvs[i]? = some (k, x) → ds[i]? = some (l, v) → KyR k l) : Wk P G F m H (kvs.map fun p => kyV p.1) (Itk d o ds) := by
  intro i F' m' h' H' s c
  have e := c.sub _ _ ((hg s).f _ _ ed)
  refine ⟨fun hi => ⟨e, by rw [List.length_map] at hi; omega⟩, fun z ez => ?_⟩
  rw [List.getElem?_map] at ez
  obtain ⟨⟨k, x⟩, ek, rfl⟩ := Option.map_eq_some_iff.mp ez
  have hi : i < kvs.length := (List.getElem?_eq_some_iff.mp ek).1
  refine ⟨⟨e, by omega⟩, fun x2 H'' ⟨e1, l, v, e2, e3⟩ => ?_⟩
  subst e1 e3
  refine ⟨F', .refl, c, ?_⟩
  cases hk i k x l v ek e2 with
  | int j => exact .int j
  | str t => exact .str t
theorem wk_odd {P : Mw} (hg : ∀ {F m H F' m' H'}, P F m H F' m' H' → Ge F F' m m') {G : Gi} {F : Hp} {m : List Addr} {h : Cells} {H : Hp} {d : Addr} {o : Obj} {x : IV} {kx : V} (c0 : Core G F m h H) (ed : F d = some (.frz o (.ext fun _ => True))) (r : Rp G F m x kx) : Wk P G F m H [x] (Ito d o kx) := by
  intro i F' m' h' H' s c
  have hd := c.sub _ _ ((hg s).f _ _ ed)
  refine ⟨fun hi => ⟨hd, by simpa using hi⟩, fun z ez => ?_⟩
  have h0 : i = 0 := by
    have := (List.getElem?_eq_some_iff.mp ez).1
    simp at this
    exact this
  subst h0
  cases ez
  refine ⟨⟨hd, by omega⟩, fun y H'' ⟨e1, e2⟩ => ?_⟩
  subst e1 e2
  exact ⟨F', .refl, c, r.mono (hg s)⟩
theorem wk_items {P : Mw} (hg : ∀ {F m H F' m' H'}, P F m H F' m' H' → Ge F F' m m') {G : Gi} {F : Hp} {m : List Addr} {h : Cells} {H : Hp} {d : Addr} {o : Obj} {kvs : List (Ky × IV)} {ds : List (Key × V)} (c0 : Core G F m h H) (ed : F d = some (.frz o (.dK ds))) (hl : ds.length = kvs.length)
    (hk : ∀ (i : Nat) (k : Ky) (x : IV) (l : Key) (v : V), kvs[i]? = some (k, x) → ds[i]? = some (l, v) → KyR k l) (hr : ∀ (i : Nat) (k : Ky) (x : IV) (l : Key) (v : V), kvs[i]? = some (k, x) → ds[i]? = some (l, v) → Rp G F m x v) :
    Wk P G F m H (kvs.map fun p => .tup [kyV p.1, p.2]) (Iti d o ds) := by
  intro i F' m' h' H' s c
  have e := c.sub _ _ ((hg s).f _ _ ed)
  refine ⟨fun hi => ⟨e, by rw [List.length_map] at hi; omega⟩, fun z ez => ?_⟩
  rw [List.getElem?_map] at ez
  obtain ⟨⟨k, x⟩, ek, rfl⟩ := Option.map_eq_some_iff.mp ez
  have hi : i < kvs.length := (List.getElem?_eq_some_iff.mp ek).1
  refine ⟨⟨e, by omega⟩, fun x2 H'' ⟨tp, l, v, e2, e3, nt, e4⟩ => ?_⟩
  subst e4 e3
  have hkv : Rp G F' m' (kyV k) (kV l) := by
    cases hk i k x l v ek e2 with
    | int j => exact .int j
    | str t => exact .str t
  have hrl : RpL G F' m' [kyV k, x] [kV l, v] := .cons hkv (.cons ((hr i k x l v ek e2).mono (hg s)) .nil)
  exact ⟨_, .fresh c nt, c.new nt, .tup (SqT.of upd_same) hrl.1 fun j y w a b => (hrl.2 j y w a b).mono (Stp.fresh c nt).ge⟩
theorem zip_at {xs ys : List IV} {i : Nat} {z : IV} (e : (xs.zipWith (fun a b => IV.tup [a, b]) ys)[i]? = some z) : ∃ x y, xs[i]? = some x ∧ ys[i]? = some y ∧ z = .tup [x, y] := by
  rw [List.getElem?_zipWith] at e
  cases e1 : xs[i]? with
  | none => rw [e1] at e; cases e
  | some x =>
    cases e2 : ys[i]? with
    | none => rw [e1, e2] at e; cases e
    | some y => rw [e1, e2] at e; cases e; exact ⟨x, y, rfl, rfl, rfl⟩
theorem wk_zipL {P : Mw} (hg : ∀ {F m H F' m' H'}, P F m H F' m' H' → Ge F F' m m') {G : Gi} {F : Hp} {m : List Addr} {H : Hp} {a b : Addr} {xs ys : List IV} {vs us : List V} (r : RpL G F m xs vs) (r2 : RpL G F m ys us) (l : ∀ F' m' h' H', P F m H F' m' H' → Core G F' m' h' H' → H' a = some (.lst vs))
    (l2 : ∀ F' m' h' H', P F m H F' m' H' → Core G F' m' h' H' → H' b = some (.lst us)) : Wk P G F m H (xs.zipWith (fun a b => .tup [a, b]) ys) (Itz G.K a b) := by
  intro i F' m' h' H' s c
  have e := SqL.of (K := G.K) (l F' m' h' H' s c)
  have e' := SqL.of (K := G.K) (l2 F' m' h' H' s c)
  refine ⟨fun hi => ⟨vs, us, e, e', ?_⟩, fun z ez => ?_⟩
  · rw [List.length_zipWith] at hi
    rw [r.1, r2.1]
    omega
  · obtain ⟨x, y, ex, ey, rfl⟩ := zip_at ez
    obtain ⟨v, ev, rv⟩ := r.get ex
    obtain ⟨u, eu, ru⟩ := r2.get ey
    refine ⟨⟨vs, us, v, u, e, e', ev, eu⟩, fun w H'' ⟨tp, v2, u2, e1, nt, e4, f1, f2⟩ => ?_⟩
    subst e1 e4
    have g1 := f1 vs e
    have g2 := f2 us e'
    rw [ev] at g1
    rw [eu] at g2
    cases g1
    cases g2
    have hrl : RpL G F' m' [x, y] [v, u] := .cons (rv.mono (hg s)) (.cons (ru.mono (hg s)) .nil)
    exact ⟨_, .fresh c nt, c.new nt, .tup (SqT.of upd_same) hrl.1 fun j y w a b => (hrl.2 j y w a b).mono (Stp.fresh c nt).ge⟩
theorem wk_zipT {P : Mw} (hg : ∀ {F m H F' m' H'}, P F m H F' m' H' → Ge F F' m m') {G : Gi} {F : Hp} {m : List Addr} {H : Hp} {a b : Addr} {xs ys : List IV} {vs us : List V} (r : RpL G F m xs vs) (r2 : RpL G F m ys us) (l : ∀ F' m' h' H', P F m H F' m' H' → Core G F' m' h' H' → SqT G.K H' a vs)
    (l2 : ∀ F' m' h' H', P F m H F' m' H' → Core G F' m' h' H' → SqT G.K H' b us) : Wk P G F m H (xs.zipWith (fun a b => .tup [a, b]) ys) (RZ.ItzT G.K a b) := by
  intro i F' m' h' H' s c
  have e := l F' m' h' H' s c
  have e' := l2 F' m' h' H' s c
  refine ⟨fun hi => ⟨vs, us, e, e', ?_⟩, fun z ez => ?_⟩
  · rw [List.length_zipWith] at hi
    rw [r.1, r2.1]
    omega
  · obtain ⟨x, y, ex, ey, rfl⟩ := zip_at ez
    obtain ⟨v, ev, rv⟩ := r.get ex
    obtain ⟨u, eu, ru⟩ := r2.get ey
    refine ⟨⟨vs, us, v, u, e, e', ev, eu⟩, fun w H'' ⟨tp, v2, u2, e1, nt, e4, f1, f2⟩ => ?_⟩
    subst e1 e4
    have g1 := f1 vs e
    have g2 := f2 us e'
    rw [ev] at g1
    rw [eu] at g2
    cases g1
    cases g2
    have hrl : RpL G F' m' [x, y] [v, u] := .cons (rv.mono (hg s)) (.cons (ru.mono (hg s)) .nil)
    exact ⟨_, .fresh c nt, c.new nt, .tup (SqT.of upd_same) hrl.1 fun j y w a b => (hrl.2 j y w a b).mono (Stp.fresh c nt).ge⟩
theorem wk_range {P : Mw} (hg : ∀ {F m H F' m' H'}, P F m H F' m' H' → Ge F F' m m') {G : Gi} {F : Hp} {m : List Addr} {H : Hp} {n : Nat} : Wk P G F m H ((List.range n).map fun (i : Nat) => IV.int i) (Itr 0 n) := by
  intro i F' m' h' H' s c
  refine ⟨fun hi => (show n ≤ i by simpa using hi), fun z ez => ?_⟩
  rw [List.getElem?_map] at ez
  obtain ⟨j, ej, rfl⟩ := Option.map_eq_some_iff.mp ez
  have hj := List.getElem?_eq_some_iff.mp ej
  obtain ⟨hi, hj⟩ := hj
  simp at hi hj
  subst hj
  refine ⟨hi, fun x H'' ⟨e1, e2⟩ => ?_⟩
  subst e1 e2
  exact ⟨F', .refl, c, by rw [Int.zero_add]; exact .int _⟩

/-! ### the walks of the text -/
/-- operands: any with the frame's own lists, while expressions run; values, while statements run -/
theorem opnE (G : Gi) : Opn G (relS G) mwE where
  ge := fun s => s.ge
  refl := .refl
  lst := fun c r => lst_later c r
  tup := fun c r => tup_later c r
  dct := fun r => by
    rcases r with r | ⟨_, _, _, e, _⟩
    · exact r
    · cases e
  str := fun r => rps_str r
  int := fun r => rps_int r
  odd := fun r => by
    rcases r with r | ⟨_, _, _, e, _⟩
    · exact r
    · cases e
theorem opnS (G : Gi) : Opn G (relV G) mwS where
  ge := fun s => s
  refl := .refl
  lst := fun c r => by
    cases r with
    | lst e l q => exact ⟨_, _, rfl, ⟨l, q⟩, fun F' m' h' H' s c' => c'.sub _ _ (s.f _ _ e)⟩
  tup := fun c r => by
    cases r with
    | tup e l q => exact ⟨_, _, rfl, ⟨l, q⟩, fun F' m' h' H' s c' => sqT_mono c'.sub (sqT_mono s.f e)⟩
  dct := fun r => r
  str := fun r => by cases r; rfl
  int := fun r => by cases r; rfl
  odd := fun r => r
/-- a reading's value is known ahead -/
theorem pi_val {rel : Rel IV V} {P : Mw} (O : Opn A.G rel P) (hG : A.G.K = X.K) {r : Fr → M IV} (ha : PE X e (tG A rel r)) : L2.PI X tg e (tG A (relW P A.G) fun fr => (r fr).bind fun v => M.opt (walk .val [v])) := by
  refine (((pi_list ha).or (pi_tup ha)).or ((pi_str ha).or ((pi_keys ha).or (pi_keysO ha)))).imp fun σ H R ⟨F, m, fr, h, K, k⟩ => ?_
  rcases tP.cases (rel := rel) k with ⟨x, h', er, k, fin0⟩ | ex
  · have fin : ∀ {Q : VK}, (∀ F' m' H' v, Stp F F' m m' H H' → Core A.G F' m' h' H' → rel F' m' H' x v → Q v H') → tG A rel r σ H Q := fun q => ⟨F, m, fr, h, K, fin0 _ q⟩
    cases x <;> try (exact k.elim)
    · rename_i t
      refine .inr (.inl (fin fun F' m' H' v s c rv => ?_))
      cases O.str rv
      exact ⟨tx t, rfl, k F' m' H' _ s c (wk_str O.ge)⟩
    · rename_i xs
      refine .inl (.inr (fin fun F' m' H' v s c rv => ?_))
      obtain ⟨a, vs, rfl, rl, l⟩ := O.tup c rv
      rw [← hG]
      exact ⟨a, rfl, ⟨vs, l F' m' h' H' O.refl c⟩, k F' m' H' _ s c (wk_tup O.ge (h := h') rl l)⟩
    · rename_i xs
      refine .inl (.inl (fin fun F' m' H' v s c rv => ?_))
      obtain ⟨a, vs, rfl, rl, l⟩ := O.lst c rv
      rw [← hG]
      exact ⟨a, rfl, ⟨vs, SqL.of (l F' m' h' H' O.refl c)⟩, k F' m' H' _ s c (wk_list O.ge (h := h') rl l)⟩
    · rename_i kvs
      refine .inr (.inr (.inl (fin fun F' m' H' v s c rv => ?_)))
      have rv := O.dct rv
      cases rv with
      | @dct d o _ ds ed hl hk hr => exact ⟨d, o, rfl, .inl ⟨ds, c.sub _ _ ed, k F' m' H' _ s c (wk_keys O.ge c ed hl hk)⟩⟩
    · rename_i kk
      refine .inr (.inr (.inr (fin fun F' m' H' v s c rv => ?_)))
      have rv := O.odd rv
      cases rv with
      | @odd d o en ep _ ed hx hod hs h0 h1 =>
        have hk : ∃ kx, RelV kx en.key ∧ Rp A.G F' m' (oddK kk) kx := by
          unfold oddK
          by_cases z : kk = 0
          · rw [if_pos z]
            exact ⟨.non, h0 z, .non⟩
          · rw [if_neg z]
            obtain ⟨q, e1, e2⟩ := h1 z
            refine ⟨.ref q, e1, .tup e2 rfl fun i x v a b => ?_⟩
            match i with
            | 0 => cases a; cases b; exact .str [97]
            | i + 1 => simp at a
        obtain ⟨kx, rk, rp⟩ := hk
        exact ⟨d, o, en, ep, kx, rfl, c.sub _ _ ed, hs, hx, hod, rk, k F' m' H' _ s c (wk_odd O.ge c ed rp)⟩
  · exact .inl (.inl ⟨F, m, fr, h, K, ex _⟩)
end
end PI

set_option Elab.async false
set_option linter.all false
set_option maxRecDepth 100000
set_option maxHeartbeats 4000000
/-! PIk: walks of the text, targets, comprehensions. -/
namespace PI
open PySem PySem.Spec PyProof.Rows L2
section
variable {X : Cx} {A : Ar} {fs : Nat → Option Fn} {W n : Nat} {CX : CXT} {T : Tab} {tg e : Expr} {Φ : Nat → List IV → M IV}
theorem two_inv {G : Gi} {F : Hp} {m : List Addr} {H : Hp} {xs : List IV} {v u : V} (r : RpSL G F m H xs [v, u]) : ∃ a b, xs = [a, b] ∧ RpS G F m H a v ∧ RpS G F m H b u := by
  match xs, r with
  | [a, b], r => exact ⟨a, b, rfl, r.two.1, r.two.2⟩
  | [], r => exact absurd r.1 (by simp)
  | [_], r => exact absurd r.1 (by simp)
  | _ :: _ :: _ :: _, r => exact absurd r.1 (by simp)
theorem one_inv {G : Gi} {F : Hp} {m : List Addr} {H : Hp} {xs : List IV} {v : V} (r : RpSL G F m H xs [v]) : ∃ a, xs = [a] ∧ RpS G F m H a v := by
  match xs, r with
  | [a], r => exact ⟨a, rfl, r.one⟩
  | [], r => exact absurd r.1 (by simp)
  | _ :: _ :: _, r => exact absurd r.1 (by simp)
/-- operands' values behind one another -/
structure OpL (A : Ar) (rel : Rel IV V) (RL : Hp → List Addr → Hp → List IV → List V → Prop) (rs : List (Fr → M IV)) (ops : Fr → M (List IV)) : Prop where
  cons : ∀ {F m H x xs vs}, RL F m H (x :: xs) vs → ∃ v us, vs = v :: us ∧ rel F m H x v ∧ RL F m H xs us
  nil : ∀ {F m H vs}, RL F m H [] vs → vs = []
  one : ∀ {r}, rs = [r] → ∀ fr (f : List IV → M (List IV)), (ops fr).bind f = (r fr).bind fun v => f [v]
  run : ∀ {γ δ : Type} {rel2 : Rel γ δ} {fr : Fr} {σ : L2.St} {Q' : δ → Hp → Prop} {F m h H} {f : List IV → M γ} {Qc : List V → Hp → Prop}, Fok A.G F m fr h σ H → tP A rel2 ((ops fr).bind f) F m h σ H Q' →
    (∀ F' m' h' H' xs vs, Stp F F' m m' H H' → Fok A.G F' m' fr h' σ H' → RL F' m' H' xs vs → tP A rel2 (f xs) F' m' h' σ H' Q' → Qc vs H') → tList (rs.map fun r => tG A rel r) σ H Qc
theorem oplE (es : List E) : OpL A (relS A.G) (RpSL A.G) (es.map fun e => evo Φ e) (eva Φ es) where
  cons := fun r => r.cons
  nil := fun r => r.nil
  one := fun {r} e fr f => by
    match es, e with
    | [s], e =>
      cases e
      show (((evo Φ s fr).bind fun v => (M.pure []).bind fun vs => M.pure (v :: vs))).bind f = _
      rw [M.assoc]
      rfl
  run := fun K k q => by
    have := eva_run es K k q
    rw [List.map_map]
    exact this
theorem oplS (es : List E) : OpL A (relV A.G) (fun F m _ => RpL A.G F m) (es.map fun e => ev Φ e) (evs Φ es) where
  cons := fun {F m H x xs vs} r => by
    cases vs with
    | nil => exact absurd r.1 (by simp)
    | cons v us => exact ⟨v, us, rfl, r.head, r.tail⟩
  nil := fun r => List.length_eq_zero_iff.mp (by simpa using r.1)
  one := fun {r} e fr f => by
    match es, e with
    | [s], e =>
      cases e
      show (((ev Φ s fr).bind fun v => (M.pure []).bind fun vs => M.pure (v :: vs))).bind f = _
      rw [M.assoc]
      rfl
  run := fun K k q => by
    have := evs_run es K k q
    rw [List.map_map]
    exact this
theorem pi_ok {rel : Rel IV V} {P : Mw} {RL : Hp → List Addr → Hp → List IV → List V → Prop} {rs : List (Fr → M IV)} {ops : Fr → M (List IV)} (O : Opn A.G rel P) (L : OpL A rel RL rs ops) (S : Sta fs W n CX T A X) {k : Sk} {xs : List Expr} (hw : walkE T X.env.scope k e = some xs)
    (ps : PEs X xs (rs.map fun r => tG A rel r)) (ht : (k = .zip ∨ k = .items) → ∃ es kk p, tg = .Tuple es kk p) : L2.PI X tg e (tG A (relW P A.G) fun fr => (ops fr).bind fun vs => M.opt (walk k vs)) := by
  have opt_inv : ∀ {k : Sk} {xs : List IV} {F : Hp} {m : List Addr} {h : Cells} {σ : L2.St} {H : Hp} {R : It → Hp → Prop}, tP A (relW P A.G) (M.opt (walk k xs)) F m h σ H R → ∃ items, walk k xs = some items ∧ ∀ F' m' H' J, Stp F F' m m' H H' → Core A.G F' m' h H' → Wk P A.G F' m' H' items J → R J H' := fun q => tP.opt q
  have vl : ∀ (it : Expr), k = .val → xs = [it] → e = it → L2.PI X tg e (tG A (relW P A.G) fun fr => (ops fr).bind fun vs => M.opt (walk k vs)) := fun it hk hx he => by
    subst hk hx he
    match rs, ps, L with
    | [r], ps, L =>
      refine (pi_val O S.hG ps.2.1).imp fun σ H R ⟨F, m, fr, h, K, k⟩ => ⟨F, m, fr, h, K, ?_⟩
      have e1 := L.one rfl fr (fun vs => M.opt (walk .val vs))
      show tP A (relW P A.G) ((r fr).bind fun v => M.opt (walk .val [v])) F m h σ H R
      rw [← e1]
      exact k
  unfold walkE at hw
  split at hw
  · split at hw
    · rename_i a _ _ hb
      cases hw
      obtain ⟨hf, hst⟩ := Bool.and_eq_true_iff.mp hb
      obtain ⟨rfl, g, mg⟩ := gk_blt S hf
      simp at hst
      match rs, ps, L with
      | [s], ps, L =>
        refine (pi_range1 g mg ps.pa (star_each hst)).imp fun σ H R ⟨F, m, fr, h, K, k⟩ => ?_
        refine L.run K k fun F' m' h' H' xs vs st K' r k' => ?_
        obtain ⟨items, e1, q⟩ := opt_inv k'
        unfold walk at e1
        split at e1
        all_goals try (cases e1; done)
        all_goals try (rename_i heq _; cases heq; done)
        all_goals try (rename_i heq; cases heq; done)
        rename_i j _
        split at e1
        · rename_i hz
          cases e1
          obtain ⟨v, us, rfl, r1, r2⟩ := L.cons r
          cases L.nil r2
          cases O.int r1
          have hs : szl = 16777216 := rfl
          exact ⟨j, rfl, by omega, by omega, q F' m' H' _ .refl K'.core (wk_range O.ge)⟩
        · cases e1
    · cases hw
  · split at hw
    · rename_i a b _ _ hb
      cases hw
      obtain ⟨hb1, hst2⟩ := Bool.and_eq_true_iff.mp hb
      obtain ⟨hf, hst⟩ := Bool.and_eq_true_iff.mp hb1
      obtain ⟨rfl, g, mg⟩ := gk_blt S hf
      simp at hst hst2
      obtain ⟨es, kk, p, rfl⟩ := ht (.inl rfl)
      match rs, ps, L with
      | [s1, s2], ps, L =>
        refine (RZ.pi_zipA g mg ps.pa (star_each hst) (star_any (by simp [hst2]))).imp fun σ H R ⟨F, m, fr, h, K, k⟩ => ?_
        refine L.run K k fun F' m' h' H' xs vs st K' r k' => ?_
        obtain ⟨items, e1, q⟩ := opt_inv k'
        unfold walk at e1
        split at e1
        all_goals try (cases e1; done)
        all_goals try (rename_i heq _; cases heq; done)
        all_goals try (rename_i heq; cases heq; done)
        · cases e1
          obtain ⟨v, us, rfl, r1, r2⟩ := L.cons r
          obtain ⟨v2, us2, rfl, r3, r4⟩ := L.cons r2
          cases L.nil r4
          obtain ⟨a1, vs1, rfl, rl1, l1⟩ := O.lst K'.core r1
          obtain ⟨a2, vs2, rfl, rl2, l2⟩ := O.lst K'.core r3
          rw [← S.hG]
          exact ⟨a1, a2, vs1, vs2, rfl, .inl ⟨SqL.of (l1 _ _ _ _ O.refl K'.core), SqL.of (l2 _ _ _ _ O.refl K'.core), q F' m' H' _ .refl K'.core (wk_zipL O.ge rl1 rl2 l1 l2)⟩⟩
        · cases e1
          obtain ⟨v, us, rfl, r1, r2⟩ := L.cons r
          obtain ⟨v2, us2, rfl, r3, r4⟩ := L.cons r2
          cases L.nil r4
          obtain ⟨a1, vs1, rfl, rl1, l1⟩ := O.tup K'.core r1
          obtain ⟨a2, vs2, rfl, rl2, l2⟩ := O.tup K'.core r3
          rw [← S.hG]
          exact ⟨a1, a2, vs1, vs2, rfl, .inr ⟨l1 _ _ _ _ O.refl K'.core, l2 _ _ _ _ O.refl K'.core, q F' m' H' _ .refl K'.core (wk_zipT O.ge rl1 rl2 l1 l2)⟩⟩
    · cases hw
  · split at hw
    · rename_i x p mm ap cp hb
      cases hw
      obtain ⟨rfl, hline⟩ := hb
      obtain ⟨es, kk, p, rfl⟩ := ht (.inr rfl)
      match rs, ps, L with
      | [s], ps, L =>
        refine (pi_items ps.2.1 rfl hline).imp fun σ H R ⟨F, m, fr, h, K, k⟩ => ?_
        have := L.run (Qc := fun vs H1 => ∃ x, vs = [x] ∧ ∃ d o kvs, x = V.ref d ∧ H1 d = some (.frz o (.dK kvs)) ∧ R (Iti d o kvs) H1) K k fun F' m' h' H' xs vs st K' r k' => by
          obtain ⟨items, e1, q⟩ := opt_inv k'
          unfold walk at e1
          split at e1
          all_goals try (cases e1; done)
          all_goals try (rename_i heq _; cases heq; done)
          all_goals try (rename_i heq; cases heq; done)
          cases e1
          obtain ⟨v, us, rfl, r1, r2⟩ := L.cons r
          cases L.nil r2
          have r1 := O.dct r1
          cases r1 with
          | @dct d o _ ds ed hl hk hr => exact ⟨_, rfl, d, o, ds, rfl, K'.core.sub _ _ ed, q F' m' H' _ .refl K'.core (wk_items O.ge K'.core ed hl hk hr)⟩
        refine ps.1.2 σ H _ _ this fun x H1 ⟨y, e, q⟩ => ?_
        cases e
        exact q
    · cases hw
  all_goals first
    | (cases hw; exact vl _ rfl rfl rfl)
    | (cases hw)
end
end PI

set_option Elab.async false
set_option linter.all false
set_option maxRecDepth 100000
set_option maxHeartbeats 4000000
/-! PIl: targets, comprehensions. -/
namespace PI
open PySem PySem.Spec PyProof.Rows L2
/-! ### targets -/
theorem Fok.upd {A : Ar} {F : Hp} {m : List Addr} {fr fr1 : Fr} {h : Cells} {σ σ1 : L2.St} {H : Hp} (K : Fok A.G F m fr h σ H) (l1 : fr1.length = fr.length) (l2 : σ1.length = σ.length)
    (p : ∀ j : Nat, (fr1[j]? = fr[j]? ∧ σ1[j]? = σ[j]?) ∨ ∃ x v, (fr1[j]? = some (SV.val x) ∨ fr1[j]? = none) ∧ σ1[j]? = some (some v) ∧ Rp A.G F m x v) : Fok A.G F m fr1 h σ1 H := by
  have own : ∀ {j : Nat} {xs : List IV}, fr1[j]? = some (SV.own xs) → fr1[j]? = fr[j]? ∧ σ1[j]? = σ[j]? := fun {j xs} e => by
    rcases p j with q | ⟨x, v, q, _⟩
    · exact q
    · rcases q with q | q <;> rw [e] at q <;> cases q
  refine ⟨K.core, by rw [l1, l2]; exact K.len, fun j s v e1 e2 => ?_, fun i j xs ys a hij e1 e2 e3 => ?_⟩
  · rcases p j with ⟨q1, q2⟩ | ⟨x, u, q1, q2, r⟩
    · rw [q1] at e1
      rw [q2] at e2
      exact K.slot j s v e1 e2
    · rw [q2] at e2
      cases e2
      rcases q1 with q1 | q1
      · rw [q1] at e1
        cases e1
        exact ⟨u, rfl, r⟩
      · rw [q1] at e1
        cases e1
  · obtain ⟨a1, a2⟩ := own e1
    obtain ⟨b1, b2⟩ := own e2
    rw [a1] at e1
    rw [b1] at e2
    rw [a2] at e3
    rw [b2]
    exact K.apart i j xs ys a hij e1 e2 e3
theorem Fok.set {A : Ar} {F : Hp} {m : List Addr} {fr : Fr} {h : Cells} {σ : L2.St} {H : Hp} (K : Fok A.G F m fr h σ H) {i : Nat} {x : IV} {v : V} (r : Rp A.G F m x v) : Fok A.G F m (fr.set i (SV.val x)) h (σ.set i (some v)) H := by
  refine K.upd (by simp) (by simp) fun j => ?_
  by_cases hj : i = j
  · subst hj
    by_cases hi : i < fr.length
    · refine .inr ⟨x, v, .inl ?_, ?_, r⟩
      · rw [List.getElem?_set_self hi]
      · rw [List.getElem?_set_self (by rw [← K.len]; exact hi)]
    · refine .inl ⟨?_, ?_⟩
      · rw [List.getElem?_eq_none (by simp; omega), List.getElem?_eq_none (by omega)]
      · have := K.len
        rw [List.getElem?_eq_none (by simp; omega), List.getElem?_eq_none (by omega)]
  · exact .inl ⟨List.getElem?_set_ne hj, List.getElem?_set_ne hj⟩
def gList : List Nat → TGs
  | [] => gNil
  | i :: is => gCons (gName i) (gList is)
def tgG (K : PySem.W.Frag) : Tg → TG
  | .one i => gName i
  | .many is => gTup K is.length (gList is)
section
variable {A : Ar} {F : Hp} {m : List Addr} {h : Cells} {H : Hp}
/-- what a store leaves: the rest is as it was -/
theorem stores_run : ∀ {is : List Nat} {xs : List IV} {vs : List V} {fr fr1 : Fr} {σ : L2.St} {Q : L2.St → Hp → Prop}, stores is xs fr = some fr1 → RpL A.G F m xs vs → fr.length = σ.length →
    (∀ σ1, fr1.length = fr.length → σ1.length = σ.length → (∀ j, j ∉ is → fr1[j]? = fr[j]? ∧ σ1[j]? = σ[j]?) → (∀ j, j ∈ is → (∃ x v, (fr1[j]? = some (SV.val x) ∨ fr1[j]? = none) ∧ σ1[j]? = some (some v) ∧ Rp A.G F m x v) ∨ (fr1[j]? = none ∧ fr[j]? = none ∧ σ1[j]? = none ∧ σ[j]? = none)) → Q σ1 H) → gList is vs σ H Q
  | [], [], vs, fr, fr1, σ, Q, e, r, hl, q => by
    cases e
    have : vs = [] := List.length_eq_zero_iff.mp (by simpa using r.1)
    exact ⟨this, q σ rfl rfl (fun j _ => ⟨rfl, rfl⟩) fun j hj => absurd hj (by simp)⟩
  | i :: is, x :: xs, vs, fr, fr1, σ, Q, e, r, hl, q => by
    cases vs with
    | nil => exact absurd r.1 (by simp)
    | cons v vs =>
      have e : stores is xs (fr.set i (SV.val x)) = some fr1 := e
      refine ⟨v, vs, rfl, stores_run e r.tail (by simpa using hl) fun σ1 l1 l2 h1 h2 => ?_⟩
      refine q σ1 (by simpa using l1) (by simpa using l2) (fun j hj => ?_) fun j hj => ?_
      · simp only [List.mem_cons, not_or] at hj
        obtain ⟨a, b⟩ := h1 j hj.2
        rw [List.getElem?_set_ne (fun e => hj.1 e.symm)] at a b
        exact ⟨a, b⟩
      · by_cases hm : j ∈ is
        · rcases h2 j hm with c | ⟨c1, c2, c3, c4⟩
          · exact .inl c
          · refine .inr ⟨c1, ?_, c3, ?_⟩
            · rw [List.getElem?_eq_none_iff] at c2 ⊢
              simpa using c2
            · rw [List.getElem?_eq_none_iff] at c4 ⊢
              simpa using c4
        · have hj : j = i := by simpa [hm] using hj
          subst hj
          obtain ⟨a, b⟩ := h1 j hm
          by_cases hi : j < fr.length
          · rw [List.getElem?_set_self hi] at a
            rw [List.getElem?_set_self (by omega)] at b
            exact .inl ⟨x, v, .inl a, b, r.head⟩
          · refine .inr ⟨?_, List.getElem?_eq_none (by omega), ?_, List.getElem?_eq_none (by omega)⟩
            · rw [a]; exact List.getElem?_eq_none (by simp; omega)
            · rw [b]; exact List.getElem?_eq_none (by simp; omega)
  | [], _ :: _, vs, fr, fr1, σ, Q, e, r, hl, q => by cases e
  | _ :: _, [], vs, fr, fr1, σ, Q, e, r, hl, q => by cases e
/-- the store of a target -/
theorem store_run {K : PySem.W.Frag} (hG : A.G.K = K) {tg : Tg} {x : IV} {v : V} {fr fr1 : Fr} {σ : L2.St} {Q : L2.St → Hp → Prop} (c : Core A.G F m h H) (e : store tg x fr = some fr1) (r : Rp A.G F m x v) (hl : fr.length = σ.length)
    (q : ∀ σ1, fr1.length = fr.length → σ1.length = σ.length → (∀ j, j ∉ slotsT tg → fr1[j]? = fr[j]? ∧ σ1[j]? = σ[j]?) → (∀ j, j ∈ slotsT tg → (∃ x v, (fr1[j]? = some (SV.val x) ∨ fr1[j]? = none) ∧ σ1[j]? = some (some v) ∧ Rp A.G F m x v) ∨ (fr1[j]? = none ∧ fr[j]? = none ∧ σ1[j]? = none ∧ σ[j]? = none)) → Q σ1 H) : tgG K tg v σ H Q := by
  cases tg with
  | one i =>
    have e1 : stores [i] [x] fr = some fr1 := e
    obtain ⟨w, us, e2, e3, e4⟩ := stores_run (vs := [v]) e1 (.cons r .nil) hl q
    cases e2
    exact e4
  | many is =>
    cases x <;> simp only [store] at e <;> try (cases e; done)
    rename_i xs
    cases r with
    | @tup a _ vs es l rl =>
      have hlen : is.length = xs.length := by
        clear q rl l
        induction is generalizing xs fr with
        | nil => cases xs with
          | nil => rfl
          | cons _ _ => cases e
        | cons i is ih => cases xs with
          | nil => cases e
          | cons x xs => simp; exact ih (fr := fr.set i (SV.val x)) (by simpa using hl) xs e
      rw [← hG]
      exact ⟨a, vs, rfl, sqT_mono c.sub es, by rw [l, hlen], stores_run e ⟨l, rl⟩ hl q⟩
end
theorem wipe_get (σ : L2.St) (j : Nat) : ∀ vs : List Nat, (wipe σ vs)[j]? = if j ∈ vs then (σ[j]?).map fun _ => none else σ[j]?
  | [] => by simp [wipe]
  | v :: vs => by
    have ih := wipe_get σ j vs
    unfold wipe
    by_cases hv : v = j
    · subst hv
      rw [if_pos (by simp)]
      by_cases hl : v < σ.length
      · rw [List.getElem?_set_self (by rw [wipe_length]; exact hl), List.getElem?_eq_getElem hl]; rfl
      · rw [List.getElem?_eq_none (by simp [wipe_length]; omega), List.getElem?_eq_none (by omega)]; rfl
    · rw [List.getElem?_set_ne hv, ih]
      by_cases hj : j ∈ vs
      · rw [if_pos hj, if_pos (List.mem_cons_of_mem _ hj)]
      · rw [if_neg hj, if_neg fun e => hj ((List.mem_cons.mp e).resolve_left fun e => hv e.symm)]
theorem wipe_eq {σ σ1 : L2.St} {vs : List Nat} (l : σ1.length = σ.length) (h : ∀ j : Nat, j ∉ vs → σ1[j]? = σ[j]?) : wipe σ1 vs = wipe σ vs := by
  apply List.ext_getElem?
  intro j
  rw [wipe_get, wipe_get]
  by_cases hj : j ∈ vs
  · rw [if_pos hj, if_pos hj]
    by_cases hl : j < σ.length
    · rw [List.getElem?_eq_getElem hl, List.getElem?_eq_getElem (by omega)]; rfl
    · rw [List.getElem?_eq_none (by omega), List.getElem?_eq_none (by omega)]
  · rw [if_neg hj, if_neg hj, h j hj]
/-- .. in a comprehension's block: the slots of its own names were forgotten -/
theorem store_blk {A : Ar} {F : Hp} {m : List Addr} {h : Cells} {H : Hp} {K : PySem.W.Frag} (hG : A.G.K = K) {tg : Tg} {x : IV} {v : V} {fr fr1 : Fr} {σ : L2.St} {Q : L2.St → Hp → Prop} (k : Fok A.G F m fr h σ H) (e : store tg x fr = some fr1) (r : Rp A.G F m x v)
    (q : ∀ σ1, Fok A.G F m fr1 h σ1 H → wipe σ1 (slotsT tg) = wipe σ (slotsT tg) → Q σ1 H) : tgG K tg v (wipe σ (slotsT tg)) H Q := by
  refine store_run hG k.core e r (by rw [wipe_length]; exact k.len) fun σ1 l1 l2 h1 h2 => ?_
  rw [wipe_length] at l2
  refine q σ1 (k.upd l1 l2 fun j => ?_) (wipe_eq l2 fun j hj => ?_)
  · by_cases hj : j ∈ slotsT tg
    · rcases h2 j hj with c | ⟨c1, c2, c3, c4⟩
      · exact .inr c
      · refine .inl ⟨by rw [c1, c2], ?_⟩
        rw [c3, List.getElem?_eq_none]
        rw [List.getElem?_eq_none_iff, wipe_length] at c4
        exact c4
    · obtain ⟨a, b⟩ := h1 j hj
      rw [wipe_get, if_neg hj] at b
      exact .inl ⟨a, b⟩
  · have := (h1 j hj).2
    rw [wipe_get, if_neg hj] at this
    exact this
/-- .. of a statement -/
theorem store_fr {A : Ar} {F : Hp} {m : List Addr} {h : Cells} {H : Hp} {K : PySem.W.Frag} (hG : A.G.K = K) {tg : Tg} {x : IV} {v : V} {fr fr1 : Fr} {σ : L2.St} {Q : L2.St → Hp → Prop} (k : Fok A.G F m fr h σ H) (e : store tg x fr = some fr1) (r : Rp A.G F m x v)
    (q : ∀ σ1, Fok A.G F m fr1 h σ1 H → Q σ1 H) : tgG K tg v σ H Q := by
  refine store_run hG k.core e r k.len fun σ1 l1 l2 h1 h2 => q σ1 (k.upd l1 l2 fun j => ?_)
  by_cases hj : j ∈ slotsT tg
  · rcases h2 j hj with c | ⟨c1, c2, c3, c4⟩
    · exact .inr c
    · exact .inl ⟨by rw [c1, c2], by rw [c3, c4]⟩
  · exact .inl (h1 j hj)
section
variable {X : Cx} {T : Tab}
theorem locN_of {c : Bool} {sc : Scope} {x : Str} (h : locN c sc x = true) : (sc.names.lookup x = some .local) ∨ (c = true ∧ sc.names.lookup x = some .cell) := by
  unfold locN at h
  split at h
  · exact .inl (by assumption)
  · exact .inr ⟨h, by assumption⟩
  · cases h
theorem pg_t1 (nd : X.N.Nodup) {c : Bool} (hf : c = true → ∀ x, X.fn x = true) {i : Nat} {e : Expr} (h : chkT1 c X.N X.env.scope i e = true) : PG X e (gName i) := by
  unfold chkT1 at h
  split at h
  · obtain ⟨h1, h2⟩ := Bool.and_eq_true_iff.mp h
    simp at h1
    rcases locN_of h2 with l | ⟨hc, l⟩
    · exact pg_name nd h1 (.inl l) (.inr l)
    · exact pg_name nd h1 (.inr l) (.inl (hf hc _))
  · cases h
theorem pgs_t (nd : X.N.Nodup) {c : Bool} (hf : c = true → ∀ x, X.fn x = true) : ∀ {is : List Nat} {es : List Expr}, chkTs c X.N X.env.scope is es = true → PGs X es (gList is) ∧ es.length = is.length
  | [], [], _ => ⟨pgs_nil, rfl⟩
  | i :: is, e :: es, h => by
    have h2 : chkT1 c X.N X.env.scope i e = true ∧ chkTs c X.N X.env.scope is es = true := by simpa [chkTs] using h
    obtain ⟨a, b⟩ := pgs_t nd hf h2.2
    exact ⟨pgs_cons (pg_t1 nd hf h2.1) a (by unfold chkT1 at h2; split at h2 <;> first | rfl | (exact absurd h2.1 (by simp))), by simp [b]⟩
  | [], _ :: _, h => by simp [chkTs] at h
  | _ :: _, [], h => by simp [chkTs] at h
end
end PI

set_option Elab.async false
set_option linter.all false
set_option maxRecDepth 100000
set_option maxHeartbeats 4000000
/-! PIm: comprehensions; expressions altogether. -/
namespace PI
open PySem PySem.Spec PyProof.Rows L2
section
variable {X : Cx} {A : Ar} {fs : Nat → Option Fn} {W n : Nat} {CX : CXT} {T : Tab} {Φ : Nat → List IV → M IV}
theorem asg_each : ∀ {c : Bool} {N : List Str} {sc : Scope} {env : Env} {is : List Nat} {es : List Expr}, chkTs c N sc is es = true → (assignEach es env).length = is.length ∧ (assignEach es env).findIdx? (·.1) = none
  | c, N, sc, env, [], [], _ => ⟨rfl, rfl⟩
  | c, N, sc, env, i :: is, e :: es, h => by
    have h2 : chkT1 c N sc i e = true ∧ chkTs c N sc is es = true := by simpa [chkTs] using h
    obtain ⟨a, b⟩ := asg_each (env := env) h2.2
    have he : ∃ x p, e = .Name x p := by
      have h3 := h2.1
      unfold chkT1 at h3
      split at h3
      · exact ⟨_, _, rfl⟩
      · cases h3
    obtain ⟨x, p, rfl⟩ := he
    have e1 : assignEach (.Name x p :: es) env = (false, assign (.Name x p) env) :: assignEach es env := rfl
    rw [e1]
    exact ⟨by simp [a], by rw [List.findIdx?_cons]; simp [b]⟩
  | _, _, _, _, [], _ :: _, h => by simp [chkTs] at h
  | _, _, _, _, _ :: _, [], h => by simp [chkTs] at h
theorem pg_tg (nd : X.N.Nodup) (hc : X.calm = true) {c : Bool} (hf : c = true → ∀ x, X.fn x = true) {tg : Tg} {e : Expr} (h : chkT c X.N X.env.scope tg e = true) : PG X e (tgG X.K tg) := by
  unfold chkT at h
  split at h
  · exact pg_t1 nd hf h
  · obtain ⟨a, b⟩ := pgs_t nd hf h
    obtain ⟨l, f⟩ := asg_each (env := X.env) h
    exact pg_tup hc a l f
  · cases h
theorem own_slots {c : Bool} {N : List Str} {sc : Scope} {tg : Tg} {e : Expr} (h : chkT c N sc tg e = true) : (ownT2 N (slotsT tg)).map (·.2) = slotsT tg := by
  have go : ∀ is : List Nat, (∀ i ∈ is, ∃ x, N[i]? = some x) → (ownT2 N is).map (·.2) = is := by
    intro is
    induction is with
    | nil => intro _; rfl
    | cons i r ih =>
      intro h
      obtain ⟨x, ex⟩ := h i (by simp)
      have ih := ih fun j hj => h j (List.mem_cons_of_mem _ hj)
      unfold ownT2 at ih ⊢
      rw [List.filterMap_cons, ex]
      simp [ih]
  have one : ∀ {i : Nat} {e : Expr}, chkT1 c N sc i e = true → ∃ x, N[i]? = some x := fun h => by
    unfold chkT1 at h
    split at h
    · simp at h; exact ⟨_, h.1⟩
    · cases h
  have many : ∀ {is : List Nat} {es : List Expr}, chkTs c N sc is es = true → ∀ i ∈ is, ∃ x, N[i]? = some x := by
    intro is
    induction is with
    | nil => intro es h i hi; cases hi
    | cons j r ih =>
      intro es h i hi
      cases es with
      | nil => simp [chkTs] at h
      | cons e es =>
        have h2 : chkT1 c N sc j e = true ∧ chkTs c N sc r es = true := by simpa [chkTs] using h
        rcases List.mem_cons.mp hi with rfl | hi
        · exact one h2.1
        · exact ih h2.2 i hi
  refine go _ ?_
  unfold chkT at h
  split at h
  · intro i hi
    rw [List.mem_singleton.mp hi]
    exact one h
  · exact many h
  · cases h

/-! ### a list of one's own: it grows, it is frozen -/
theorem Core.own {G : Gi} {F : Hp} {m : List Addr} {h : Cells} {H : Hp} (c : Core G F m h H) {D : Addr} {o : HO} (n : F D = none) (nm : D ∉ m) : Core G F m h (upd H D o) := by
  refine ⟨fun a u e => ?_, c.nd, c.len, fun i a co e1 e2 => ?_⟩
  · rw [upd_ne (ne_of_none e n)]; exact c.sub a u e
  · have k := c.cel i a co e1 e2
    have hne : a ≠ D := fun q => nm (by rw [← q]; exact List.mem_of_getElem? e1)
    cases co with
    | dead => exact ⟨k.1, k.2.imp fun o e => by rw [upd_ne hne]; exact e⟩
    | lst xs =>
      obtain ⟨z, vs, e, r⟩ := k
      exact ⟨z, vs, by rw [upd_ne fun q => nm (by rw [← q]; exact List.mem_of_getElem? e1)]; exact e, r⟩
theorem Core.freeze {G : Gi} {F : Hp} {m : List Addr} {h : Cells} {H : Hp} (c : Core G F m h H) {D : Addr} {o : HO} (n : F D = none) (nm : D ∉ m) (e0 : H D = some o) : Core G (upd F D o) m h H := by
  refine ⟨fun a u e => ?_, c.nd, c.len, fun i a co e1 e2 => ?_⟩
  · by_cases ha : a = D
    · subst ha; rw [upd_same] at e; cases e; exact e0
    · rw [upd_ne ha] at e; exact c.sub a u e
  · have k := c.cel i a co e1 e2
    have hne : a ≠ D := fun q => nm (by rw [← q]; exact List.mem_of_getElem? e1)
    cases co with
    | dead => exact ⟨by rw [upd_ne hne]; exact k.1, k.2⟩
    | lst xs =>
      obtain ⟨z, vs, e, r⟩ := k
      refine ⟨by rw [upd_ne fun q => nm (by rw [← q]; exact List.mem_of_getElem? e1)]; exact z, vs, e, r.mono ⟨fun a o e => ?_, [], by simp⟩⟩
      rw [upd_ne (ne_of_none e n)]; exact e
theorem Stp.freeze {F F' : Hp} {m m' : List Addr} {H H' : Hp} (s : Stp F F' m m' H H') {D : Addr} {o : HO} (n : F' D = none) (n0 : H D = none) : Stp F (upd F' D o) m m' H H' := by
  refine ⟨fun a u e => ?_, fun a u e => ?_, s.pre, s.new, s.kh⟩
  · have e2 := s.kf a u e
    rw [upd_ne (ne_of_none e2 n)]; exact e2
  · by_cases ha : a = D
    · subst ha; exact .inr (.inl n0)
    · rw [upd_ne ha] at e; exact s.fn a u e
theorem Stp.own {F F' : Hp} {m m' : List Addr} {H H' : Hp} (s : Stp F F' m m' H H') {D : Addr} {o : HO} (n0 : H D = none) : Stp F F' m m' H (upd H' D o) :=
  ⟨s.kf, s.fn, s.pre, s.new, fun a u e hm => by rw [upd_ne (ne_of_none e n0)]; exact s.kh a u e hm⟩
/-- a new list, of the frame's own from now on -/
def relF (G : Gi) : Rel IV V := fun F m H x v => ∃ l a vs, x = .lst l ∧ v = .ref a ∧ H a = some (.lst vs) ∧ a ∉ m ∧ F a = none ∧ RpL G F m l vs
abbrev tF (A : Ar) (r : Fr → M IV) : TE := tG A (relF A.G) r
/-- .. that was not there ahead -/
def relF0 (G : Gi) (H0 : Hp) : Rel IV V := fun F m H x v => ∃ l a vs, x = .lst l ∧ v = .ref a ∧ H a = some (.lst vs) ∧ a ∉ m ∧ F a = none ∧ RpL G F m l vs ∧ H0 a = none
/-- a run that ends well -/
theorem tP_ok {α β : Type} {A : Ar} {rel : Rel α β} {m0 : M α} {F : Hp} {m : List Addr} {h : Cells} {σ : L2.St} {H : Hp} {Q : β → Hp → Prop} {x : α} {h' : Cells} (e : m0 h = .ok x h') (q : ∀ F' m' H' v, Stp F F' m m' H H' → Core A.G F' m' h' H' → rel F' m' H' x v → Q v H') : tP A rel m0 F m h σ H Q := by
  show match m0 h with
    | .ok x h' => ∀ F' m' H' v, Stp F F' m m' H H' → Core A.G F' m' h' H' → rel F' m' H' x v → Q v H'
    | .exc x h' => ∀ F' m' H' c d, Stp F F' m m' H H' → Core A.G F' m' h' H' → A.xi F' m' H' x c d → A.W c d σ H'
    | .stuck => False
  rw [e]
  exact q
theorem bind_ok {α β : Type} {m : M α} {f : α → M β} {h : Cells} {y : β} {h2 : Cells} (e : m.bind f h = .ok y h2) : ∃ x h1, m h = .ok x h1 ∧ f x h1 = .ok y h2 := by
  unfold M.bind at e
  cases e1 : m h with
  | ok x h1 => rw [e1] at e; exact ⟨x, h1, rfl, e⟩
  | exc x h1 => rw [e1] at e; cases e
  | stuck => rw [e1] at e; cases e
theorem opt_ok {α : Type} {o : Option α} {h : Cells} {y : α} {h2 : Cells} (e : M.opt o h = .ok y h2) : o = some y ∧ h2 = h := by
  unfold M.opt at e
  cases o with
  | none => cases e
  | some x => cases e; exact ⟨rfl, rfl⟩
theorem pure_ok {α : Type} {x : α} {h : Cells} {y : α} {h2 : Cells} (e : M.pure x h = .ok y h2) : y = x ∧ h2 = h := by
  unfold M.pure at e
  cases e
  exact ⟨rfl, rfl⟩

/-! ### tests -/
abbrev tst (Φ : Nat → List IV → M IV) (e : E) (fr : Fr) : M Bool := M.test (ev Φ e fr)
theorem tB_of {r : Fr → M IV} {σ : L2.St} {H : Hp} {Q : Bool → Hp → Prop} (k : tT A (fun fr => M.test (r fr)) σ H Q) : tB (tE A r) σ H Q := by
  obtain ⟨F, m, fr, h, K, k⟩ := k
  refine ⟨F, m, fr, h, K, (tP.bind (rel := relV A.G) K k).mono fun v H1 ⟨F1, m1, h1, x, s1, K1, r1, k1⟩ => ?_⟩
  obtain ⟨b, e, q⟩ := tP.opt k1
  cases x <;> simp only [truth] at e <;> try (cases e; done)
  cases e
  cases r1
  exact ⟨_, rfl, q F1 m1 H1 _ .refl K1.core rfl⟩
theorem pt_of {e : Expr} {r : Fr → M IV} (p : PT X e (tB (tE A r))) : PT X e (tT A fun fr => M.test (r fr)) := p.imp fun σ H Q k => tB_of k
theorem evif_one {e : E} {fr : Fr} : evif Φ [e] fr = tst Φ e fr := by
  show (M.test (ev Φ e fr)).bind (fun t => if t = true then M.pure true else M.pure false) = _
  generalize hr : M.test (ev Φ e fr) = r
  show _ = M.test (ev Φ e fr)
  rw [hr]
  funext h
  unfold M.bind
  cases r h with
  | ok b h' => cases b <;> rfl
  | exc x h' => rfl
  | stuck => rfl

/-! ### the comprehension -/
/-- one item's turn -/
def turnC (Φ : Nat → List IV → M IV) (tg : Tg) (ifs : List E) (elt : E) (fr : Fr) (x : IV) : M (List IV) := (M.opt (store tg x fr)).bind fun fr1 => (evif Φ ifs fr1).bind fun t => if t then (ev Φ elt fr1).bind fun v => M.pure [v] else M.pure []
def noW (A : Ar) : Ar := ⟨A.G, A.xi, fun _ _ _ _ => False⟩
theorem lc_run {tg : Tg} {ifs : List E} {elt : E} {fr : Fr} {F : Hp} {m : List Addr} {h : Cells} {σ : L2.St} {H : Hp} {Q : VK} {items l : List IV} {hf : Cells} {J : It} {K : PySem.W.Frag} (hG : A.G.K = K) (k : Fok A.G F m fr h σ H) (wk : Wk mwE A.G F m H items J)
    (e : each (turnC Φ tg ifs elt fr) items h = .ok l hf) (hl : l.length ≤ szl) (q : ∀ F' m' H' v, Stp F F' m m' H H' → Core A.G F' m' hf H' → relF0 A.G H F' m' H' (.lst l) v → Q v H') : ∀ D, H D = none → ∃ Wi : Nat → Nat → Hp → Prop, (∃ m, Wi 0 m (upd H D (.lst []))) ∧ ∀ i m H, Wi i m H →
  (J.stop i H ∧ Q (.ref D) H) ∨ (J.go i H ∧ ∃ Nx : Hp → Prop, (∀ H', Nx H' → ∃ m', m' < m ∧ Wi (i + 1) m' H') ∧ ∀ x H', J.yld i H x H' → tgG K tg x (wipe σ (slotsT tg)) H' fun σ2 H2 => wipe σ2 (slotsT tg) = wipe σ (slotsT tg) ∧ tT (noW A) (fun fr => evif Φ ifs fr) σ2 H2 fun b H3 =>
    if b = true then tE (noW A) (ev Φ elt) σ2 H3 fun y H4 => ∃ acc, H4 D = some (.lst acc) ∧ acc.length < sizeLine ∧ Nx (upd H4 D (.lst (acc ++ [y]))) else Nx H3) := by
  intro D nD
  -- ahead of the turn i
  let St (i : Nat) (H' : Hp) : Prop := ∃ F' m' h' acc, Stp F F' m m' H H' ∧ Core A.G F' m' h' H' ∧ SlotOk A.G F' m' H' (.own acc) (some (.ref D)) ∧ i ≤ items.length ∧ ∃ rest, each (turnC Φ tg ifs elt fr) (items.drop i) h' = .ok rest hf ∧ acc ++ rest = l
  have nF : F D = none := by
    cases z : F D with
    | none => rfl
    | some u => rw [k.core.sub D u z] at nD; cases nD
  have nm : D ∉ m := fun hm => by
    obtain ⟨_, o, e⟩ := k.core.there hm
    rw [nD] at e; cases e
  refine ⟨fun i mm H' => mm = items.length - i ∧ St i H', ⟨_, rfl, F, m, h, [], .fresh0 nD, k.core.new0 nD, ⟨D, [], rfl, upd_same, .nil, nF, nm⟩, Nat.zero_le _, l, e, rfl⟩, ?_⟩
  rintro i mm H' ⟨rfl, F', m', h', acc, s, c, so, hi, rest, er, ea⟩
  obtain ⟨D', accv, eD, hD, rl, nF', nm'⟩ := so
  cases eD
  have wi := wk i F' m' h' H' s c
  by_cases hlt : i < items.length
  · rw [List.drop_eq_getElem_cons hlt] at er
    have ez : items[i]? = some items[i] := List.getElem?_eq_getElem hlt
    generalize items[i] = z at er ez
    obtain ⟨a, h1, et0, er⟩ := bind_ok (show ((turnC Φ tg ifs elt fr z).bind fun a => (each (turnC Φ tg ifs elt fr) (items.drop (i + 1))).bind fun b => M.pure (a ++ b)) h' = .ok rest hf from er)
    obtain ⟨b, h2, eb, er⟩ := bind_ok er
    obtain ⟨rfl, rfl⟩ := pure_ok er
    obtain ⟨go, yl⟩ := wi.2 z ez
    refine .inr ⟨go, fun H2 => St (i + 1) H2, fun H2 q => ⟨_, by omega, rfl, q⟩, fun x H2 hy => ?_⟩
    obtain ⟨F2, s2, c2, r2⟩ := yl x H2 hy
    have k2 : Fok A.G F2 m' fr h' σ H2 := k.step (s.trans s2) c2
    obtain ⟨fr1, h3, e3, et1⟩ := bind_ok et0
    obtain ⟨e3a, rfl⟩ := opt_ok e3; clear e3
    obtain ⟨t, h4, e4a, et⟩ := bind_ok et1
    have so2 : SlotOk A.G F2 m' H2 (.own acc) (some (.ref D)) := SlotOk.mono s2 ⟨D, accv, rfl, hD, rl, nF', nm'⟩
    refine store_blk hG k2 e3a r2 fun σ2 k3 hw => ⟨hw, F2, m', fr1, h3, k3, tP_ok e4a fun F3 m3 H3 bb s3 c3 rb => ?_⟩
    have rb : t = bb := rb
    subst rb
    have so3 := SlotOk.mono s3 so2
    have k4 : Fok A.G F3 m3 fr1 h4 σ2 H3 := k3.step s3 c3
    cases t with
    | false =>
      rw [if_neg (by simp)] at et ⊢
      obtain ⟨rfl, rfl⟩ := pure_ok et
      exact ⟨F3, m3, h1, acc, (s.trans s2).trans s3, c3, so3, by omega, b, eb, by rw [← ea]; rfl⟩
    | true =>
      rw [if_pos rfl] at et ⊢
      obtain ⟨y, h5, e5, et⟩ := bind_ok et
      obtain ⟨rfl, rfl⟩ := pure_ok et
      refine ⟨F3, m3, fr1, h4, k4, tP_ok e5 fun F4 m4 H4 v s4 c4 rv => ?_⟩
      have so4 := SlotOk.mono s4 so3
      obtain ⟨D', accv', eD, hD', rl', nF4, nm4⟩ := so4
      cases eD
      have lacc : acc.length + 1 ≤ l.length := by rw [← ea, List.length_append, List.length_append, List.length_singleton]; omega
      refine ⟨accv', hD', ?_, F4, m4, h1, acc ++ [y], (((s.trans s2).trans s3).trans s4).own nD, c4.own nF4 nm4, ⟨D, accv' ++ [v], rfl, upd_same, rl'.append (.cons rv .nil), nF4, nm4⟩, by omega, b, eb, by rw [← ea]; simp⟩
      rw [rl'.1, ← szl_eq]
      omega
  · have hie : i = items.length := by omega
    subst hie
    rw [List.drop_length] at er
    obtain ⟨rfl, rfl⟩ := pure_ok er
    refine .inl ⟨wi.1 (Nat.le_refl _), q F' m' H' _ s c ⟨l, D, accv, rfl, rfl, hD, nm', nF', ?_, nD⟩⟩
    rw [← ea, List.append_nil]
    exact rl
end
end PI

set_option Elab.async false
set_option linter.all false
set_option maxRecDepth 100000
set_option maxHeartbeats 4000000
/-! PIn: expressions altogether. -/
namespace PI
open PySem PySem.Spec PyProof.Rows L2
section
variable {X : Cx} {A : Ar} {fs : Nat → Option Fn} {W n : Nat} {CX : CXT} {T : Tab} {Φ : Nat → List IV → M IV}

/-! ### tests as parts -/
theorem tst_run {γ δ : Type} {rel2 : Rel γ δ} {r : Fr → M IV} {f : Bool → M γ} {F : Hp} {m : List Addr} {fr : Fr} {h : Cells} {σ : L2.St} {H : Hp} {Q : δ → Hp → Prop} (K : Fok A.G F m fr h σ H) (k : tP A rel2 ((M.test (r fr)).bind f) F m h σ H Q) :
    tE A r σ H fun x H1 => ∃ c, x = .bl c ∧ ∃ F1 m1 h1, Fok A.G F1 m1 fr h1 σ H1 ∧ Stp F F1 m m1 H H1 ∧ tP A rel2 (f c) F1 m1 h1 σ H1 Q := by
  have k2 : tP A rel2 ((r fr).bind fun v => (M.opt (truth v)).bind f) F m h σ H Q := by
    have e : (M.test (r fr)).bind f = (r fr).bind fun v => (M.opt (truth v)).bind f := M.assoc _ _ _
    rw [← e]; exact k
  refine ⟨F, m, fr, h, K, (tP.bind (rel := relV A.G) K k2).mono fun v H1 ⟨F1, m1, h1, x, s1, K1, r1, k1⟩ => ?_⟩
  cases x <;> try (exact k1.elim)
  rename_i b
  cases r1
  exact ⟨b, rfl, F1, m1, h1, K1, s1, k1⟩
theorem tstT_run {γ δ : Type} {rel2 : Rel γ δ} {r : Fr → M Bool} {f : Bool → M γ} {F : Hp} {m : List Addr} {fr : Fr} {h : Cells} {σ : L2.St} {H : Hp} {Q : δ → Hp → Prop} (K : Fok A.G F m fr h σ H) (k : tP A rel2 ((r fr).bind f) F m h σ H Q) :
    tT A r σ H fun c H1 => ∃ F1 m1 h1, Fok A.G F1 m1 fr h1 σ H1 ∧ Stp F F1 m m1 H H1 ∧ tP A rel2 (f c) F1 m1 h1 σ H1 Q := by
  refine ⟨F, m, fr, h, K, (tP.bind (rel := relB) K k).mono fun v H1 ⟨F1, m1, h1, x, s1, K1, r1, k1⟩ => ?_⟩
  have e : x = v := r1
  subst e
  exact ⟨F1, m1, h1, K1, s1, k1⟩

/-! ### displays, calls -/
theorem tup_run {es : List E} {σ : L2.St} {H : Hp} {Q : VK} (k : tE A (ev Φ (.tup es)) σ H Q) : tTup (tList (es.map fun e => tE A (ev Φ e))) σ H Q := by
  obtain ⟨F, m, fr, h, K, k⟩ := k
  refine evs_run (rel2 := relV A.G) es K k fun F' m' h' H' xs vs s K' r k' => ?_
  obtain ⟨z, e, q⟩ := tP.opt k'
  split at e
  · rename_i hz
    cases e
    exact ⟨by rw [r.1, ← szl_eq]; exact hz, fun p np => finT K'.core q r np⟩
  · cases e
/-- .. with the initial heap in hand -/
def tF0 (A : Ar) (r : Fr → M IV) : TE := fun σ H Q => ∃ F m fr h, Fok A.G F m fr h σ H ∧ tP A (relF0 A.G H) (r fr) F m h σ H Q
theorem stp_none {G : Gi} {F F' : Hp} {m m' : List Addr} {h' : Cells} {H H' : Hp} (s : Stp F F' m m' H H') (c : Core G F' m' h' H') {a : Addr} (e : H' a = none) : H a = none := by
  rcases s.back e with q | q
  · exact q
  · obtain ⟨l, el⟩ := s.pre
    obtain ⟨_, o, e2⟩ := c.there (a := a) (by rw [el]; exact List.mem_append_left _ q)
    rw [e] at e2; cases e2
theorem F0_of_E {r : Fr → M IV} {σ : L2.St} {H : Hp} {Q : VK} (k : tE A r σ H Q) : tF0 A r σ H Q := by
  obtain ⟨F, m, fr, h, K, k⟩ := k
  refine ⟨F, m, fr, h, K, ?_⟩
  unfold tP at k ⊢
  cases e : r fr h with
  | ok x h' =>
    rw [e] at k
    intro F' m' H' v s c ⟨l, a, vs, ex, ev, ha, hm, hF, rl, n0⟩
    subst ex ev
    exact k _ m' H' _ (s.freeze hF n0) (c.freeze hF hm ha) (.lst upd_same rl.1 fun i x v e1 e2 => (rl.2 i x v e1 e2).mono ⟨fun b o e => by rw [upd_ne (ne_of_none e hF)]; exact e, [], by simp⟩)
  | exc x h' => rw [e] at k; exact k
  | stuck => rw [e] at k; exact k
theorem F0_of_F {r : Fr → M IV} {σ : L2.St} {H : Hp} {Q : VK} (k : tF A r σ H Q) : tF0 A r σ H Q := by
  obtain ⟨F, m, fr, h, K, k⟩ := k
  exact ⟨F, m, fr, h, K, k.rel fun F m H' x v ⟨l, a, vs, e1, e2, e3, e4, e5, e6, _⟩ => ⟨l, a, vs, e1, e2, e3, e4, e5, e6⟩⟩
theorem lst_run {es : List E} {σ : L2.St} {H : Hp} {Q : VK} (k : tF0 A (ev Φ (.lst es)) σ H Q) : tLst (tList (es.map fun e => tE A (ev Φ e))) σ H Q := by
  obtain ⟨F, m, fr, h, K, k⟩ := k
  refine evs_run (rel2 := relF0 A.G H) es K k fun F' m' h' H' xs vs s K' r k' => ?_
  obtain ⟨z, e, q⟩ := tP.opt k'
  split at e
  · rename_i hz
    cases e
    refine ⟨by rw [r.1, ← szl_eq]; exact hz, fun p np => q F' m' _ _ (.fresh0 np) (K'.core.new0 np) ⟨xs, p, vs, rfl, rfl, upd_same, fun hm => ?_, ?_, r, stp_none s K'.core np⟩⟩
    · obtain ⟨_, o, e2⟩ := K'.core.there hm
      rw [np] at e2; cases e2
    · cases z : F' p with
      | none => rfl
      | some o => have := K'.core.sub p o z; rw [np] at this; cases this
  · cases e
/-- a def that is called with all of its values -/
theorem run_G {k : Nat} {f : Addr} {fd : FuncData} {ps : List Str} {sp : Sp} {E : XK} {pins : List (Addr × Obj)} {σ : L2.St} {H : Hp} {s : Shared} {Q : VK} {us : List Value} {vs : List V} (F : FnG X.prog X.w X.K X.mg X.base CX k f fd ps sp) (hr : Room k X.A) (gd : X.A.guards = some []) (hb : Binds X.K fd ps [])
    (hx : PassesAt CX X σ E) (I : L2.Inv X pins σ H s) (r : Vals vs us) (q : sp vs H Q E) : wpAny (model X.prog X.w) X.A (call (.ref f) us) (EP X pins σ Q) X.xe s := by
  have hl : us.length = ps.length := by rw [← F.len _ _ _ _ q]; exact r.length.symm
  have bind := hb s us I.kIn (by simpa using hl)
  rw [List.append_nil] at bind
  apply wpAny_call
  refine codeAny_mono (F.run X.A X.stack s H ⟨us, []⟩ us vs Q E hr gd I.env0 bind r q) ?_
  rintro (e | fl) s' hq
  · exact hx pins H s e s' I hq
  · cases fl with
    | ret u => exact I.after hq
    | next => exact hq.elim
    | brk => exact hq.elim
    | cont => exact hq.elim
theorem pe_callG0 {k : Nat} {f : Addr} {fd : FuncData} {ps : List Str} {sp : Sp} {E : L2.St → XK} {x : Str} {p pos : Pos} (F : FnG X.prog X.w X.K X.mg X.base CX k f fd ps sp) (hr : Room k X.A) (gd : X.A.guards = some []) (hg : Gl X x) (hm : X.mg x = some (.ref f)) (hk : PySem.W.keepIn X.K (.ref f) = true) (hb : Binds X.K fd ps [])
    (hx : ∀ σ, PassesAt CX X σ (E σ)) (hdb : (x == ("__debug__" : Str)) = false) : PE X (.Call (.Name x p) [] [] pos) (tCallS sp E tNil) := by
  constructor
  intro pins s σ H Q I k
  apply wpAny_Call_Name_kw (ld_glob I hg hm ?_ hdb)
  exact PySem.W.callWith_K0 I.kIn hk (run_G (us := []) F hr gd hb (hx σ) I .nil k)
theorem pe_callG {k : Nat} {f : Addr} {fd : FuncData} {ps : List Str} {sp : Sp} {E : L2.St → XK} {x : Str} {p pos : Pos} {e : Expr} {es : List Expr} {t : TA} (F : FnG X.prog X.w X.K X.mg X.base CX k f fd ps sp) (hr : Room k X.A) (gd : X.A.guards = some []) (hg : Gl X x) (hm : X.mg x = some (.ref f)) (hk : PySem.W.keepIn X.K (.ref f) = true)
    (hb : Binds X.K fd ps []) (hx : ∀ σ, PassesAt CX X σ (E σ)) (pa : PA X (e :: es) t) (hdb : (x == ("__debug__" : Str)) = false) (he : star e = false) (hpl : (backTo pos (starEach es X.env)).any (·.1) = false) : PE X (.Call (.Name x p) (e :: es) [] pos) (tCallS sp E t) := by
  constructor
  intro pins s σ H Q I k
  apply wpAny_Call_Name_kw (ld_glob I hg hm ?_ hdb)
  refine PySem.W.callWith_K (h₀ := X.base) I.ok.mod.kin hk (thn (pa.run pos pins s σ H _ I k) ?_) (star_each he) hpl
  rintro us s1 ⟨vs, H1, I1, r, q⟩
  exact ⟨I1.kIn, run_G F hr gd hb (hx σ) I1 r q⟩
theorem call_ok (S : Sta fs W n CX T A X) {f : Nat} {x : Str} {p pos : Pos} {xs : List Expr} {es : List E} (hf : fnIs T X.env.scope x f es.length = true) (ps : PEs X xs (es.map fun e => tE A (ev (callF fs W n) e))) :
    PE X (.Call (.Name x p) xs [] pos) (tE A (ev (callF fs W n) (.call f es))) := by
  unfold fnIs at hf
  simp only [Bool.and_eq_true, Bool.not_eq_true', oddN, Bool.or_eq_false_iff] at hf
  obtain ⟨⟨hg, hd, _⟩, hf⟩ := hf
  split at hf
  · rename_i g k ht
    simp at hf
    obtain ⟨rfl, rfl⟩ := hf
    obtain ⟨fd, pn, hm, hk, hl, hb, hF⟩ := S.tab _ _ (tab_mem ht)
    have key : ∀ σ H Q, tE A (ev (callF fs W n) (.call g es)) σ H Q → tCallS (spF A.G A.xi fs W n g) (WE A.W) (tList (es.map fun e => tE A (ev (callF fs W n) e))) σ H Q := fun σ H Q ⟨F, m, fr, h, K, k⟩ =>
      evs_run (rel2 := relV A.G) es K k fun F' m' h' H' xs vs s K' r k' => ⟨F', m', h', xs, K'.core, r, k'⟩
    match xs, es, ps with
    | [], [], ps => exact (pe_callG0 hF S.room S.gd (gl_of hg) hm hk hb S.pass hd).imp key
    | e :: r, x :: es, ps =>
      have hst := ps.stars
      simp at hst
      exact (pe_callG hF S.room S.gd (gl_of hg) hm hk hb S.pass ps.pa hd hst.1 (star_any (by simpa using hst.2))).imp key
  · cases hf
end

/-! ### the whole -/
def Snd (fs : Nat → Option Fn) (W n : Nat) (CX : CXT) (T : Tab) (x : E) : Prop := ∀ (A : Ar) (X : Cx), Sta fs W n CX T A X → ∀ e : Expr, chk X.N T x X.env.scope e = true →
  PE X e (tE A (ev (callF fs W n) x)) ∧ (noIf e = true → PT X e (tT A (tst (callF fs W n) x))) ∧ (isBo e = true → PW X e (tT A (tst (callF fs W n) x)))
section
variable {X : Cx} {A : Ar} {fs : Nat → Option Fn} {W n : Nat} {CX : CXT} {T : Tab}
theorem snd_val (he : ∀ whole, isTrue e X.env whole = (do let v ← whole; standAt e.pos; holding [v] (truthy v))) {x : E} (hb : isBo e = false) (p : PE X e (tE A (ev (callF fs W n) x))) :
    PE X e (tE A (ev (callF fs W n) x)) ∧ (noIf e = true → PT X e (tT A (tst (callF fs W n) x))) ∧ (isBo e = true → PW X e (tT A (tst (callF fs W n) x))) :=
  ⟨p, fun _ => pt_of (pt_val p he), fun h => by rw [hb] at h; cases h⟩
theorem sta_blk (S : Sta fs W n CX T A X) (s : Shared) (H : Hp) (scope : Scope) (C : Addr) (cl : List (Str × Addr)) (fp : List Addr) : Sta fs W n CX T (noW A) (X.blk s H scope (compEnvC scope cl C X.env) fp) :=
  ⟨S.hG, S.room, S.gd, S.calm, S.nd, fun x g h => by have := S.tab x g h; cases g <;> exact this, fun σ pins H s e s' I c => S.nox _ _ _ _ _ c, S.nox⟩
theorem pes_of (S : Sta fs W n CX T A X) : ∀ (es : List E), (∀ x ∈ es, Snd fs W n CX T x) → ∀ xs : List Expr, chks X.N T es X.env.scope xs = true → PEs X xs (es.map fun e => tE A (ev (callF fs W n) e))
  | [], _, xs, h => by
    cases xs with
    | nil => trivial
    | cons _ _ => simp [chks] at h
  | e :: r, ih, xs, h => by
    cases xs with
    | nil => simp [chks] at h
    | cons x xs =>
      have h2 : (star x = false ∧ chk X.N T e X.env.scope x = true) ∧ chks X.N T r X.env.scope xs = true := by simpa [chks] using h
      exact ⟨⟨h2.1.1, TMon.g⟩, (ih e (by simp) A X S x h2.1.2).1, pes_of S r (fun y hy => ih y (List.mem_cons_of_mem _ hy)) xs h2.2⟩
theorem pea_of (S : Sta fs W n CX T A X) : ∀ (es : List E), (∀ x ∈ es, Snd fs W n CX T x) → ∀ xs : List Expr, chka X.N T es X.env.scope xs = true → PEs X xs (es.map fun e => tS A (evo (callF fs W n) e))
  | [], _, xs, h => by
    cases xs with
    | nil => trivial
    | cons _ _ => simp [chka] at h
  | e :: r, ih, xs, h => by
    cases xs with
    | nil => simp [chka] at h
    | cons x xs =>
      have h2 : (star x = false ∧ oper (isOwn e) X.N X.env.scope x (chk X.N T e X.env.scope x) = true) ∧ chka X.N T r X.env.scope xs = true := by simpa [chka] using h
      refine ⟨⟨h2.1.1, TMon.g⟩, ?_, pea_of S r (fun y hy => ih y (List.mem_cons_of_mem _ hy)) xs h2.2⟩
      have h3 := h2.1.2
      cases ei : isOwn e with
      | some i =>
        rw [ei] at h3
        have e1 : (fun fr => evo (callF fs W n) e fr) = fun fr => M.opt (ownV fr i) := by
          funext fr
          unfold evo evo1
          rw [ei]
        show PE X x (tS A fun fr => evo (callF fs W n) e fr)
        rw [e1]
        exact pe_own h3
      | none =>
        rw [ei] at h3
        have e1 : (fun fr => evo (callF fs W n) e fr) = fun fr => ev (callF fs W n) e fr := by
          funext fr
          unfold evo evo1
          rw [ei]
        show PE X x (tS A fun fr => evo (callF fs W n) e fr)
        rw [e1]
        exact (ih e (by simp) A X S x h3).1.imp fun σ H Q ⟨F, m, fr, h, K, k⟩ => ⟨F, m, fr, h, K, k.rel fun F m H x v r => .inl r⟩
end
end PI

set_option Elab.async false
set_option linter.all false
set_option maxRecDepth 100000
set_option maxHeartbeats 4000000
/-! PIo: each expression's value. -/
namespace PI
open PySem PySem.Spec PyProof.Rows L2
theorem _root_.L2.PTs.imp {X : Cx} {is : List Expr} {t t' : TT} (p : PTs X is t) (i : ∀ σ H Q, t' σ H Q → t σ H Q) : PTs X is t' := ⟨fun pins s σ H Q I k => p.run pins s σ H Q I (i σ H Q k)⟩
section
variable {X : Cx} {A : Ar} {fs : Nat → Option Fn} {W n : Nat} {CX : CXT} {T : Tab}
theorem walk_set {sc : Scope} {k : Sk} {it : Expr} {xs : List Expr} {env : Env} (h : walkE T sc k it = some xs) (v : Value) : foldedSetIterable it env v = pure v := by
  unfold walkE at h
  split at h <;> first | rfl | (cases h)
theorem pts_of (S : Sta fs W n CX T A X) {ifs : List E} (ih : ∀ x ∈ ifs, Snd fs W n CX T x) {is : List Expr} (h : chki X.N T ifs X.env.scope is = true) : PTs X is (tT A fun fr => evif (callF fs W n) ifs fr) := by
  match ifs, is, ih, h with
  | [], [], ih, h =>
    refine pts_nil.imp fun σ H Q ⟨F, m, fr, h, K, k⟩ => ?_
    exact tP.pure (x := true) k F m H true .refl K.core rfl
  | [c], [x], ih, h =>
    have h2 : (noIf x = true ∧ chk X.N T c X.env.scope x = true) := by
      simp [chki] at h
      exact h
    refine (pts_one ((ih c (by simp) A X S x h2.2).2.1 h2.1)).imp fun σ H Q ⟨F, m, fr, h, K, k⟩ => ⟨F, m, fr, h, K, ?_⟩
    have e : evif (callF fs W n) [c] fr = tst (callF fs W n) c fr := evif_one
    show tP A relB (tst (callF fs W n) c fr) F m h σ H Q
    rw [← e]
    exact k
  | [], _ :: _, ih, h => simp [chki] at h
  | _ :: _, [], ih, h => simp [chki] at h
  | _ :: _ :: _, _ :: _, ih, h => simp [chki] at h
  | [_], _ :: _ :: _, ih, h => simp [chki] at h
theorem tgt_tuple {c : Bool} {N : List Str} {sc : Scope} {k : Sk} {tg : Tg} {e : Expr} (h : chkT c N sc tg e = true) (hp : pairT k tg = true) (hk : k = .zip ∨ k = .items) : ∃ es kk p, e = .Tuple es kk p := by
  cases tg with
  | one i => rcases hk with rfl | rfl <;> cases hp
  | many is =>
    unfold chkT at h
    split at h
    · rename_i i e2 heq; cases heq
    · exact ⟨_, _, _, rfl⟩
    · cases h
theorem comp_parts (S : Sta fs W n CX T A X) {tg : Tg} {k : Sk} {src ifs : List E} {elt : E} {el te it : Expr} {is xs : List Expr} {scope : Scope} {pos : Pos} (hw : walkE T X.env.scope k it = some xs) (hp : pairT k tg = true) (hs : chka X.N T src X.env.scope xs = true) (hb : blkC X.N X.env.scope scope (ownT2 X.N (slotsT tg)) = true)
    (ht : chkT false X.N (L2.relS scope X.env.scope) tg te = true) (hi : chki X.N T ifs (L2.relS scope X.env.scope) is = true) (he : chk X.N T elt (L2.relS scope X.env.scope) el = true) (i1 : ∀ x ∈ src, Snd fs W n CX T x) (i2 : ∀ x ∈ ifs, Snd fs W n CX T x) (i3 : Snd fs W n CX T elt) :
    ∃ (wi : TI) (g : TG) (tt : TT) (te2 : TE), L2.PI X te it wi ∧ (∀ (s : Shared) (H : Hp) (C : Addr) (cl : List (Str × Addr)) (fp : List Addr), PG (X.blk s H scope (compEnvC scope cl C X.env) fp) te g) ∧
      (∀ (s : Shared) (H : Hp) (C : Addr) (cl : List (Str × Addr)) (fp : List Addr), PTs (X.blk s H scope (compEnvC scope cl C X.env) fp) is tt) ∧ (∀ (s : Shared) (H : Hp) (C : Addr) (cl : List (Str × Addr)) (fp : List Addr), PE (X.blk s H scope (compEnvC scope cl C X.env) fp) el te2) ∧
      ∀ σ H Q, tF0 A (ev (callF fs W n) (.comp tg k src ifs elt)) σ H Q → tLc wi g tt te2 ((ownT2 X.N (slotsT tg)).map (·.2)) σ H Q := by
  have hown : (ownT2 X.N (slotsT tg)).map (·.2) = slotsT tg := own_slots ht
  refine ⟨_, tgG X.K tg, tT (noW A) fun fr => evif (callF fs W n) ifs fr, tE (noW A) (ev (callF fs W n) elt), pi_ok (tg := te) (opnE A.G) (oplE src) S hw (by rw [List.map_map]; exact pea_of S src i1 xs hs) fun hk => tgt_tuple ht hp hk,
    fun s H C cl fp => pg_tg (X := X.blk s H scope (compEnvC scope cl C X.env) fp) S.nd S.calm (c := false) (fun h => by cases h) ht, fun s H C cl fp => pts_of (sta_blk S s H scope C cl fp) i2 hi, fun s H C cl fp => (i3 _ _ (sta_blk S s H scope C cl fp) el he).1, ?_⟩
  intro σ H Q ⟨F, m, fr, h, K, k0⟩
  rw [hown]
  have k2 : tP A (relF0 A.G H) (((eva (callF fs W n) src fr).bind fun vs => M.opt (walk k vs)).bind fun items => (M.calm (each (turnC (callF fs W n) tg ifs elt fr) items)).bind fun l => M.opt (if l.length ≤ szl then some (IV.lst l) else none)) F m h σ H Q := by
    rw [M.assoc]
    exact k0
  refine ⟨F, m, fr, h, K, (tP.bind (rel := relW mwE A.G) K k2).mono fun J H1 ⟨F1, m1, h1, items, s1, K1, wk, k1⟩ => ?_⟩
  unfold tP at k1
  cases e : ((M.calm (each (turnC (callF fs W n) tg ifs elt fr) items)).bind fun l => M.opt (if l.length ≤ szl then some (IV.lst l) else none)) h1 with
  | stuck => rw [e] at k1; exact k1.elim
  | exc x h' =>
    exfalso
    unfold M.bind M.calm at e
    cases e2 : each (turnC (callF fs W n) tg ifs elt fr) items h1 with
    | ok l h2 =>
      rw [e2] at e
      dsimp only at e
      unfold M.opt at e
      split at e <;> cases e
    | exc x h2 => rw [e2] at e; cases e
    | stuck => rw [e2] at e; cases e
  | ok z h' =>
    rw [e] at k1
    obtain ⟨l, h2, e2, e3⟩ := bind_ok e
    obtain ⟨e3, rfl⟩ := opt_ok e3
    split at e3
    · rename_i hz
      cases e3
      have e4 : each (turnC (callF fs W n) tg ifs elt fr) items h1 = .ok l h' := by
        unfold M.calm at e2
        cases e5 : each (turnC (callF fs W n) tg ifs elt fr) items h1 with
        | ok l h2 => rw [e5] at e2; exact e2
        | exc x h2 => rw [e5] at e2; cases e2
        | stuck => rw [e5] at e2; cases e2
      refine lc_run S.hG K1 wk e4 hz fun F' m' H' v s c r => k1 F' m' H' v s c ?_
      obtain ⟨l', a, vs, ex, ev, ha, hm, hF, rl, n0⟩ := r
      exact ⟨l', a, vs, ex, ev, ha, hm, hF, rl, stp_none s1 K1.core n0⟩
    · cases e3

theorem comp_ok (S : Sta fs W n CX T A X) {tg : Tg} {k : Sk} {src ifs : List E} {elt : E} {el te it : Expr} {is xs : List Expr} {scope : Scope} {pos : Pos} (hw : walkE T X.env.scope k it = some xs) (hp : pairT k tg = true) (hs : chka X.N T src X.env.scope xs = true) (hb : blkC X.N X.env.scope scope (ownT2 X.N (slotsT tg)) = true)
    (ht : chkT false X.N (L2.relS scope X.env.scope) tg te = true) (hi : chki X.N T ifs (L2.relS scope X.env.scope) is = true) (he : chk X.N T elt (L2.relS scope X.env.scope) el = true) (i1 : ∀ x ∈ src, Snd fs W n CX T x) (i2 : ∀ x ∈ ifs, Snd fs W n CX T x) (i3 : Snd fs W n CX T elt) :
    PE X (.ListComp el [⟨te, it, is, 0⟩] scope pos) (tF0 A (ev (callF fs W n) (.comp tg k src ifs elt))) := by
  obtain ⟨wi, g, tt, te2, h1, h2, h3, h4, h5⟩ := comp_parts (pos := pos) S hw hp hs hb ht hi he i1 i2 i3
  exact (pe_lc S.calm S.nd h1 (blkOk_by hb) h2 h3 h4 (walk_set hw)).imp h5
theorem tE_false (b : Bool) {F : Hp} {m : List Addr} {fr : Fr} {h : Cells} {σ : L2.St} {H : Hp} {Q : VK} (K : Fok A.G F m fr h σ H) (k : tP A (relV A.G) (M.pure (.bl b)) F m h σ H Q) : Q (.bl b) H := tP.pure k F m H _ .refl K.core (.bl b)
theorem ite_ev (c : Bool) (p q : M IV) : M.test (if c = true then p else q) = if c = true then M.test p else M.test q := by cases c <;> rfl
theorem snd_c (v : IV) : Snd fs W n CX T (.c v) := fun A X S e h => by
  have p : PE X e (tE A (ev (callF fs W n) (.c v))) := pe_con S h
  have h : chkC T X.env.scope v e = true := h
  unfold chkC at h
  split at h
  all_goals first
    | exact snd_val (fun _ => rfl) rfl p
    | (cases h)
theorem snd_slot (i : Nat) : Snd fs W n CX T (.slot i) := fun A X S e h => by
  have p : PE X e (tE A (ev (callF fs W n) (.slot i))) := pe_slot h
  obtain ⟨x, pos, rfl, _⟩ := chkN_inv (show chkN X.N X.env.scope i e = true from h)
  exact snd_val (fun _ => rfl) rfl p
theorem opnd_bo {sc : Scope} {p : Pr} {e : Expr} {xs : List Expr} (h : opnd T sc p e = some xs) : isBo e = false := by
  cases e <;> first | rfl | (exfalso; cases p <;> simp [opnd] at h)
theorem snd_pr (p : Pr) (es : List E) (ih : ∀ x ∈ es, Snd fs W n CX T x) : Snd fs W n CX T (.pr p es) := fun A X S e h => by
  unfold chk at h
  split at h
  · rename_i xs ho
    obtain ⟨a, b⟩ := pr_ok S ho (pea_of S es ih xs h)
    refine ⟨a.imp fun σ H Q k => pr_run k, fun _ => b.imp fun σ H Q k => ?_, fun hb => by rw [opnd_bo ho] at hb; cases hb⟩
    exact pr_run (tB_of k)
  · cases h
theorem snd_tup (es : List E) (ih : ∀ x ∈ es, Snd fs W n CX T x) : Snd fs W n CX T (.tup es) := fun A X S e h => by
  unfold chk at h
  split at h
  · exact snd_val (fun _ => rfl) rfl ((pe_tup (pes_of S es ih _ h).pa).imp fun σ H Q k => tup_run k)
  · cases h
theorem lst_ok (S : Sta fs W n CX T A X) {es : List E} (ih : ∀ x ∈ es, Snd fs W n CX T x) {e : Expr} (h : chk X.N T (.lst es) X.env.scope e = true) : PE X e (tF0 A (ev (callF fs W n) (.lst es))) := by
  unfold chk at h
  split at h
  · exact (pe_lst (pes_of S es ih _ h).pa).imp fun σ H Q k => lst_run k
  · cases h
theorem snd_lst (es : List E) (ih : ∀ x ∈ es, Snd fs W n CX T x) : Snd fs W n CX T (.lst es) := fun A X S e h => by
  have p : PE X e (tE A (ev (callF fs W n) (.lst es))) := (lst_ok S ih h).imp fun σ H Q k => F0_of_E k
  unfold chk at h
  split at h
  · exact snd_val (fun _ => rfl) rfl p
  · cases h
theorem snd_call (f : Nat) (es : List E) (ih : ∀ x ∈ es, Snd fs W n CX T x) : Snd fs W n CX T (.call f es) := fun A X S e h => by
  unfold chk at h
  split at h
  · obtain ⟨h1, h2⟩ := Bool.and_eq_true_iff.mp h
    exact snd_val (fun _ => rfl) rfl (call_ok S h1 (pes_of S es ih _ h2))
  · cases h
theorem comp_chk (S : Sta fs W n CX T A X) {tg : Tg} {k : Sk} {src ifs : List E} {elt : E} (i1 : ∀ x ∈ src, Snd fs W n CX T x) (i2 : ∀ x ∈ ifs, Snd fs W n CX T x) (i3 : Snd fs W n CX T elt) {e : Expr} (h : chk X.N T (.comp tg k src ifs elt) X.env.scope e = true) :
    PE X e (tF0 A (ev (callF fs W n) (.comp tg k src ifs elt))) ∧ ∃ el g sc p, e = .ListComp el g sc p := by
  unfold chk at h
  split at h
  · split at h
    · rename_i xs hw
      simp only [Bool.and_eq_true] at h
      obtain ⟨⟨⟨⟨⟨h1, h2⟩, h3⟩, h4⟩, h5⟩, h6⟩ := h
      exact ⟨comp_ok S hw h1 h2 h3 h4 h5 h6 i1 i2 i3, _, _, _, _, rfl⟩
    · cases h
  · cases h
theorem snd_comp (tg : Tg) (k : Sk) (src ifs : List E) (elt : E) (i1 : ∀ x ∈ src, Snd fs W n CX T x) (i2 : ∀ x ∈ ifs, Snd fs W n CX T x) (i3 : Snd fs W n CX T elt) : Snd fs W n CX T (.comp tg k src ifs elt) := fun A X S e h => by
  obtain ⟨p, el, g, sc, ps, rfl⟩ := comp_chk S i1 i2 i3 h
  exact snd_val (fun _ => rfl) rfl (p.imp fun σ H Q k => F0_of_E k)
theorem snd_not (a : E) (ih : Snd fs W n CX T a) : Snd fs W n CX T (.not a) := fun A X S e h => by
  unfold chk at h
  split at h
  · obtain ⟨h1, h2⟩ := Bool.and_eq_true_iff.mp h
    obtain ⟨pe, pt, _⟩ := ih A X S _ h2
    have e1 : ∀ fr, ev (callF fs W n) (.not a) fr = (M.test (ev (callF fs W n) a fr)).bind fun t => M.pure (.bl (!t)) := fun fr => rfl
    refine ⟨(pe_not pe).imp fun σ H Q ⟨F, m, fr, h, K, k⟩ => ?_, fun _ => (pt_not (pt h1)).imp fun σ H Q ⟨F, m, fr, h, K, k⟩ => ?_, fun h => by cases h⟩
    · rw [e1] at k
      have := tst_run K k
      exact TMon.g σ H _ _ this fun v H1 ⟨c, e, F1, m1, h1, K1, _, k1⟩ => ⟨c, e, tE_false _ K1 k1⟩
    · have k2 : tP A relB ((tst (callF fs W n) a fr).bind fun t => M.test (M.pure (.bl (!t)))) F m h σ H Q := by
        have : tst (callF fs W n) (.not a) fr = (tst (callF fs W n) a fr).bind fun t => M.test (M.pure (.bl (!t))) := M.assoc _ _ _
        rw [← this]
        exact k
      obtain ⟨F', m', fr', h', K', k'⟩ := tstT_run K k2
      refine ⟨F', m', fr', h', K', k'.mono fun c H1 ⟨F1, m1, h1, K1, _, k1⟩ => ?_⟩
      exact tP.pure (x := !c) k1 F1 m1 H1 _ .refl K1.core rfl
  · cases h
theorem snd_and (a b : E) (iha : Snd fs W n CX T a) (ihb : Snd fs W n CX T b) : Snd fs W n CX T (.and a b) := fun A X S e h => by
  unfold chk at h
  split at h
  · rename_i x y r pos
    simp only [Bool.and_eq_true] at h
    obtain ⟨⟨⟨h1, h2⟩, h3⟩, h4⟩ := h
    obtain ⟨pa, pta, _⟩ := iha A X S _ h3
    obtain ⟨pb, ptb, pwb⟩ := ihb A X S _ h4
    have pe : PE X (.BoolOp .And (y :: r) pos) (tE A (ev (callF fs W n) b)) ∧ PW X (.BoolOp .And (y :: r) pos) (tT A (tst (callF fs W n) b)) := by
      cases r with
      | nil => exact ⟨pe_one pb, pw_and1 (ptb h2)⟩
      | cons z r => exact ⟨pb, pwb rfl⟩
    have e1 : ∀ fr, ev (callF fs W n) (.and a b) fr = (M.test (ev (callF fs W n) a fr)).bind fun t => if t = true then ev (callF fs W n) b fr else M.pure (.bl false) := fun fr => rfl
    have w : PW X (.BoolOp .And (x :: y :: r) pos) (tT A (tst (callF fs W n) (.and a b))) := (pw_and (pta h1) pe.2).imp fun σ H Q ⟨F, m, fr, h, K, k⟩ => by
      have k2 : tP A relB ((tst (callF fs W n) a fr).bind fun t => M.test (if t = true then ev (callF fs W n) b fr else M.pure (.bl false))) F m h σ H Q := by
        have : tst (callF fs W n) (.and a b) fr = (tst (callF fs W n) a fr).bind fun t => M.test (if t = true then ev (callF fs W n) b fr else M.pure (.bl false)) := M.assoc _ _ _
        rw [← this]
        exact k
      obtain ⟨F', m', fr', h', K', k'⟩ := tstT_run K k2
      refine ⟨F', m', fr', h', K', k'.mono fun c H1 ⟨F1, m1, h1, K1, _, k1⟩ => ?_⟩
      cases c with
      | true => exact ⟨F1, m1, fr, h1, K1, k1⟩
      | false => exact tP.pure (x := false) k1 F1 m1 H1 _ .refl K1.core rfl
    refine ⟨(pe_and pa pe.1).imp fun σ H Q ⟨F, m, fr, h, K, k⟩ => ?_, fun _ => w.pt, fun _ => w⟩
    rw [e1] at k
    have := tst_run K k
    exact TMon.g σ H _ _ this fun v H1 ⟨c, e, F1, m1, h1, K1, _, k1⟩ => ⟨c, e, by
      cases c with
      | true => exact ⟨F1, m1, fr, h1, K1, k1⟩
      | false => exact tE_false _ K1 k1⟩
  · cases h
theorem snd_or (a b : E) (iha : Snd fs W n CX T a) (ihb : Snd fs W n CX T b) : Snd fs W n CX T (.or a b) := fun A X S e h => by
  unfold chk at h
  split at h
  · rename_i x y r pos
    simp only [Bool.and_eq_true] at h
    obtain ⟨⟨⟨h1, h2⟩, h3⟩, h4⟩ := h
    obtain ⟨pa, pta, _⟩ := iha A X S _ h3
    obtain ⟨pb, ptb, pwb⟩ := ihb A X S _ h4
    have pe : PE X (.BoolOp .Or (y :: r) pos) (tE A (ev (callF fs W n) b)) ∧ PW X (.BoolOp .Or (y :: r) pos) (tT A (tst (callF fs W n) b)) := by
      cases r with
      | nil => exact ⟨pe_one pb, pw_or1 (ptb h2)⟩
      | cons z r => exact ⟨pb, pwb rfl⟩
    have e1 : ∀ fr, ev (callF fs W n) (.or a b) fr = (M.test (ev (callF fs W n) a fr)).bind fun t => if t = true then M.pure (.bl true) else ev (callF fs W n) b fr := fun fr => rfl
    have w : PW X (.BoolOp .Or (x :: y :: r) pos) (tT A (tst (callF fs W n) (.or a b))) := (pw_or (pta h1) pe.2).imp fun σ H Q ⟨F, m, fr, h, K, k⟩ => by
      have k2 : tP A relB ((tst (callF fs W n) a fr).bind fun t => M.test (if t = true then M.pure (.bl true) else ev (callF fs W n) b fr)) F m h σ H Q := by
        have : tst (callF fs W n) (.or a b) fr = (tst (callF fs W n) a fr).bind fun t => M.test (if t = true then M.pure (.bl true) else ev (callF fs W n) b fr) := M.assoc _ _ _
        rw [← this]
        exact k
      obtain ⟨F', m', fr', h', K', k'⟩ := tstT_run K k2
      refine ⟨F', m', fr', h', K', k'.mono fun c H1 ⟨F1, m1, h1, K1, _, k1⟩ => ?_⟩
      cases c with
      | true => exact tP.pure (x := true) k1 F1 m1 H1 _ .refl K1.core rfl
      | false => exact ⟨F1, m1, fr, h1, K1, k1⟩
    refine ⟨(pe_or pa pe.1).imp fun σ H Q ⟨F, m, fr, h, K, k⟩ => ?_, fun _ => w.pt, fun _ => w⟩
    rw [e1] at k
    have := tst_run K k
    exact TMon.g σ H _ _ this fun v H1 ⟨c, e, F1, m1, h1, K1, _, k1⟩ => ⟨c, e, by
      cases c with
      | true => exact tE_false _ K1 k1
      | false => exact ⟨F1, m1, fr, h1, K1, k1⟩⟩
  · cases h
theorem snd_ife (t a b : E) (iht : Snd fs W n CX T t) (iha : Snd fs W n CX T a) (ihb : Snd fs W n CX T b) : Snd fs W n CX T (.ife t a b) := fun A X S e h => by
  unfold chk at h
  split at h
  · simp only [Bool.and_eq_true] at h
    obtain ⟨⟨⟨h1, h2⟩, h3⟩, h4⟩ := h
    obtain ⟨_, pt, _⟩ := iht A X S _ h2
    obtain ⟨pa, _, _⟩ := iha A X S _ h3
    obtain ⟨pb, _, _⟩ := ihb A X S _ h4
    refine ⟨(pe_ifExp (pt h1) pa pb).imp fun σ H Q ⟨F, m, fr, h, K, k⟩ => ?_, fun h => by (cases h), fun h => by cases h⟩
    have k2 : tP A (relV A.G) ((tst (callF fs W n) t fr).bind fun c => if c = true then ev (callF fs W n) a fr else ev (callF fs W n) b fr) F m h σ H Q := k
    obtain ⟨F', m', fr', h', K', k'⟩ := tstT_run K k2
    refine ⟨F', m', fr', h', K', k'.mono fun c H1 ⟨F1, m1, h1, K1, _, k1⟩ => ?_⟩
    cases c with
    | true => exact ⟨F1, m1, fr, h1, K1, k1⟩
    | false => exact ⟨F1, m1, fr, h1, K1, k1⟩
  · cases h

theorem tP.later {α β : Type} {A : Ar} {rel : Rel α β} {m0 : M α} {F F' : Hp} {m m' : List Addr} {h : Cells} {σ : L2.St} {H H' : Hp} {Q : β → Hp → Prop} (s : Stp F F' m m' H H') (k : tP A rel m0 F m h σ H Q) : tP A rel m0 F' m' h σ H' Q := by
  unfold tP at k ⊢
  cases e : m0 h with
  | ok x h' => rw [e] at k; exact fun F2 m2 H2 v a b c => k F2 m2 H2 v (s.trans a) b c
  | exc x h' => rw [e] at k; exact fun F2 m2 H2 v d a b c => k F2 m2 H2 v d (s.trans a) b c
  | stuck => rw [e] at k; exact k
theorem pair_rpsl {G : Gi} {F F' : Hp} {m m' : List Addr} {H H' : Hp} {x y : IV} {v u : V} (s : Stp F F' m m' H H') (a : Rp G F m x v) (b : Rp G F' m' y u) : RpSL G F' m' H' [x, y] [v, u] := .cons' (.inl (a.mono s.ge)) (.cons' (.inl b) ⟨rfl, fun i x v h => by simp at h⟩)
theorem chain_run {p q : Pr} {a b c : E} {Φ : Nat → List IV → M IV} {σ : L2.St} {H : Hp} {Q : VK} (k : tE A (ev Φ (.chain p q a b c)) σ H Q) : tChain (rP2 A p) (rP2 A q) (tE A (ev Φ a)) (tE A (ev Φ b)) (tE A (ev Φ c)) σ H Q := by
  obtain ⟨F, m, fr, h, K, k⟩ := k
  refine ⟨F, m, fr, h, K, (tP.bind (rel := relV A.G) K (show tP A (relV A.G) ((ev Φ a fr).bind fun x => (ev Φ b fr).bind fun y => (M.test fun h => M.opt (pr p [x, y] h) h).bind fun t => if t then (ev Φ c fr).bind fun z => fun h => M.opt (pr q [y, z] h) h else M.pure (.bl false)) F m h σ H Q from k)).mono fun v H1 ⟨F1, m1, h1, x, s1, K1, r1, k1⟩ => ?_⟩
  refine ⟨F1, m1, fr, h1, K1, (tP.bind (rel := relV A.G) K1 k1).mono fun u H2 ⟨F2, m2, h2, y, s2, K2, r2, k2⟩ => ?_⟩
  have k3 : tP A (relV A.G) (fun _ => (((M.test fun h => M.opt (pr p [x, y] h) h).bind fun t => if t = true then (ev Φ c fr).bind fun z => fun h => M.opt (pr q [y, z] h) h else M.pure (.bl false)) h2)) F2 m2 h2 σ H2 Q := k2
  have e0 : ((M.test fun h => M.opt (pr p [x, y] h) h).bind fun t => if t = true then (ev Φ c fr).bind fun z => fun h => M.opt (pr q [y, z] h) h else M.pure (.bl false)) = M.bind (fun h => M.opt (pr p [x, y] h) h) fun v => (M.opt (truth v)).bind fun t => if t = true then (ev Φ c fr).bind fun z => fun h => M.opt (pr q [y, z] h) h else M.pure (.bl false) := M.assoc _ _ _
  rw [e0] at k3
  cases e : pr p [x, y] h2 with
  | none =>
    exfalso
    unfold tP M.bind M.opt at k3
    simp only [e] at k3
  | some z =>
    have k4 : tP A (relV A.G) ((M.opt (truth z)).bind fun t => if t = true then (ev Φ c fr).bind fun z => fun h => M.opt (pr q [y, z] h) h else M.pure (.bl false)) F2 m2 h2 σ H2 Q := by
      unfold tP M.bind M.opt at k3 ⊢
      simp only [e] at k3
      exact k3
    cases z <;> try (exact k4.elim)
    rename_i t
    refine ⟨F2, m2, h2, [x, y], .bl t, K2.core, pair_rpsl s2 r1 r2, e, fun F3 m3 H3 w s3 c3 r3 => ?_⟩
    cases r3
    refine ⟨t, rfl, ?_⟩
    have K3 := K2.step s3 c3
    have k5 : tP A (relV A.G) (if t = true then (ev Φ c fr).bind fun z => fun h => M.opt (pr q [y, z] h) h else M.pure (.bl false)) F3 m3 h2 σ H3 Q := tP.later s3 k4
    cases t with
    | false => exact tE_false _ K3 k5
    | true =>
      refine ⟨F3, m3, fr, h2, K3, (tP.bind (rel := relV A.G) K3 k5).mono fun w H4 ⟨F4, m4, h4, z, s4, K4, r4, k6⟩ => ?_⟩
      obtain ⟨z', e', q'⟩ := tP.opt (show tP A (relV A.G) (M.opt (pr q [y, z] h4)) F4 m4 h4 σ H4 Q from k6)
      exact ⟨F4, m4, h4, [y, z], z', K4.core, pair_rpsl (s3.trans s4) r2 r4, e', q'⟩
theorem snd_chain (p q : Pr) (a b c : E) (iha : Snd fs W n CX T a) (ihb : Snd fs W n CX T b) (ihc : Snd fs W n CX T c) : Snd fs W n CX T (.chain p q a b c) := fun A X S e h => by
  unfold chk at h
  split at h
  · simp only [Bool.and_eq_true, decide_eq_true_eq, Bool.not_eq_true'] at h
    obtain ⟨⟨⟨⟨⟨h1, h2⟩, h3⟩, h4⟩, h5⟩, h6⟩ := h
    have pa := (iha A X S _ h4).1
    have pb := (ihb A X S _ h5).1
    have pc := (ihc A X S _ h6).1
    refine ⟨(pe_chain (so_cmpO S h1) (so_cmpO S h2) pa pb pc h3).imp fun σ H Q k => chain_run k, fun _ => (pt_chain (so_cmpO S h1) (so_cmpO S h2) pa pb pc h3).imp fun σ H Q k => ?_, fun h => by cases h⟩
    exact chain_run (tB_of k)
  · cases h
theorem evo_pe (S : Sta fs W n CX T A X) {a : E} (ih : Snd fs W n CX T a) {y : Expr} (h : oper (isOwn a) X.N X.env.scope y (chk X.N T a X.env.scope y) = true) : PE X y (tS A fun fr => evo (callF fs W n) a fr) := by
  cases ei : isOwn a with
  | some i =>
    rw [ei] at h
    have e1 : (fun fr => evo (callF fs W n) a fr) = fun fr => M.opt (ownV fr i) := by
      funext fr
      unfold evo evo1
      rw [ei]
    rw [e1]
    exact pe_own h
  | none =>
    rw [ei] at h
    have e1 : (fun fr => evo (callF fs W n) a fr) = fun fr => ev (callF fs W n) a fr := by
      funext fr
      unfold evo evo1
      rw [ei]
    rw [e1]
    exact (ih A X S y h).1.imp fun σ H Q ⟨F, m, fr, h, K, k⟩ => ⟨F, m, fr, h, K, k.rel fun F m H x v r => .inl r⟩
theorem snd_join (s : List Nat) (a : E) (ih : Snd fs W n CX T a) : Snd fs W n CX T (.join s a) := fun A X S e h => by
  unfold chk at h
  split at h
  · rename_i x k1 p1 nm ap y cp
    simp only [Bool.and_eq_true, decide_eq_true_eq, Bool.not_eq_true', beq_iff_eq] at h
    obtain ⟨⟨⟨⟨h1, rfl⟩, h3⟩, h4⟩, h5⟩ := h
    have hx : tx s = x := by rw [← h1]; exact tx_of x
    have pa : PA X [y] (tCons (tS A fun fr => evo (callF fs W n) a fr) tNil) := pa_cons (evo_pe S ih h5) pa_nil (star_each h4)
    have few : ((backTo cp (starEach [y] X.env)).all (fun x => !x.1) && (backToKw cp (keywordEach [] X.env)).all (fun x => x.1.isSome) && decide ([y].length + ([] : List Keyword).length + (if ([] : List Keyword).isEmpty then 0 else 1) < 30)) = true := by
      rw [star_each h4]; rfl
    have p := pe_bm (apos := ap) (cpos := cp) PySem.F.plainAttrs_str PySem.F.slot_str_join PySem.F.type_str_join (so_join (X := X) (A := A)) (pe_str (X := X) (x := x) (j := k1) (pos := p1)) pa rfl few (by simp [h3]) (star_each h4) rfl
    refine snd_val (fun _ => rfl) rfl (p.imp fun σ H Q ⟨F, m, fr, h, K, k⟩ => ⟨rfl, F, m, fr, h, K, ?_⟩)
    refine (tP.bind (rel := relS A.G) K (show tP A (relV A.G) ((evo (callF fs W n) a fr).bind fun v => M.opt (pJoin [.str s, v])) F m h σ H Q from k)).mono fun v H1 ⟨F1, m1, h1', x1, s1, K1, r1, k1⟩ => ?_
    obtain ⟨z, e, q⟩ := tP.opt k1
    exact ⟨F1, m1, h1', [.str s, x1], z, K1.core, .cons' (.inl (by rw [← hx]; exact .str s)) (.cons' r1 ⟨rfl, fun i x v h => by simp at h⟩), e, q⟩
  · cases h
/-! ### dict displays -/
/-- a new dict is locked -/
theorem pe_lockD {e : Expr} {t : TE} (p : PE X e t) : PE X e (fun σ H Q => t σ H fun v H1 => ∃ a ds H0, v = .ref a ∧ H1 = L2.upd H0 a (.dK ds) ∧ ∀ o, Q (.ref a) (L2.upd H0 a (.frz o (.dK ds)))) := by
  constructor
  intro pins s σ H Q I k
  refine thn (p.run pins s σ H _ I k) ?_
  rintro u s' ⟨v, H1, I1, r, a, ds, H0, ev, eH, q⟩
  subst ev eH
  exact lock_ep I1 r q
theorem key_pe {k : Ky} {e : Option Expr} (h : keyOk k e = true) : ∃ x l, e = some x ∧ KyR k l ∧ PE X x (tC (kV l)) := by
  unfold keyOk at h
  split at h
  · simp at h; subst h; exact ⟨_, .inl _, rfl, .int _, pe_int⟩
  · rename_i s x _ _
    simp at h
    have hx : tx s = x := by rw [← h]; exact tx_of x
    subst hx
    exact ⟨_, .inr _, rfl, .str s, pe_str⟩
  · cases h
theorem keys_pe : ∀ {ks : List Ky} {keys : List (Option Expr)}, keysOk ks keys = true → ∃ ls : List Key, Paired KyR ks ls ∧ keys.all (·.isSome) = true ∧ keys.length = ks.length ∧ ∀ {vals : List Expr} {ts : List TE} {pos : Pos}, PEs X vals ts → vals.length = ks.length → PPs X pos keys vals (ls.zipWith (fun l t => (tC (kV l), t)) ts)
  | [], [], _ => ⟨[], .nil, rfl, rfl, fun {vals ts pos} p hl => by
    match vals, ts, p with
    | [], [], _ => exact pps_nil⟩
  | k :: ks, e :: es, h => by
    have h2 : keyOk k e = true ∧ keysOk ks es = true := by simpa [keysOk] using h
    obtain ⟨x, l, rfl, kr, px⟩ := key_pe (X := X) h2.1
    obtain ⟨ls, a, b, c, d⟩ := keys_pe h2.2
    refine ⟨l :: ls, .cons kr a, by simpa using b, by simp [c], fun {vals ts pos} p hl => ?_⟩
    match vals, ts, p with
    | v :: vals, t :: ts, p => exact pps_cons px p.2.1 (d p.2.2 (by simpa using hl))
    | [], [], _ => simp at hl
  | [], _ :: _, h => by simp [keysOk] at h
  | _ :: _, [], h => by simp [keysOk] at h
theorem pairs_run {Φ : Nat → List IV → M IV} {γ δ : Type} {rel2 : Rel γ δ} {fr : Fr} {σ : L2.St} {Q' : δ → Hp → Prop} : ∀ (es : List E) (ls : List Key) {F : Hp} {m : List Addr} {h : Cells} {H : Hp} {f : List IV → M γ} {Qc : List (V × V) → Hp → Prop}, es.length = ls.length → Fok A.G F m fr h σ H → tP A rel2 ((evs Φ es fr).bind f) F m h σ H Q' →
    (∀ F' m' h' H' xs vs, Stp F F' m m' H H' → Fok A.G F' m' fr h' σ H' → RpL A.G F' m' xs vs → tP A rel2 (f xs) F' m' h' σ H' Q' → Qc ((ls.zip vs).map fun kv => (kV kv.1, kv.2)) H') → tPairs (ls.zipWith (fun l t => (tC (kV l), t)) (es.map fun e => tE A (ev Φ e))) σ H Qc
  | [], [], F, m, h, H, f, Qc, hl, K, k, hq => hq F m h H [] [] .refl K RpL.nil k
  | e :: r, l :: ls, F, m, h, H, f, Qc, hl, K, k, hq => by
    have e1 : (evs Φ (e :: r) fr).bind f = (ev Φ e fr).bind fun v => (evs Φ r fr).bind fun vs => f (v :: vs) := by
      show (((ev Φ e fr).bind fun v => (evs Φ r fr).bind fun vs => M.pure (v :: vs))).bind f = _
      rw [M.assoc]
      congr 1
      funext v
      rw [M.assoc]
      rfl
    rw [e1] at k
    show tE A (ev Φ e) σ H _
    refine ⟨F, m, fr, h, K, (tP.bind (rel := relV A.G) K k).mono fun v H1 ⟨F1, m1, h1, x, s1, K1, r1, k1⟩ => ?_⟩
    exact pairs_run r ls (by simpa using hl) K1 k1 fun F' m' h' H' xs vs s2 K2 r2 k2 => hq F' m' h' H' (x :: xs) (v :: vs) (s1.trans s2) K2 (.cons (r1.mono s2.ge) r2) k2
  | [], _ :: _, _, _, _, _, _, _, hl, _, _, _ => by simp at hl
  | _ :: _, [], _, _, _, _, _, _, hl, _, _, _ => by simp at hl
theorem dr_zip {G : Gi} {F : Hp} {m : List Addr} : ∀ {ks : List Ky} {ls : List Key} {xs : List IV} {vs : List V}, Paired KyR ks ls → RpL G F m xs vs → DR G F m (ks.zip xs) (ls.zip vs)
  | [], [], _, _, .nil, _ => .nil
  | k :: ks, l :: ls, [], vs, .cons a t, r => by
    have : vs = [] := List.length_eq_zero_iff.mp (by simpa using r.1)
    subst this
    exact .nil
  | k :: ks, l :: ls, x :: xs, vs, .cons a t, r => by
    cases vs with
    | nil => exact absurd r.1 (by simp)
    | cons v vs => exact .cons ⟨a, r.head⟩ (dr_zip t r.tail)
/-- a dict that stood new and empty is filled and locked -/
theorem dict_fin {F F' : Hp} {m m' : List Addr} {h h' : Cells} {H H2 : Hp} {p : Addr} {kvs : List (Ky × IV)} {ds : List (Key × V)} {Q : VK} {o : Obj} (c0 : Core A.G F m h H) (n : H p = none) (s : Stp F F' m m' (L2.upd H p (.dK [])) H2) (c : Core A.G F' m' h' H2) (d : DR A.G F' m' kvs ds)
    (q : ∀ F' m' H' v, Stp F F' m m' H H' → Core A.G F' m' h' H' → Rp A.G F' m' (.dct kvs) v → Q v H') : H2 p = some (.dK []) ∧ Q (.ref p) (L2.upd H2 p (.frz o (.dK ds))) := by
  have nm : p ∉ m := fun hm => by
    obtain ⟨_, o, e⟩ := c0.there hm
    rw [n] at e; cases e
  have e2 := s.kh p _ upd_same nm
  have nm' : p ∉ m' := fun hm => by
    rcases s.new p hm with z | z
    · exact nm z
    · rw [upd_same] at z; cases z
  have nF : F' p = none := by
    cases z : F' p with
    | none => rfl
    | some u =>
      rcases s.fn p u z with y | y | y
      · rw [c0.sub p u y] at n; cases n
      · rw [upd_same] at y; cases y
      · exact absurd y nm
  have st : Stp F F' m m' H H2 := (Stp.fresh0 n).trans s
  refine ⟨e2, q _ m' _ _ ((st.own (o := .frz o (.dK ds)) n).freeze (o := .frz o (.dK ds)) nF n) ((c.own (o := .frz o (.dK ds)) nF nm').freeze (o := .frz o (.dK ds)) nF nm' upd_same) ?_⟩
  exact (d.mono ⟨fun b u e => by rw [upd_ne (ne_of_none e nF)]; exact e, [], by simp⟩).dct upd_same
theorem snd_dict (ks : List Ky) (es : List E) (ih : ∀ x ∈ es, Snd fs W n CX T x) : Snd fs W n CX T (.dict ks es) := fun A X S e h => by
  unfold chk at h
  split at h
  · rename_i keys vals pos
    simp only [Bool.and_eq_true, decide_eq_true_eq, beq_iff_eq] at h
    obtain ⟨⟨⟨h1, h2⟩, h3⟩, h4⟩ := h
    obtain ⟨ls, kr, ha, hl, hp⟩ := keys_pe (X := X) h1
    have ps := pes_of S es ih vals h2
    have hls : ls.length = ks.length := (Paired.length kr).symm
    have hv : vals.length = ks.length := by
      have : ∀ {vals : List Expr} {ts : List TE}, PEs X vals ts → vals.length = ts.length := by
        intro vals
        induction vals with
        | nil => intro ts p; cases ts with
          | nil => rfl
          | cons _ _ => exact p.elim
        | cons v r ih => intro ts p; cases ts with
          | nil => exact p.elim
          | cons t ts => simp; exact ih p.2.2
      rw [this ps, List.length_map, h3]
    refine snd_val (fun _ => rfl) rfl ?_
    by_cases h0 : ks = []
    · subst h0
      have hk0 : keys = [] := List.length_eq_zero_iff.mp (by simpa using hl)
      have hv0 : vals = [] := List.length_eq_zero_iff.mp (by simpa using hv)
      have he0 : es = [] := List.length_eq_zero_iff.mp (by simpa using h3)
      subst hk0 hv0 he0
      refine (pe_lockD pe_dnewK).imp fun σ H Q ⟨F, m, fr, h, K, k⟩ p np => ⟨p, [], H, rfl, rfl, fun o => ?_⟩
      exact tP.pure (x := IV.dct []) k _ m _ _ (.fresh K.core np) (K.core.new np) (DR.dct .nil upd_same)
    · have hk0 : keys ≠ [] := fun q => h0 (List.length_eq_zero_iff.mp (by rw [← hl, q]; rfl))
      refine (pe_lockD (pe_disp (hp ps hv) ha (by rw [hl, hv]) hk0 (by rw [hl]; exact h4))).imp fun σ H Q ⟨F, m, fr, h, K, k⟩ p np => ?_
      have K0 : Fok A.G F m fr h σ (L2.upd H p (.dK [])) := K.step (.fresh0 np) (K.core.new0 np)
      refine pairs_run (γ := List IV × Cells) (δ := List IV × Cells) (rel2 := fun _ _ _ x v => x = v) (f := fun vs => fun h => .ok (vs, h) h) (Q' := fun v _ => ∀ F' m' H' u, Stp F F' m m' H H' → Core A.G F' m' v.2 H' → Rp A.G F' m' (.dct (dputs (ks.zip v.1) [])) u → Q u H') es ls (by rw [h3, hls]) K0 ?_ fun F' m' h' H2 xs vs s K' r k' => ?_
      · have k2 : tP A (relV A.G) ((evs (callF fs W n) es fr).bind fun vs => M.pure (IV.dct (dputs (ks.zip vs) []))) F m h σ H Q := k
        unfold tP M.bind at k2 ⊢
        cases ee : evs (callF fs W n) es fr h with
        | ok xs h' =>
          simp only [ee] at k2
          simp only
          rintro F' m' H' v s c rfl
          exact k2
        | exc x h' =>
          simp only [ee] at k2
          simp only
          exact fun F' m' H' c d s co => k2 F' m' H' c d ((Stp.fresh0 np).trans s) co
        | stuck =>
          simp only [ee] at k2
      · have q := k' F' m' H2 (xs, h') .refl K'.core rfl
        have hz := dr_zip kr r
        have hm := dputs_merge (kvs := []) (ds := []) hz .nil (by simp)
        refine ⟨(dict_fin (o := default) K.core np s K'.core hm q).1, ls.zip vs, rfl, ?_, p, _, H2, rfl, rfl, fun o => (dict_fin (o := o) K.core np s K'.core hm q).2⟩
        rw [List.length_zip]
        omega
  · cases h
/-! ### dict comprehensions -/
def turnD (Φ : Nat → List IV → M IV) (tg : Tg) (ke ve : E) (fr : Fr) (x : IV) : M (List (Ky × IV)) := (M.opt (store tg x fr)).bind fun fr1 => (ev Φ ke fr1).bind fun a => (ev Φ ve fr1).bind fun b => (M.opt (keyOf a)).bind fun k => M.pure [(k, b)]
/-- a dict that is being filled -/
def DOk (A : Ar) (F : Hp) (m : List Addr) (H : Hp) (D : Addr) (acc : List (Ky × IV)) : Prop := ∃ ds, H D = some (.dK ds) ∧ DR A.G F m (dputs acc []) ds ∧ (ds.map (·.1)).Nodup ∧ ds.length ≤ acc.length ∧ F D = none ∧ D ∉ m
theorem own_keeps {F F' : Hp} {m m' : List Addr} {H H' : Hp} {D : Addr} {o : HO} (s : Stp F F' m m' H H') (h1 : H D = some o) (h2 : F D = none) (h3 : D ∉ m) : H' D = some o ∧ F' D = none ∧ D ∉ m' := by
  refine ⟨s.kh D o h1 h3, ?_, fun hm => ?_⟩
  · cases z : F' D with
    | none => rfl
    | some u =>
      rcases s.fn D u z with y | y | y
      · rw [h2] at y; cases y
      · rw [h1] at y; cases y
      · exact absurd y h3
  · rcases s.new D hm with y | y
    · exact h3 y
    · rw [h1] at y; cases y
theorem DOk.step {F F' : Hp} {m m' : List Addr} {H H' : Hp} {D : Addr} {acc : List (Ky × IV)} (s : Stp F F' m m' H H') (k : DOk A F m H D acc) : DOk A F' m' H' D acc := by
  obtain ⟨ds, h1, h2, h3, h4, h5, h6⟩ := k
  obtain ⟨a, b, c⟩ := own_keeps s h1 h5 h6
  exact ⟨ds, a, h2.mono s.ge, h3, h4, b, c⟩
theorem dputs_snoc (acc : List (Ky × IV)) (k : Ky) (v : IV) : dputs (acc ++ [(k, v)]) [] = dput k v (dputs acc []) := by
  unfold dputs
  rw [List.foldl_append]
  rfl
theorem dc_run {Φ : Nat → List IV → M IV} {tg : Tg} {ke ve : E} {fr : Fr} {F : Hp} {m : List Addr} {h : Cells} {σ : L2.St} {H : Hp} {Q : VK} {items : List IV} {l : List (Ky × IV)} {hf : Cells} {J : It} {K : PySem.W.Frag} (hG : A.G.K = K) (k : Fok A.G F m fr h σ H) (wk : Wk mwE A.G F m H items J)
    (e : each (turnD Φ tg ke ve fr) items h = .ok l hf) (hl : l.length ≤ szl) (q : ∀ F' m' H' v, Stp F F' m m' H H' → Core A.G F' m' hf H' → Rp A.G F' m' (.dct (dputs l [])) v → Q v H') : ∀ D, H D = none → ∃ Wi : Nat → Nat → Hp → Prop, (∃ m, Wi 0 m (L2.upd H D (.dK []))) ∧ ∀ i m H, Wi i m H →
  (J.stop i H ∧ ∃ a ds H0, V.ref D = .ref a ∧ H = L2.upd H0 a (.dK ds) ∧ ∀ o, Q (.ref a) (L2.upd H0 a (.frz o (.dK ds)))) ∨ (J.go i H ∧ ∃ Nx : Hp → Prop, (∀ H', Nx H' → ∃ m', m' < m ∧ Wi (i + 1) m' H') ∧ ∀ x H', J.yld i H x H' → tgG K tg x (wipe σ (slotsT tg)) H' fun σ2 H2 => wipe σ2 (slotsT tg) = wipe σ (slotsT tg) ∧ tYes σ2 H2 fun b H3 =>
    if b = true then tE (noW A) (ev Φ ke) σ2 H3 fun y H4 => tE (noW A) (ev Φ ve) σ2 H4 fun z H5 => ∃ kvs k, y = kV k ∧ H5 D = some (.dK kvs) ∧ kvs.length < sizeLine ∧ Nx (L2.upd H5 D (.dK (putK kvs k z))) else Nx H3) := by
  intro D nD
  let St (i : Nat) (H' : Hp) : Prop := ∃ F' m' h' acc, Stp F F' m m' H H' ∧ Core A.G F' m' h' H' ∧ DOk A F' m' H' D acc ∧ i ≤ items.length ∧ ∃ rest, each (turnD Φ tg ke ve fr) (items.drop i) h' = .ok rest hf ∧ acc ++ rest = l
  have nF : F D = none := by
    cases z : F D with
    | none => rfl
    | some u => rw [k.core.sub D u z] at nD; cases nD
  have nm : D ∉ m := fun hm => by
    obtain ⟨_, o, e⟩ := k.core.there hm
    rw [nD] at e; cases e
  refine ⟨fun i mm H' => mm = items.length - i ∧ St i H', ⟨_, rfl, F, m, h, [], .fresh0 nD, k.core.new0 nD, ⟨[], upd_same, .nil, by simp, Nat.le_refl _, nF, nm⟩, Nat.zero_le _, l, e, rfl⟩, ?_⟩
  rintro i mm H' ⟨rfl, F', m', h', acc, s, c, so, hi, rest, er, ea⟩
  have wi := wk i F' m' h' H' s c
  by_cases hlt : i < items.length
  · rw [List.drop_eq_getElem_cons hlt] at er
    have ez : items[i]? = some items[i] := List.getElem?_eq_getElem hlt
    generalize items[i] = z at er ez
    obtain ⟨a, h1, et0, er⟩ := bind_ok (show ((turnD Φ tg ke ve fr z).bind fun a => (each (turnD Φ tg ke ve fr) (items.drop (i + 1))).bind fun b => M.pure (a ++ b)) h' = .ok rest hf from er)
    obtain ⟨b, h2, eb, er⟩ := bind_ok er
    obtain ⟨rfl, rfl⟩ := pure_ok er
    obtain ⟨go, yl⟩ := wi.2 z ez
    refine .inr ⟨go, fun H2 => St (i + 1) H2, fun H2 q => ⟨_, by omega, rfl, q⟩, fun x H2 hy => ?_⟩
    obtain ⟨F2, s2, c2, r2⟩ := yl x H2 hy
    have k2 : Fok A.G F2 m' fr h' σ H2 := k.step (s.trans s2) c2
    obtain ⟨fr1, h3, e3, et1⟩ := bind_ok et0
    obtain ⟨e3a, rfl⟩ := opt_ok e3; clear e3
    obtain ⟨y, h4, e4a, et2⟩ := bind_ok et1
    obtain ⟨w, h5, e5a, et3⟩ := bind_ok et2
    obtain ⟨ky, h6, e6, et4⟩ := bind_ok et3
    obtain ⟨e6a, rfl⟩ := opt_ok e6
    obtain ⟨rfl, rfl⟩ := pure_ok et4
    refine store_blk hG k2 e3a r2 fun σ2 k3 hw => ⟨hw, ?_⟩
    unfold tYes
    dsimp only
    rw [if_pos rfl]
    refine ⟨F2, m', fr1, h3, k3, tP_ok e4a fun F3 m3 H3 u s3 c3 r3 => ?_⟩
    have k4 : Fok A.G F3 m3 fr1 h4 σ2 H3 := k3.step s3 c3
    refine ⟨F3, m3, fr1, h4, k4, tP_ok e5a fun F4 m4 H4 v s4 c4 r4 => ?_⟩
    obtain ⟨ds, d1, d2, d3, d4, d5, d6⟩ := ((so.step s2).step s3).step s4
    have hk : ∃ lk, KyR ky lk ∧ u = kV lk := by
      unfold keyOf at e6a
      split at e6a
      · cases e6a; cases r3; exact ⟨.inl _, .int _, rfl⟩
      · cases e6a; cases r3; exact ⟨.inr _, .str _, rfl⟩
      · cases e6a
    obtain ⟨lk, kr, rfl⟩ := hk
    have lacc : acc.length + 1 ≤ l.length := by rw [← ea, List.length_append, List.length_append, List.length_singleton]; omega
    obtain ⟨p1, p2⟩ := dput_putK kr r4 d2 d3
    refine ⟨ds, lk, rfl, d1, ?_, F4, m4, h1, acc ++ [(ky, w)], (((s.trans s2).trans s3).trans s4).own nD, c4.own d5 d6, ⟨putK ds lk v, upd_same, by rw [dputs_snoc]; exact p1, p2, ?_, d5, d6⟩, by omega, b, eb, by rw [← ea]; simp⟩
    · rw [← szl_eq]
      omega
    · have := L2.length_putK ds lk v
      rw [List.length_append, List.length_singleton]
      omega
  · have hie : i = items.length := by omega
    subst hie
    rw [List.drop_length] at er
    obtain ⟨rfl, rfl⟩ := pure_ok er
    rw [List.append_nil] at ea
    subst ea
    obtain ⟨ds, d1, d2, d3, d4, d5, d6⟩ := so
    refine .inl ⟨wi.1 (Nat.le_refl _), D, ds, H', rfl, (upd_self d1).symm, fun o => ?_⟩
    exact q _ m' _ _ ((s.own (o := .frz o (.dK ds)) nD).freeze (o := .frz o (.dK ds)) d5 nD) ((c.own (o := .frz o (.dK ds)) d5 d6).freeze (o := .frz o (.dK ds)) d5 d6 upd_same) ((d2.mono ⟨fun b u e => by rw [upd_ne (ne_of_none e d5)]; exact e, [], by simp⟩).dct upd_same)
theorem snd_dcomp (tg : Tg) (k : Sk) (src : List E) (ke ve : E) (i1 : ∀ x ∈ src, Snd fs W n CX T x) (i2 : Snd fs W n CX T ke) (i3 : Snd fs W n CX T ve) : Snd fs W n CX T (.dcomp tg k src ke ve) := fun A X S e h => by
  unfold chk at h
  split at h
  · rename_i kx vx te it scope pos
    split at h
    · rename_i xs hw
      simp only [Bool.and_eq_true] at h
      obtain ⟨⟨⟨⟨⟨h1, h2⟩, h3⟩, h4⟩, h5⟩, h6⟩ := h
      have hown : (ownT2 X.N (slotsT tg)).map (·.2) = slotsT tg := own_slots h4
      have hl := pe_dc (pos := pos) (g := tgG X.K tg) (tt := tYes) (tk := tE (noW A) (ev (callF fs W n) ke)) (tv := tE (noW A) (ev (callF fs W n) ve)) S.calm S.nd (pi_ok (tg := te) (opnE A.G) (oplE src) S hw (by rw [List.map_map]; exact pea_of S src i1 xs h2) fun hk => tgt_tuple h4 h1 hk) (blkOk_by h3)
        (fun s H C cl fp => pg_tg (X := X.blk s H scope (compEnvC scope cl C X.env) fp) S.nd S.calm (c := false) (fun h => by cases h) h4) (fun s H C cl fp => pts_nil)
        (fun s H C cl fp => (i2 _ _ (sta_blk S s H scope C cl fp) kx h5).1) (fun s H C cl fp => (i3 _ _ (sta_blk S s H scope C cl fp) vx h6).1) (walk_set hw)
      refine snd_val (fun _ => rfl) rfl ((pe_lockD hl).imp fun σ H Q ⟨F, m, fr, h, K, k0⟩ => ?_)
      rw [hown]
      have k2 : tP A (relV A.G) (((eva (callF fs W n) src fr).bind fun vs => M.opt (walk k vs)).bind fun items => (M.calm (each (turnD (callF fs W n) tg ke ve fr) items)).bind fun l => M.opt (if l.length ≤ szl then some (IV.dct (dputs l [])) else none)) F m h σ H Q := by
        rw [M.assoc]
        exact k0
      refine ⟨F, m, fr, h, K, (tP.bind (rel := relW mwE A.G) K k2).mono fun J H1 ⟨F1, m1, h1, items, s1, K1, wk, k1⟩ => ?_⟩
      unfold tP at k1
      cases e : ((M.calm (each (turnD (callF fs W n) tg ke ve fr) items)).bind fun l => M.opt (if l.length ≤ szl then some (IV.dct (dputs l [])) else none)) h1 with
      | stuck => rw [e] at k1; exact k1.elim
      | exc x h' =>
        exfalso
        unfold M.bind M.calm at e
        cases e2 : each (turnD (callF fs W n) tg ke ve fr) items h1 with
        | ok l h2 =>
          rw [e2] at e
          dsimp only at e
          unfold M.opt at e
          split at e <;> cases e
        | exc x h2 => rw [e2] at e; cases e
        | stuck => rw [e2] at e; cases e
      | ok z h' =>
        rw [e] at k1
        obtain ⟨l, h2, e2, e3⟩ := bind_ok e
        obtain ⟨e3, rfl⟩ := opt_ok e3
        split at e3
        · rename_i hz
          cases e3
          have e4 : each (turnD (callF fs W n) tg ke ve fr) items h1 = .ok l h' := by
            unfold M.calm at e2
            cases e5 : each (turnD (callF fs W n) tg ke ve fr) items h1 with
            | ok l h2 => rw [e5] at e2; exact e2
            | exc x h2 => rw [e5] at e2; cases e2
            | stuck => rw [e5] at e2; cases e2
          exact dc_run S.hG K1 wk e4 hz k1
        · cases e3
    · cases h
  · cases h
/-! ### calls with keywords, with defaults -/
theorem tList_app {ts us : List TE} {σ : L2.St} : ∀ {H : Hp} {Q : List V → Hp → Prop}, tList (ts ++ us) σ H Q = tList ts σ H fun vs H1 => tList us σ H1 fun zs H2 => Q (vs ++ zs) H2 := by
  induction ts with
  | nil => intro H Q; rfl
  | cons t r ih =>
    intro H Q
    show t σ H (fun x H1 => tList (r ++ us) σ H1 fun xs H2 => Q (x :: xs) H2) = t σ H fun x H1 => tList r σ H1 fun vs H2 => tList us σ H2 fun zs H3 => Q (x :: vs ++ zs) H3
    congr 1
    funext x H1
    exact ih
theorem pes_split : ∀ {a b : List Expr} {ts : List TE}, PEs X (a ++ b) ts → ∃ t1 t2, ts = t1 ++ t2 ∧ PEs X a t1 ∧ PEs X b t2
  | [], b, ts, h => ⟨[], ts, rfl, trivial, h⟩
  | e :: a, b, ts, h => by
    match ts, h with
    | t :: ts, h =>
      obtain ⟨t1, t2, rfl, h1, h2⟩ := pes_split h.2.2
      exact ⟨t :: t1, t2, rfl, ⟨h.1, h.2.1, h1⟩, h2⟩
theorem pes_mon : ∀ {es : List Expr} {ts : List TE}, PEs X es ts → ∀ {σ : L2.St} {H : Hp} {Q Q' : List V → Hp → Prop}, tList ts σ H Q → (∀ vs H, vs.length = es.length → Q vs H → Q' vs H) → tList ts σ H Q'
  | [], [], _, σ, H, Q, Q', k, i => i [] H rfl k
  | e :: es, t :: ts, h, σ, H, Q, Q', k, i => h.1.2 σ H _ _ k fun x H1 k1 => pes_mon h.2.2 k1 fun vs H2 hl q => i (x :: vs) H2 (by simp [hl]) q
  | [], _ :: _, h, _, _, _, _, _, _ => h.elim
  | _ :: _, [], h, _, _, _, _, _, _ => h.elim
theorem pk_of : ∀ {kws : List Keyword} {ts : List TE}, PEs X (kws.map fun k => k.value) ts → PK X kws (tList ts)
  | [], [], _ => pk_nil
  | ⟨nm, v, kp⟩ :: kws, t :: ts, h => pk_cons h.2.1 (pk_of h.2.2)
  | [], _ :: _, h => h.elim
  | _ :: _, [], h => h.elim
theorem kws_names {pos : Pos} {env : Env} : ∀ {kws : List Keyword} {ks : List Str}, (kws.map fun k => k.arg) = ks.map some → (backToKw pos (keywordEach kws env)).all (·.1.isSome) = true ∧ (backToKw pos (keywordEach kws env)).filterMap (·.1) = ks ∧ (backToKw pos (keywordEach kws env)).any (·.1.isNone) = false
  | [], [], _ => ⟨rfl, rfl, rfl⟩
  | ⟨nm, v, kp⟩ :: kws, k :: ks, h => by
    have h2 : nm = some k ∧ (kws.map fun k => k.arg) = ks.map some := by simpa using h
    obtain ⟨rfl, h3⟩ := h2
    obtain ⟨a, b, c⟩ := kws_names (pos := pos) (env := env) h3
    have e : backToKw pos (keywordEach (⟨some k, v, kp⟩ :: kws) env) = (some k, do let v ← eval v env; standAt pos; pure v) :: backToKw pos (keywordEach kws env) := rfl
    rw [e]
    exact ⟨by simpa using a, by simp [b], by simpa using c⟩
  | [], _ :: _, h => by simp at h
  | _ :: _, [], h => by simp at h
theorem run_kw {k nn : Nat} {f : Addr} {fd : FuncData} {ps ks : List Str} {sp : Sp} {E : XK} {g : List Value → List Value → List Value} {gV : List V → List V → List V} {pins : List (Addr × Obj)} {σ : L2.St} {H : Hp} {s : Shared} {Q : VK} {us ws : List Value} {vs zs : List V} (F : FnG X.prog X.w X.K X.mg X.base CX k f fd ps sp) (hr : Room k X.A) (gd : X.A.guards = some [])
    (hb : KBn X.K fd ps nn ks g gV) (hx : PassesAt CX X σ E) (I : L2.Inv X pins σ H s) (r : Vals vs us) (rz : Vals zs ws) (l1 : vs.length = nn) (l2 : zs.length = ks.length) (q : sp (gV vs zs) H Q E) : wpAny (model X.prog X.w) X.A (call (.ref f) us (ks.zip ws)) (EP X pins σ Q) X.xe s := by
  have bind := hb.to s us ws I.kIn (by rw [← l1]; exact r.length.symm) (by rw [← l2]; exact rz.length.symm)
  apply wpAny_call
  refine codeAny_mono (F.run X.A X.stack s H ⟨us, ks.zip ws⟩ (g us ws) (gV vs zs) Q E hr gd I.env0 bind (hb.rel r rz) q) ?_
  rintro (e | fl) s' hq
  · exact hx pins H s e s' I hq
  · cases fl with
    | ret u => exact I.after hq
    | next => exact hq.elim
    | brk => exact hq.elim
    | cont => exact hq.elim
theorem snd_callk (f : Nat) (pm : List (Sum Nat IV)) (es : List E) (ih : ∀ x ∈ es, Snd fs W n CX T x) : Snd fs W n CX T (.callk f pm es) := fun A X S e h => by
  unfold chk at h
  split at h
  · rename_i x px args kws pos
    simp only [Bool.and_eq_true, Bool.not_eq_true', oddN, Bool.or_eq_false_iff] at h
    obtain ⟨⟨⟨⟨hg, hd, _⟩, hk⟩, h0⟩, hc⟩ := h
    obtain ⟨ks, hm, hks⟩ := kwIs_mem hk
    obtain ⟨fd, ps, g, gV, hmg, hkp, hb, hF, hperm⟩ := S.tab _ _ hm
    obtain ⟨t1, t2, ht, p1, p2⟩ := pes_split (pes_of S es ih _ hc)
    obtain ⟨n1, n2, n3⟩ := kws_names (pos := pos) (env := X.env) hks
    have lks : kws.length = ks.length := by have := congrArg List.length hks; simpa using this
    have key : ∀ σ H Q, tE A (ev (callF fs W n) (.callk f pm es)) σ H Q → tList t1 σ H fun vs H1 => tList t2 σ H1 fun zs H2 => vs.length = args.length ∧ zs.length = ks.length ∧ spF A.G A.xi fs W n f (gV vs zs) H2 Q (WE A.W σ) := fun σ H Q ⟨F, m, fr, h, K, k⟩ => by
      have base := evs_run (rel2 := relV A.G) (Qc := fun vs H2 => ∀ v1 v2, vs = v1 ++ v2 → v1.length = args.length → v2.length = ks.length → spF A.G A.xi fs W n f (gV v1 v2) H2 Q (WE A.W σ)) es K (show tP A (relV A.G) ((evs (callF fs W n) es fr).bind fun vs => (M.opt (permV pm vs)).bind fun vs => callF fs W n f vs) F m h σ H Q from k) fun F' m' h' H' xs vs s K' r k' v1 v2 e l1 l2 => by
        subst e
        cases ep : permV pm xs with
        | none => rw [ep] at k'; exact k'.elim
        | some rs =>
          rw [ep] at k'
          exact ⟨F', m', h', rs, K'.core, hperm F' m' xs rs v1 v2 r l1 l2 ep, k'⟩
      rw [ht, tList_app] at base
      refine pes_mon p1 base fun vs H1 lv b1 => pes_mon p2 b1 fun zs H2 lz b2 => ⟨lv, ?_, ?_⟩
      · rw [lz, List.length_map, lks]
      · exact b2 vs zs rfl lv (by rw [lz, List.length_map, lks])
    refine snd_val (fun _ => rfl) rfl ?_
    constructor
    intro pins s σ H Q I k
    have k := key σ H Q k
    apply wpAny_Call_Name_kw (ld_glob I (gl_of hg) hmg ?_ hd)
    match args, t1, p1, k with
    | a :: as, t1, p1, k =>
      have hst := p1.stars
      simp at hst
      refine PySem.W.callWith_KW (h₀ := X.base) I.ok.mod.kin hkp n1 (thn (p1.pa.run pos pins s σ H _ I k) ?_) ?_ (star_each hst.1)
      · rintro us s1 ⟨vs, H1, I1, r1, k1⟩
        refine thn ((pk_of p2).run pos pins s1 σ H1 _ I1 k1) ?_
        rintro ws s2 ⟨zs, H2, I2, r2, l1, l2, q⟩
        refine ⟨I2.kIn, ?_⟩
        rw [n2]
        exact run_kw hF S.room S.gd hb (S.pass σ) I2 r1 r2 l1 l2 q
      · rw [n3, Bool.or_false, star_each hst.1]
        have := star_any (pos := pos) (env := X.env) (es := as) (by simpa using hst.2)
        unfold backTo at this ⊢
        simpa using this
    | [], [], p1, k =>
      refine PySem.W.callWith_KW0 (h₀ := X.base) I.ok.mod.kin hkp n1 (thn ((pk_of p2).run pos pins s σ H _ I k) ?_) ?_
      · rintro ws s2 ⟨zs, H2, I2, r2, l1, l2, q⟩
        refine ⟨I2.kIn, ?_⟩
        rw [n2]
        exact run_kw hF S.room S.gd hb (S.pass σ) I2 .nil r2 l1 l2 q
      · rw [n3]
        rfl
  · cases h
theorem snd_no {x : E} (h : ∀ (N : List Str) (T : Tab) (sc : Scope) (e : Expr), chk N T x sc e = false) : Snd fs W n CX T x := fun A X S e h2 => by rw [h] at h2; cases h2
mutual
/-- each expression of the evaluator is its text's value -/
theorem snd : ∀ x : E, Snd fs W n CX T x
  | .c v => snd_c v
  | .slot i => snd_slot i
  | .own _ => snd_no fun _ _ _ _ => rfl
  | .pr p es => snd_pr p es (snds es)
  | .tup es => snd_tup es (snds es)
  | .lst es => snd_lst es (snds es)
  | .chain p q a b c => snd_chain p q a b c (snd a) (snd b) (snd c)
  | .join s a => snd_join s a (snd a)
  | .call f es => snd_call f es (snds es)
  | .callk f pm es => snd_callk f pm es (snds es)
  | .and a b => snd_and a b (snd a) (snd b)
  | .or a b => snd_or a b (snd a) (snd b)
  | .not a => snd_not a (snd a)
  | .ife t a b => snd_ife t a b (snd t) (snd a) (snd b)
  | .comp tg k src ifs elt => snd_comp tg k src ifs elt (snds src) (snds ifs) (snd elt)
  | .dcomp tg k src ke ve => snd_dcomp tg k src ke ve (snds src) (snd ke) (snd ve)
  | .dict ks es => snd_dict ks es (snds es)
termination_by structural x => x
theorem snds : ∀ es : List E, ∀ x ∈ es, Snd fs W n CX T x
  | [] => fun x h => by cases h
  | e :: r => fun x h => (List.mem_cons.mp h).elim (fun q => by rw [q]; exact snd e) fun q => snds r x q
termination_by structural es => es
end
end
end PI

set_option Elab.async false
set_option linter.all false
set_option maxRecDepth 100000
set_option maxHeartbeats 4000000
/-! PIp: what statements leave. -/
namespace PI
open PySem PySem.Spec PyProof.Rows L2
/-- where a def began -/
structure Bs where
  F : Hp
  m : List Addr
  H : Hp
  Fg : Hp
  mg : List Addr
/-- a statement's state: the frame, the way from the def's beginning, the frame's own lists are new since -/
structure Fk (A : Ar) (B : Bs) (F : Hp) (m : List Addr) (fr : Fr) (h : Cells) (σ : L2.St) (H : Hp) : Prop where
  ok : Fok A.G F m fr h σ H
  st : Stp B.F F B.m m B.H H
  nw : ∀ (i : Nat) (xs : List IV) (a : Addr), fr[i]? = some (SV.own xs) → σ[i]? = some (some (.ref a)) → B.H a = none
  ge : Ge B.Fg F B.mg m
/-- what is wanted of a run -/
def post (A : Ar) (B : Bs) (D : Ends) : Res Fl → Prop
  | .ok (.nx fr) h => ∀ F m σ H, Fk A B F m fr h σ H → D.nx σ H
  | .ok (.ret v) h => ∀ F m H u, Stp B.F F B.m m B.H H → Core A.G F m h H → Rp A.G F m v u → D.rt u H
  | .ok (.brk fr) h => ∀ F m σ H, Fk A B F m fr h σ H → D.bk σ H
  | .ok (.cont fr) h => ∀ F m σ H, Fk A B F m fr h σ H → D.ct σ H
  | .exc x h => ∀ F m H c d σ, Stp B.F F B.m m B.H H → Core A.G F m h H → A.xi F m H x c d → A.W c d σ H
  | .stuck => False
def tSt (A : Ar) (B : Bs) (r : Fr → M Fl) : TS := fun D σ H => ∃ F m fr h, Fk A B F m fr h σ H ∧ post A B D (r fr h)
section
variable {A : Ar} {B : Bs} {Φ : Nat → List IV → M IV}
theorem Fk.step {F F' : Hp} {m m' : List Addr} {fr : Fr} {h h' : Cells} {σ : L2.St} {H H' : Hp} (k : Fk A B F m fr h σ H) (s : Stp F F' m m' H H') (c : Core A.G F' m' h' H') : Fk A B F' m' fr h' σ H' := ⟨k.ok.step s c, k.st.trans s, k.nw, k.ge.trans s.ge⟩
/-- an expression's value, then the rest -/
theorem ev_post {α β : Type} {rel : Rel α β} {m0 : M α} {f : α → M Fl} {F : Hp} {m : List Addr} {fr : Fr} {h : Cells} {σ : L2.St} {H : Hp} {D : Ends} (K : Fk A B F m fr h σ H) (k : post A B D (m0.bind f h)) :
    tP A rel m0 F m h σ H fun v H1 => ∃ F1 m1 h1 x, Fk A B F1 m1 fr h1 σ H1 ∧ Stp F F1 m m1 H H1 ∧ rel F1 m1 H1 x v ∧ post A B D (f x h1) := by
  unfold M.bind at k
  unfold tP
  cases e : m0 h with
  | stuck => rw [e] at k; exact k.elim
  | exc x h' => rw [e] at k; exact fun F' m' H' c d s c' q => k F' m' H' c d σ (K.st.trans s) c' q
  | ok x h' => rw [e] at k; exact fun F' m' H' v s c r => ⟨F', m', h', x, K.step s c, s, r, k⟩
/-- a value stored -/
theorem Fk.upd {F : Hp} {m : List Addr} {fr fr1 : Fr} {h : Cells} {σ σ1 : L2.St} {H : Hp} (K : Fk A B F m fr h σ H) (l1 : fr1.length = fr.length) (l2 : σ1.length = σ.length)
    (p : ∀ j : Nat, (fr1[j]? = fr[j]? ∧ σ1[j]? = σ[j]?) ∨ ∃ x v, (fr1[j]? = some (SV.val x) ∨ fr1[j]? = none) ∧ σ1[j]? = some (some v) ∧ Rp A.G F m x v) : Fk A B F m fr1 h σ1 H := by
  refine ⟨K.ok.upd l1 l2 p, K.st, fun j xs a e1 e2 => ?_, K.ge⟩
  rcases p j with ⟨q1, q2⟩ | ⟨x, v, q, _⟩
  · rw [q1] at e1
    rw [q2] at e2
    exact K.nw j xs a e1 e2
  · rcases q with q | q <;> rw [e1] at q <;> cases q
theorem Fk.set {F : Hp} {m : List Addr} {fr : Fr} {h : Cells} {σ : L2.St} {H : Hp} (K : Fk A B F m fr h σ H) {i : Nat} {x : IV} {v : V} (r : Rp A.G F m x v) : Fk A B F m (fr.set i (SV.val x)) h (σ.set i (some v)) H := by
  refine K.upd (by simp) (by simp) fun j => ?_
  have hl := K.ok.len
  by_cases hj : i = j
  · subst hj
    by_cases hi : i < fr.length
    · exact .inr ⟨x, v, .inl (List.getElem?_set_self hi), List.getElem?_set_self (by omega), r⟩
    · exact .inl ⟨by rw [List.getElem?_eq_none (by simp; omega), List.getElem?_eq_none (by omega)], by rw [List.getElem?_eq_none (by simp; omega), List.getElem?_eq_none (by omega)]⟩
  · exact .inl ⟨List.getElem?_set_ne hj, List.getElem?_set_ne hj⟩
theorem store_fk {K : PySem.W.Frag} (hG : A.G.K = K) {tg : Tg} {F : Hp} {m : List Addr} {fr fr1 : Fr} {h : Cells} {σ : L2.St} {H : Hp} {x : IV} {v : V} {Q : L2.St → Hp → Prop} (k : Fk A B F m fr h σ H) (e : store tg x fr = some fr1) (r : Rp A.G F m x v)
    (q : ∀ σ1, Fk A B F m fr1 h σ1 H → Q σ1 H) : tgG K tg v σ H Q := by
  refine store_run hG k.ok.core e r k.ok.len fun σ1 l1 l2 h1 h2 => q σ1 (k.upd l1 l2 fun j => ?_)
  by_cases hj : j ∈ slotsT tg
  · rcases h2 j hj with c | ⟨c1, c2, c3, c4⟩
    · exact .inr c
    · exact .inl ⟨by rw [c1, c2], by rw [c3, c4]⟩
  · exact .inl (h1 j hj)
/-- a list of the frame's own stored, changed -/
theorem Fk.own {F : Hp} {m : List Addr} {fr : Fr} {h : Cells} {σ : L2.St} {H : Hp} (K : Fk A B F m fr h σ H) {i : Nat} {xs : List IV} {a : Addr} {vs : List V} (hm : a ∉ m) (hF : F a = none) (n0 : B.H a = none) (rl : RpL A.G F m xs vs)
    (ap : ∀ (j : Nat) (ys : List IV), j ≠ i → fr[j]? = some (SV.own ys) → σ[j]? ≠ some (some (.ref a))) : Fk A B F m (fr.set i (SV.own xs)) h (σ.set i (some (.ref a))) (L2.upd H a (.lst vs)) := by
  have hl := K.ok.len
  have c2 : Core A.G F m h (L2.upd H a (.lst vs)) := K.ok.core.own hF hm
  have get : ∀ {j : Nat}, j = i → j < fr.length → (fr.set i (SV.own xs))[j]? = some (SV.own xs) ∧ (σ.set i (some (.ref a)))[j]? = some (some (.ref a)) := fun {j} e hj => by
    subst e
    exact ⟨List.getElem?_set_self hj, List.getElem?_set_self (by omega)⟩
  have other : ∀ {j : Nat}, j ≠ i → (fr.set i (SV.own xs))[j]? = fr[j]? ∧ (σ.set i (some (.ref a)))[j]? = σ[j]? := fun {j} e => ⟨List.getElem?_set_ne (Ne.symm e), List.getElem?_set_ne (Ne.symm e)⟩
  refine ⟨⟨c2, by simp [hl], fun j s v e1 e2 => ?_, fun j l ys zs b hjl e1 e2 e3 e4 => ?_⟩, K.st.own n0, fun j ys b e1 e2 => ?_, K.ge⟩
  · by_cases hj : j = i
    · have hlt : j < fr.length := by have := (List.getElem?_eq_some_iff.mp e1).1; simpa using this
      obtain ⟨g1, g2⟩ := get hj hlt
      rw [g1] at e1
      rw [g2] at e2
      cases e1
      cases e2
      exact ⟨a, vs, rfl, upd_same, rl, hF, hm⟩
    · obtain ⟨g1, g2⟩ := other hj
      rw [g1] at e1
      rw [g2] at e2
      have so := K.ok.slot j s v e1 e2
      cases s with
      | non => trivial
      | val x => exact so
      | own ys =>
        obtain ⟨b, us, rfl, hb, r, h2, h3⟩ := so
        refine ⟨b, us, rfl, ?_, r, h2, h3⟩
        rw [upd_ne fun e => ap j ys hj e1 (by rw [e2, e])]
        exact hb
  · by_cases hj : j = i
    · have hl2 : l ≠ i := fun e => hjl (by rw [hj, e])
      have hlt : j < fr.length := by have := (List.getElem?_eq_some_iff.mp e1).1; simpa using this
      rw [(get hj hlt).2] at e3
      cases e3
      rw [(other hl2).1] at e2
      rw [(other hl2).2] at e4
      exact ap l zs hl2 e2 e4
    · rw [(other hj).1] at e1
      rw [(other hj).2] at e3
      by_cases hl2 : l = i
      · have hlt : l < fr.length := by have := (List.getElem?_eq_some_iff.mp e2).1; simpa using this
        rw [(get hl2 hlt).2] at e4
        cases e4
        exact ap j ys hj e1 e3
      · rw [(other hl2).1] at e2
        rw [(other hl2).2] at e4
        exact K.ok.apart j l ys zs b hjl e1 e2 e3 e4
  · by_cases hj : j = i
    · have hlt : j < fr.length := by have := (List.getElem?_eq_some_iff.mp e1).1; simpa using this
      rw [(get hj hlt).2] at e2
      cases e2
      exact n0
    · rw [(other hj).1] at e1
      rw [(other hj).2] at e2
      exact K.nw j ys b e1 e2
/-- a new list becomes the frame's own -/
theorem Fk.ownNew {F : Hp} {m : List Addr} {fr : Fr} {h : Cells} {σ : L2.St} {H H0 : Hp} {F0 : Hp} {m0 : List Addr} {h0 : Cells} (K0 : Fk A B F0 m0 fr h0 σ H0) (K : Fk A B F m fr h σ H) {i : Nat} {xs : List IV} {a : Addr} {vs : List V} (ha : H a = some (.lst vs)) (hm : a ∉ m) (hF : F a = none) (n0 : H0 a = none)
    (rl : RpL A.G F m xs vs) : Fk A B F m (fr.set i (SV.own xs)) h (σ.set i (some (.ref a))) H := by
  have nB : B.H a = none := stp_none K0.st K0.ok.core n0
  have := K.own (i := i) hm hF nB rl fun j ys hj e1 e2 => by
    obtain ⟨w, ew, b, us, e3, h1, _⟩ := slot_get K0.ok e1
    rw [e2] at ew
    cases ew
    cases e3
    rw [n0] at h1
    cases h1
  rw [upd_self ha] at this
  exact this
/-- a list of the frame's own is shared from now on -/
theorem Fk.frz {F : Hp} {m : List Addr} {fr : Fr} {h : Cells} {σ : L2.St} {H : Hp} (K : Fk A B F m fr h σ H) {i : Nat} {xs : List IV} (e : fr[i]? = some (SV.own xs)) :
    ∃ a vs, σ[i]? = some (some (.ref a)) ∧ H a = some (.lst vs) ∧ Stp B.F (L2.upd F a (.lst vs)) B.m m B.H H ∧ Core A.G (L2.upd F a (.lst vs)) m h H ∧ Rp A.G (L2.upd F a (.lst vs)) m (.lst xs) (.ref a) ∧ Fk A B (L2.upd F a (.lst vs)) m (fr.set i (SV.val (.lst xs))) h σ H := by
  obtain ⟨w, ew, a, vs, rfl, ha, rl, hF, hm⟩ := slot_get K.ok e
  have n0 := K.nw i xs a e ew
  have st := K.st.freeze (o := .lst vs) hF n0
  have co := K.ok.core.freeze (o := .lst vs) hF hm ha
  have ge : Ge F (L2.upd F a (.lst vs)) m m := ⟨fun b o e => by rw [upd_ne (ne_of_none e hF)]; exact e, [], by simp⟩
  have rp : Rp A.G (L2.upd F a (.lst vs)) m (.lst xs) (.ref a) := .lst upd_same rl.1 fun i x v e1 e2 => (rl.2 i x v e1 e2).mono ge
  have hi : i < fr.length := (List.getElem?_eq_some_iff.mp e).1
  refine ⟨a, vs, ew, ha, st, co, rp, ⟨co, by simp [K.ok.len], fun j s v e1 e2 => ?_, fun j l ys zs b hjl e1 e2 e3 => ?_⟩, st, fun j ys b e1 e2 => ?_, K.ge.trans ge⟩
  · by_cases hj : i = j
    · subst hj
      rw [List.getElem?_set_self hi] at e1
      cases e1
      rw [ew] at e2
      cases e2
      exact ⟨_, rfl, rp⟩
    · rw [List.getElem?_set_ne hj] at e1
      have so := K.ok.slot j s v e1 e2
      cases s with
      | non => trivial
      | val x => obtain ⟨u, e3, r⟩ := so; exact ⟨u, e3, r.mono ge⟩
      | own ys =>
        obtain ⟨b, us, rfl, hb, r, h2, h3⟩ := so
        refine ⟨b, us, rfl, hb, r.mono ge, ?_, h3⟩
        rw [upd_ne fun e4 => K.ok.apart i j xs ys a hj e e1 ew (by rw [e2, e4])]
        exact h2
  · have hj : i ≠ j := fun q => by subst q; rw [List.getElem?_set_self hi] at e1; cases e1
    have hl : i ≠ l := fun q => by subst q; rw [List.getElem?_set_self hi] at e2; cases e2
    rw [List.getElem?_set_ne hj] at e1
    rw [List.getElem?_set_ne hl] at e2
    exact K.ok.apart j l ys zs b hjl e1 e2 e3
  · have hj : i ≠ j := fun q => by subst q; rw [List.getElem?_set_self hi] at e1; cases e1
    rw [List.getElem?_set_ne hj] at e1
    exact K.nw j ys b e1 e2
/-- from a later point on -/
def Bs.at (B : Bs) (F : Hp) (m : List Addr) : Bs := { B with Fg := F, mg := m }
theorem Fk.from {F : Hp} {m : List Addr} {fr : Fr} {h : Cells} {σ : L2.St} {H : Hp} (K : Fk A B F m fr h σ H) : Fk A (B.at F m) F m fr h σ H := ⟨K.ok, K.st, K.nw, .refl⟩
theorem Fk.back {F F1 : Hp} {m m1 : List Addr} {fr : Fr} {h : Cells} {σ : L2.St} {H : Hp} (g : Ge B.Fg F1 B.mg m1) (K : Fk A (B.at F1 m1) F m fr h σ H) : Fk A B F m fr h σ H := ⟨K.ok, K.st, K.nw, g.trans K.ge⟩
theorem post_at {F1 : Hp} {m1 : List Addr} {D : Ends} {r : Res Fl} (g : Ge B.Fg F1 B.mg m1) (k : post A B D r) : post A (B.at F1 m1) D r := by
  match r, k with
  | .ok (.nx fr) h, k => exact fun F m σ H K => k F m σ H (K.back g)
  | .ok (.ret v) h, k => exact k
  | .ok (.brk fr) h, k => exact fun F m σ H K => k F m σ H (K.back g)
  | .ok (.cont fr) h, k => exact fun F m σ H K => k F m σ H (K.back g)
  | .exc x h, k => exact k
  | .stuck, k => exact k
end
end PI

set_option Elab.async false
set_option linter.all false
set_option maxRecDepth 100000
set_option maxHeartbeats 4000000
/-! PIq: which text a statement of the evaluator stands for. -/
namespace PI
open PySem PySem.Spec PyProof.Rows L2
def compE : Expr → Bool
  | .ListComp _ _ _ _ => true
  | .SetComp _ _ _ _ => true
  | .DictComp _ _ _ _ _ => true
  | _ => false
def isTupE : Expr → Bool
  | .Tuple _ _ _ => true
  | _ => false
def isTg : Expr → Bool
  | .Name _ _ => true
  | .Tuple _ _ _ => true
  | _ => false
/-- name = [..] on one line, the name a plain local -/
def swp (sc : Scope) (t : Str) (tl : Nat) (e : Expr) : Bool := match e with
  | .ListComp _ _ s p => decide (sc.names.lookup t = some .local) && (tl == p.line) && !(s.names.any fun (n, k) => n == t && (k == .local || k == .cell))
  | _ => false
def fresh : E → Bool
  | .lst _ => true
  | .comp _ _ _ _ _ => true
  | _ => false
/-- a value that is stored: fresh where it becomes the frame's own -/
def chkV (N : List Str) (T : Tab) (o : Bool) (e : E) (sc : Scope) (v : Expr) : Bool := (!o || fresh e) && chk N T e sc v
def loc1 (N : List Str) (sc : Scope) (i : Nat) (x : Str) : Bool := decide (N[i]? = some x) && decide (sc.names.lookup x = some .local)
def pureV (vs : List Expr) : Bool := vs.all (foldedForSure 8) || vs.all (constantsAlone 8)
/-- a pair of names that the machine stores by way of a tuple: not both plain locals, or both values folded -/
def slowPair (sc : Scope) (t v : Expr) : Bool := match t, v with
  | .Tuple [.Name x _, .Name y _] _ _, .Tuple [a, b] _ _ => !(star a) && !(star b) && (!(decide (sc.names.lookup x = some .local) && decide (sc.names.lookup y = some .local)) || [a, b].all (foldedForSure 8))
  | _, _ => false
def isPass : Stmt → Bool
  | .Pass _ => true
  | .Expr (.Constant (.str _) _ _) _ => true
  | _ => false
/-- statements without statements within -/
def chk0 (N : List Str) (T : Tab) (s : S) (sc : Scope) (t : Stmt) : Bool := match s, t with
  | .asg i e, .Assign [.Name x px] v p => chkT1 true N sc i (.Name x px) && chk N T e sc v && (!(compE v) || (swp sc x px.line v && (fresh e)))
  | .asgo i e, .Assign [.Name x px] v p => chkT1 true N sc i (.Name x px) && chkV N T true e sc v && (!(compE v) || swp sc x px.line v)
  | .par i j io jo a b, .Assign [.Tuple [.Name x px, .Name y py] _ _] (.Tuple [v, w] _ _) _ => !(io && jo) && !(i == j) && !(x == y) && loc1 N sc i x && loc1 N sc j y && (py.line == px.line) && chkV N T io a sc v && chkV N T jo b sc w && !(star v) && !(star w) && !(pureV [v, w])
  | .unp tg e, .Assign [t] v _ => chkT true N sc (.many tg) t && chk N T e sc v && !(compE v) && (!(isTupE v) || slowPair sc t v)
  | .pop tg i, .Assign [t] (.Call (.Attribute o nm ap) [] [] cp) _ => chkT true N sc tg t && chkN N sc i o && (nm == ("pop" : Str)) && (ap.endLine == cp.line)
  | .app i e, .Expr (.Call (.Attribute o nm ap) [v] [] cp) _ => chkN N sc i o && chk N T e sc v && !(star v) && (nm == ("append" : Str)) && (ap.endLine == cp.line)
  | .ext i e, .Expr (.Call (.Attribute o nm ap) [v] [] cp) _ => chkN N sc i o && chk N T e sc v && !(star v) && (nm == ("extend" : Str)) && (ap.endLine == cp.line)
  | .seti o k e, .Assign [.Subscript vo vk _] v _ => chk N T o sc vo && chk N T k sc vk && chk N T e sc v && !(compE v) && !(slc vk)
  | .ret e, .Return (some v) _ => chk N T e sc v
  | .retn, .Return none _ => true
  | .reto i, .Return (some v) _ => chkN N sc i v
  | .retc e, .Return (some v) _ => chkV N T true e sc v
  | .expr e, .Expr v _ => chk N T e sc v && !(compE v)
  | .pass, t => isPass t
  | .brk, .Break _ => true
  | .cont, .Continue _ => true
  | _, _ => false
def walkF (N : List Str) (T : Tab) (k : Sk) (tg : Tg) (src : List E) (sc : Scope) (te it : Expr) : Bool := match walkE T sc k it with
  | some xs => pairT k tg && chks N T src sc xs && chkT true N sc tg te
  | none => false
def isFrz : S → Bool
  | .frz _ => true
  | _ => false
mutual
def chk1 (N : List Str) (T : Tab) : S → Scope → Stmt → Bool
  | .ife t a b, sc, st => (match st with
    | .If c xs ys _ => noIf c && chk N T t sc c && chkL N T a sc xs && chkL N T b sc ys
    | _ => false)
  | .while t b, sc, st => (match st with
    | .While c xs [] _ => noIf c && chk N T t sc c && chkL N T b sc xs
    | _ => false)
  | .for tg k src b, sc, st => (match st with
    | .For te it xs [] _ => walkF N T k tg src sc te it && chkL N T b sc xs
    | _ => false)
  | s, sc, st => chk0 N T s sc st
termination_by structural x => x
def chkL (N : List Str) (T : Tab) : List S → Scope → List Stmt → Bool
  | [], _, ts => ts.isEmpty
  | s :: r, sc, ts => (match isFrz s with
    | true => chkL N T r sc ts
    | false => (match ts with
      | t :: ts => chk1 N T s sc t && chkL N T r sc ts
      | [] => false))
termination_by structural x => x
end
end PI

set_option Elab.async false
set_option linter.all false
set_option maxRecDepth 100000
set_option maxHeartbeats 4000000
/-! PIr: simple statements. -/
namespace PI
open PySem PySem.Spec PyProof.Rows L2
structure Stb (fs : Nat → Option Fn) (W n : Nat) (CX : CXT) (T : Tab) (A : Ar) (X : Cx) : Prop where
  e : Sta fs W n CX T A X
  fn : ∀ x, X.fn x = true
  po : PassesOwn (model X.prog X.w) X.A X.env X.xe
  kd : X.env.scope.kind = .function
section
variable {X : Cx} {A : Ar} {B : Bs} {fs : Nat → Option Fn} {W n : Nat} {CX : CXT} {T : Tab}
theorem swaps_no {v : Expr} {t : Option Expr} {l : Nat} {env : Env} (h : compE v = false) : swapsWith v t l env = pure false := by
  cases v <;> first | rfl | (exact absurd h (by simp [compE]))
theorem blk_fn (h : X.env.scope.kind = .function) : X.env.blockKind = .function := by
  unfold Env.blockKind
  rw [h]
  rfl
theorem swaps_yes (S : Stb fs W n CX T A X) {x : Str} {px : Pos} {l : Nat} {v : Expr} (h : swp X.env.scope x px.line v = true) : swapsWith v (some (.Name x px)) l X.env = pure true ∧ X.env.scope.names.lookup x = some .local ∧ ∃ el g s p, v = .ListComp el g s p := by
  unfold swp at h
  split at h
  · rename_i el g s p
    simp only [Bool.and_eq_true, decide_eq_true_eq, Bool.not_eq_true'] at h
    obtain ⟨⟨h1, h2⟩, h3⟩ := h
    refine ⟨?_, h1, _, _, _, _, rfl⟩
    have hk : X.env.kindOf x = some .local := h1
    have hb := blk_fn S.kd
    show (pure (X.env.blockKind == .function && X.env.kindOf x == some .local && px.line == p.line && !(s.names.any fun (n, k) => n == x && (k == .local || k == .cell))) : Sem Bool) = pure true
    rw [hb, hk, h2, h3]
    rfl
  · cases h
theorem t1_inv {c : Bool} {N : List Str} {sc : Scope} {i : Nat} {x : Str} {p : Pos} (h : chkT1 c N sc i (.Name x p) = true) : N[i]? = some x ∧ Loc sc x := by
  unfold chkT1 at h
  obtain ⟨h1, h2⟩ := Bool.and_eq_true_iff.mp h
  refine ⟨by simpa using h1, ?_⟩
  rcases locN_of h2 with l | ⟨_, l⟩
  · exact .inl l
  · exact .inr l
/-- a value, stored at a name -/
theorem asg_post {rel : Rel IV V} {r : Fr → M IV} {g : IV → Fr → Fl} {i : Nat} {D : Ends} {σ : L2.St} {H : Hp} {F : Hp} {m : List Addr} {fr : Fr} {h : Cells} (K : Fk A B F m fr h σ H) (k : post A B D (((r fr).bind fun v => M.pure (g v fr)) h))
    (hg : ∀ F1 m1 h1 H1 x v, Fk A B F1 m1 fr h1 σ H1 → Stp F F1 m m1 H H1 → rel F1 m1 H1 x v → post A B D (.ok (g x fr) h1) → D.nx (σ.set i (some v)) H1) : tP A rel (r fr) F m h σ H fun v H1 => gName i v σ H1 D.nx :=
  (ev_post (rel := rel) K k).mono fun v H1 ⟨F1, m1, h1, x, K1, s1, r1, k1⟩ => hg F1 m1 h1 H1 x v K1 s1 r1 k1
theorem comp_split (S : Sta fs W n CX T A X) {x : E} {e : Expr} {el : Expr} {gs : List Comprehension} {sc : Scope} {p : Pos} (he : e = .ListComp el gs sc p) (h : chk X.N T x X.env.scope e = true) (hf : fresh x = true) :
    ∃ te it is own, gs = [⟨te, it, is, 0⟩] ∧ BlkOk X.N X.env.scope sc own ∧ (∀ v, foldedSetIterable it X.env v = pure v) ∧ ∃ (wi : TI) (g : TG) (tt : TT) (te2 : TE), L2.PI X te it wi ∧ (∀ (s : Shared) (H : Hp) (C : Addr) (cl : List (Str × Addr)) (fp : List Addr), PG (X.blk s H sc (compEnvC sc cl C X.env) fp) te g) ∧
      (∀ (s : Shared) (H : Hp) (C : Addr) (cl : List (Str × Addr)) (fp : List Addr), PTs (X.blk s H sc (compEnvC sc cl C X.env) fp) is tt) ∧ (∀ (s : Shared) (H : Hp) (C : Addr) (cl : List (Str × Addr)) (fp : List Addr), PE (X.blk s H sc (compEnvC sc cl C X.env) fp) el te2) ∧
      ∀ σ H Q, tF0 A (ev (callF fs W n) x) σ H Q → tLc wi g tt te2 (own.map (·.2)) σ H Q := by
  subst he
  cases x <;> try (cases hf; done)
  · unfold chk at h
    cases h
  · rename_i tg k src ifs elt
    unfold chk at h
    split at h
    · rename_i heq
      cases heq
      split at h
      · rename_i xs hw
        simp only [Bool.and_eq_true] at h
        obtain ⟨⟨⟨⟨⟨h1, h2⟩, h3⟩, h4⟩, h5⟩, h6⟩ := h
        obtain ⟨wi, g, tt, te2, q⟩ := comp_parts (pos := p) S hw h1 h2 h3 h4 h5 h6 (snds src) (snds ifs) (snd elt)
        exact ⟨_, _, _, _, rfl, blkOk_by h3, walk_set hw, wi, g, tt, te2, q⟩
      · cases h
    · cases h
/-- name = a fresh list -/
theorem ps_fresh (S : Stb fs W n CX T A X) {i : Nat} {x : Str} {px p : Pos} {e : E} {v : Expr} (hn : chkT1 true X.N X.env.scope i (.Name x px) = true) (hf : fresh e = true) (hc : chk X.N T e X.env.scope v = true) (hs : (!(compE v) || swp X.env.scope x px.line v) = true) :
    PS X (.Assign [.Name x px] v p) (tAsg (tF0 A (ev (callF fs W n) e)) (gName i)) := by
  obtain ⟨h1, h2⟩ := t1_inv hn
  by_cases hv : compE v = true
  · rw [hv] at hs
    obtain ⟨hsw, hl, el, gs, sc, pv, rfl⟩ := swaps_yes (l := p.line) S (by simpa using hs)
    obtain ⟨te, it, is, own, rfl, ok, hset, wi, g, tt, te2, a1, a2, a3, a4, a5⟩ := comp_split S.e rfl hc hf
    exact (ps_setLc S.e.calm S.e.nd h1 hl hsw a1 ok a2 a3 a4 hset).imp fun D σ H k => a5 σ H _ k
  · have hv : compE v = false := by simpa using hv
    cases e <;> try (cases hf; done)
    · exact ps_set S.e.nd h1 h2 (lst_ok S.e (snds _) hc) (swaps_no hv) (.inl (S.fn _))
    · exfalso
      obtain ⟨_, el, g, sc, ps, rfl⟩ := comp_chk S.e (snds _) (snds _) (snd _) hc
      cases hv
theorem st_asg (S : Stb fs W n CX T A X) {i : Nat} {x : Str} {px p : Pos} {e : E} {v : Expr} (hn : chkT1 true X.N X.env.scope i (.Name x px) = true) (hc : chk X.N T e X.env.scope v = true) (hs : (!(compE v) || (swp X.env.scope x px.line v && (fresh e))) = true) :
    PS X (.Assign [.Name x px] v p) (tSt A B (xs1 (callF fs W n) W (.asg i e))) := by
  have key : ∀ D σ H, tSt A B (xs1 (callF fs W n) W (.asg i e)) D σ H → tAsg (tE A (ev (callF fs W n) e)) (gName i) D σ H := fun D σ H ⟨F, m, fr, h, K, k⟩ =>
    ⟨F, m, fr, h, K.ok, asg_post (g := fun v fr => .nx (fr.set i (SV.val v))) K k fun F1 m1 h1 H1 x v K1 _ r k1 => k1 F1 m1 _ H1 (K1.set r)⟩
  by_cases hv : compE v = true
  · rw [hv] at hs
    simp at hs
    exact (ps_fresh S hn hs.2 hc (by rw [hs.1]; simp)).imp fun D σ H k => F0_of_E (key D σ H k)
  · obtain ⟨h1, h2⟩ := t1_inv hn
    exact (ps_set S.e.nd h1 h2 (snd e A X S.e v hc).1 (swaps_no (by simpa using hv)) (.inl (S.fn _))).imp key
theorem st_asgo (S : Stb fs W n CX T A X) {i : Nat} {x : Str} {px p : Pos} {e : E} {v : Expr} (hn : chkT1 true X.N X.env.scope i (.Name x px) = true) (hc : chkV X.N T true e X.env.scope v = true) (hs : (!(compE v) || swp X.env.scope x px.line v) = true) :
    PS X (.Assign [.Name x px] v p) (tSt A B (xs1 (callF fs W n) W (.asgo i e))) := by
  unfold chkV at hc
  simp at hc
  refine (ps_fresh S hn hc.1 hc.2 hs).imp fun D σ H ⟨F, m, fr, h, K, k⟩ => ⟨F, m, fr, h, K.ok, ?_⟩
  refine (ev_post (rel := relF0 A.G H) K (show post A B D (((ev (callF fs W n) e fr).bind fun v => (M.opt (ownOf v)).bind fun l => M.pure (.nx (fr.set i (SV.own l)))) h) from k)).mono fun v H1 ⟨F1, m1, h1, z, K1, s1, r1, k1⟩ => ?_
  obtain ⟨l, a, vs, rfl, rfl, ha, hm, hF, rl, n0⟩ := r1
  exact k1 F1 m1 _ H1 (K.ownNew K1 ha hm hF n0 rl)
/-- a list of the frame's own at a name -/
theorem own_at {F : Hp} {m : List Addr} {fr : Fr} {h : Cells} {σ : L2.St} {H : Hp} (K : Fk A B F m fr h σ H) {i : Nat} {xs : List IV} (e : fr[i]? = some (SV.own xs)) : ∃ a vs, σ[i]? = some (some (.ref a)) ∧ H a = some (.lst vs) ∧ RpL A.G F m xs vs ∧ F a = none ∧ a ∉ m ∧ B.H a = none ∧ ∀ (j : Nat) (ys : List IV), j ≠ i → fr[j]? = some (SV.own ys) → σ[j]? ≠ some (some (.ref a)) := by
  obtain ⟨w, ew, a, vs, rfl, ha, rl, hF, hm⟩ := slot_get K.ok e
  exact ⟨a, vs, ew, ha, rl, hF, hm, K.nw i xs a e ew, fun j ys hj e1 => K.ok.apart i j xs ys a (Ne.symm hj) e e1 ew⟩
theorem set_same {σ : L2.St} {i : Nat} {v : Option V} (e : σ[i]? = some v) : σ.set i v = σ := by
  apply List.ext_getElem?
  intro j
  by_cases hj : i = j
  · subst hj
    have hi := (List.getElem?_eq_some_iff.mp e).1
    rw [List.getElem?_set_self hi, e]
  · rw [List.getElem?_set_ne hj]
/-- .. otherwise from now on -/
theorem own_put {F : Hp} {m : List Addr} {fr : Fr} {h : Cells} {σ : L2.St} {H : Hp} (K : Fk A B F m fr h σ H) {i : Nat} {ys : List IV} {a : Addr} {us : List V} (e2 : σ[i]? = some (some (.ref a))) (hF : F a = none) (hm : a ∉ m) (n0 : B.H a = none) (rl : RpL A.G F m ys us)
    (ap : ∀ (j : Nat) (ys : List IV), j ≠ i → fr[j]? = some (SV.own ys) → σ[j]? ≠ some (some (.ref a))) : Fk A B F m (fr.set i (SV.own ys)) h σ (L2.upd H a (.lst us)) := by
  have := K.own (i := i) hm hF n0 rl ap
  rw [set_same e2] at this
  exact this
theorem nm_eq {a b : Str} (h : (a == b) = true) : a = b := by simpa using h
theorem call_base {x nm : Str} {p : Pos} {env : Env} : attributeBase (.Name x p) nm env (eval (.Name x p) env) = eval (.Name x p) env := rfl
theorem few_ok {cp : Pos} {v : Expr} {env : Env} (h : star v = false) : ((backTo cp (starEach [v] env)).all (fun x => !x.1) && (backToKw cp (keywordEach [] env)).all (fun x => x.1.isSome) && decide ([v].length + ([] : List Keyword).length + (if ([] : List Keyword).isEmpty then 0 else 1) < 30)) = true := by
  rw [star_each h]
  rfl
theorem st_app (S : Stb fs W n CX T A X) {i : Nat} {e : E} {o v : Expr} {nm : Str} {ap cp p : Pos} (ho : chkN X.N X.env.scope i o = true) (hc : chk X.N T e X.env.scope v = true) (hv : star v = false) (hn : (nm == ("append" : Str)) = true) (hl : (ap.endLine == cp.line) = true) :
    PS X (.Expr (.Call (.Attribute o nm ap) [v] [] cp) p) (tSt A B (xs1 (callF fs W n) W (.app i e))) := by
  obtain ⟨x, pos, rfl, hN, hvis, hd1, hd2⟩ := chkN_inv ho
  cases nm_eq hn
  have pv : PE X (.Name x pos) (tVar i) := pe_var hN hvis hd1 hd2
  have pc := pe_bm (apos := ap) (cpos := cp) PySem.F.plainAttrs_list PySem.F.slot_list_append PySem.F.type_list_append mt_append pv (pa_cons (snd e A X S.e v hc).1 pa_nil (star_each hv)) call_base (few_ok hv) hl (star_each hv) rfl
  refine (ps_expr pc rfl).imp fun D σ H ⟨F, m, fr, h, K, k⟩ => ?_
  have k : post A B D ((match fr[i]? with
    | some (.own xs) => (ev (callF fs W n) e fr).bind fun v => M.opt (if xs.length < szl then some (Fl.nx (fr.set i (SV.own (xs ++ [v])))) else none)
    | _ => M.stuck) h) := k
  cases ef : fr[i]? with
  | none => rw [ef] at k; exact k.elim
  | some sv =>
  cases sv with
  | non => rw [ef] at k; exact k.elim
  | val _ => rw [ef] at k; exact k.elim
  | own xs =>
    rw [ef] at k
    obtain ⟨a, vs, es, ha, rl, hF, hm, n0, apt⟩ := own_at K ef
    refine ⟨.ref a, es, .inl ⟨rfl, vs, SqL.of ha⟩, F, m, fr, h, K.ok, (ev_post (rel := relV A.G) K k).mono fun u H1 ⟨F1, m1, h1, x, K1, s1, r1, k1⟩ => ?_⟩
    obtain ⟨a', vs', es', ha', rl', hF', hm', n0', apt'⟩ := own_at K1 ef
    rw [es] at es'
    cases es'
    have k1 : post A B D (M.opt (if xs.length < szl then some (Fl.nx (fr.set i (SV.own (xs ++ [x])))) else none) h1) := k1
    unfold M.opt at k1
    split at k1
    · rename_i heq
      split at heq
      · rename_i hz
        cases heq
        exact ⟨a, vs', u, rfl, rfl, ha', by rw [rl'.1, ← szl_eq]; exact hz, k1 F1 m1 σ _ (own_put K1 es hF' hm' n0' (rl'.append (.cons r1 .nil)) apt')⟩
      · cases heq
    · exact k1.elim
theorem st_ext (S : Stb fs W n CX T A X) {i : Nat} {e : E} {o v : Expr} {nm : Str} {ap cp p : Pos} (ho : chkN X.N X.env.scope i o = true) (hc : chk X.N T e X.env.scope v = true) (hv : star v = false) (hn : (nm == ("extend" : Str)) = true) (hl : (ap.endLine == cp.line) = true) :
    PS X (.Expr (.Call (.Attribute o nm ap) [v] [] cp) p) (tSt A B (xs1 (callF fs W n) W (.ext i e))) := by
  obtain ⟨x, pos, rfl, hN, hvis, hd1, hd2⟩ := chkN_inv ho
  cases nm_eq hn
  have pv : PE X (.Name x pos) (tVar i) := pe_var hN hvis hd1 hd2
  have pc := pe_bm (apos := ap) (cpos := cp) PySem.F.plainAttrs_list PySem.F.slot_list_extend PySem.F.type_list_extend mt_extend pv (pa_cons (snd e A X S.e v hc).1 pa_nil (star_each hv)) call_base (few_ok hv) hl (star_each hv) rfl
  refine (ps_expr pc rfl).imp fun D σ H ⟨F, m, fr, h, K, k⟩ => ?_
  have k : post A B D ((match fr[i]? with
    | some (.own xs) => (ev (callF fs W n) e fr).bind fun v => (M.opt (ownOf v)).bind fun ys => M.opt (if xs.length + ys.length ≤ szl then some (Fl.nx (fr.set i (SV.own (xs ++ ys)))) else none)
    | _ => M.stuck) h) := k
  cases ef : fr[i]? with
  | none => rw [ef] at k; exact k.elim
  | some sv =>
  cases sv with
  | non => rw [ef] at k; exact k.elim
  | val _ => rw [ef] at k; exact k.elim
  | own xs =>
    rw [ef] at k
    obtain ⟨a, vs, es, ha, rl, hF, hm, n0, apt⟩ := own_at K ef
    refine ⟨.ref a, es, .inl ⟨rfl, vs, SqL.of ha⟩, F, m, fr, h, K.ok, (ev_post (rel := relV A.G) K k).mono fun u H1 ⟨F1, m1, h1, x, K1, s1, r1, k1⟩ => ?_⟩
    obtain ⟨a', vs', es', ha', rl', hF', hm', n0', apt'⟩ := own_at K1 ef
    rw [es] at es'
    cases es'
    cases x <;> try (exact k1.elim)
    rename_i ys
    have k1 : post A B D (M.opt (if xs.length + ys.length ≤ szl then some (Fl.nx (fr.set i (SV.own (xs ++ ys)))) else none) h1) := k1
    unfold M.opt at k1
    split at k1
    · rename_i heq
      split at heq
      · rename_i hz
        cases heq
        cases r1 with
        | @lst b _ us eb l q =>
          exact ⟨a, b, vs', us, rfl, rfl, ha', K1.ok.core.sub _ _ eb, by rw [rl'.1, l, ← szl_eq]; exact hz, k1 F1 m1 σ _ (own_put K1 es hF' hm' n0' (rl'.append ⟨l, q⟩) apt')⟩
      · cases heq
    · exact k1.elim
theorem tg_shape {c : Bool} {N : List Str} {sc : Scope} {tg : Tg} {t : Expr} (h : chkT c N sc tg t = true) : isTg t = true := by
  unfold chkT at h
  split at h
  · unfold chkT1 at h
    split at h
    · rfl
    · cases h
  · rfl
  · cases h
theorem rpl_drop {G : Gi} {F : Hp} {m : List Addr} {xs : List IV} {vs : List V} (r : RpL G F m xs vs) : RpL G F m xs.dropLast vs.dropLast := by
  rw [List.dropLast_eq_take, List.dropLast_eq_take, r.1]
  exact r.take _
theorem st_pop (S : Stb fs W n CX T A X) {i : Nat} {tg : Tg} {t o : Expr} {nm : Str} {ap cp p : Pos} (ht : chkT true X.N X.env.scope tg t = true) (ho : chkN X.N X.env.scope i o = true) (hn : (nm == ("pop" : Str)) = true) (hl : (ap.endLine == cp.line) = true) :
    PS X (.Assign [t] (.Call (.Attribute o nm ap) [] [] cp) p) (tSt A B (xs1 (callF fs W n) W (.pop tg i))) := by
  obtain ⟨x, pos, rfl, hN, hvis, hd1, hd2⟩ := chkN_inv ho
  cases nm_eq hn
  have pv : PE X (.Name x pos) (tVar i) := pe_var hN hvis hd1 hd2
  have pc := pe_bm0 (apos := ap) (cpos := cp) PySem.F.plainAttrs_list PySem.F.slot_list_pop PySem.F.type_list_pop mt_pop pv call_base hl
  have sh := tg_shape ht
  have pa : PS X (.Assign [t] (.Call (.Attribute (.Name x pos) "pop" ap) [] [] cp) p) (tAsg (tBM0 X.K "list" rPop (tVar i)) (tgG X.K tg)) := by
    refine ps_asg pc (pg_tg S.e.nd S.e.calm (fun _ => S.fn) ht) rfl ?_ ?_
    · cases t <;> first | rfl | (cases sh)
    · cases t <;> first | rfl | (cases sh)
  refine pa.imp fun D σ H ⟨F, m, fr, h, K, k⟩ => ?_
  have k : post A B D ((match fr[i]? with
    | some (.own xs) => (match xs.getLast? with
      | some x => (M.opt (store tg x (fr.set i (SV.own xs.dropLast)))).bind fun fr => M.pure (Fl.nx fr)
      | none => M.stuck)
    | _ => M.stuck) h) := k
  cases ef : fr[i]? with
  | none => rw [ef] at k; exact k.elim
  | some sv =>
  cases sv with
  | non => rw [ef] at k; exact k.elim
  | val _ => rw [ef] at k; exact k.elim
  | own xs =>
    rw [ef] at k
    dsimp only at k
    cases ez : xs.getLast? with
    | none => rw [ez] at k; exact k.elim
    | some z =>
      rw [ez] at k
      dsimp only at k
      obtain ⟨a, vs, es, ha, rl, hF, hm, n0, apt⟩ := own_at K ef
      rw [List.getLast?_eq_getElem?] at ez
      obtain ⟨u, eu, ru⟩ := rl.get ez
      rw [← rl.1] at eu
      refine ⟨.ref a, es, .inl ⟨rfl, vs, SqL.of ha⟩, a, vs, u, rfl, rfl, ha, eu, ?_⟩
      have K1 := own_put K es hF hm n0 (rpl_drop rl) apt
      cases est : store tg z (fr.set i (SV.own xs.dropLast)) with
      | none => rw [est] at k; exact k.elim
      | some fr1 =>
        rw [est] at k
        exact store_fk S.e.hG K1 est ru fun σ1 K2 => k F m σ1 _ K2
theorem slow_ok (S : Stb fs W n CX T A X) {t v : Expr} (h : slowPair X.env.scope t v = true) : swappedStores [t] v X.env = pure none := by
  unfold slowPair at h
  split at h
  · rename_i x px y py kt pt a b kv pv
    simp only [Bool.and_eq_true, Bool.not_eq_true'] at h
    obtain ⟨⟨h1, h2⟩, h3⟩ := h
    have hb := blk_fn S.kd
    have s1 : ∀ e : Expr, star e = false → (match e with
      | .Starred _ _ => true
      | _ => false) = false := by
      intro e h
      cases e <;> first | rfl | (cases h)
    have hst : ([a, b].any fun x => match x with
      | .Starred _ _ => true
      | _ => false) = false := by
      simp only [List.any_cons, List.any_nil, Bool.or_false]
      rw [s1 a h1, s1 b h2]
      rfl
    have kx : X.env.kindOf x = X.env.scope.names.lookup x := rfl
    have ky : X.env.kindOf y = X.env.scope.names.lookup y := rfl
    unfold swappedStores
    simp only [List.length_cons, List.length_nil, hb, Expr.pos, List.head?_cons, Option.map_some, Option.getD_some, List.filterMap_cons, List.filterMap_nil]
    rw [if_neg (by decide), if_neg (fun q => by exact Bool.noConfusion (hst.symm.trans q))]
    have kk : (decide (List.lookup x X.env.scope.names = some NameKind.local) && decide (List.lookup y X.env.scope.names = some NameKind.local)) = false ∨ [a, b].all (foldedForSure 8) = true := by
      rcases Bool.eq_false_or_eq_true (decide (List.lookup x X.env.scope.names = some NameKind.local) && decide (List.lookup y X.env.scope.names = some NameKind.local)) with q | q
      · rw [q] at h3
        exact .inr (by simpa using h3)
      · exact .inl q
    rcases kk with kk | kk
    · refine if_pos ?_
      rw [kx, ky]
      rcases Bool.eq_false_or_eq_true (List.lookup x X.env.scope.names == some NameKind.local && px.line == px.line) with q1 | q1 <;> rcases Bool.eq_false_or_eq_true (List.lookup y X.env.scope.names == some NameKind.local && py.line == px.line) with q2 | q2 <;> simp only [q1, q2] <;> first | rfl | skip
      exfalso
      have e1 : List.lookup x X.env.scope.names = some NameKind.local := by
        rw [Bool.and_eq_true] at q1
        exact eq_of_beq q1.1
      have e2 : List.lookup y X.env.scope.names = some NameKind.local := by
        rw [Bool.and_eq_true] at q2
        exact eq_of_beq q2.1
      rw [e1, e2] at kk
      simp at kk
    · rw [if_pos kk]
      exact ite_self _
  · cases h
theorem st_unp (S : Stb fs W n CX T A X) {is : List Nat} {e : E} {t v : Expr} {p : Pos} (ht : chkT true X.N X.env.scope (.many is) t = true) (hc : chk X.N T e X.env.scope v = true) (hv : compE v = false) (hu : (!(isTupE v) || slowPair X.env.scope t v) = true) :
    PS X (.Assign [t] v p) (tSt A B (xs1 (callF fs W n) W (.unp is e))) := by
  have sh := tg_shape ht
  have pa : PS X (.Assign [t] v p) (tAsg (tE A (ev (callF fs W n) e)) (tgG X.K (.many is))) := by
    refine ps_asg (snd e A X S.e v hc).1 (pg_tg S.e.nd S.e.calm (fun _ => S.fn) ht) (swaps_no hv) ?_ ?_
    · by_cases ht2 : isTupE v = true
      · rw [ht2] at hu
        exact slow_ok S (by simpa using hu)
      · have ht2 : isTupE v = false := by simpa using ht2
        cases t <;> first | (cases v <;> first | rfl | (cases ht2)) | (cases sh)
    · cases t <;> first | rfl | (cases sh)
  refine pa.imp fun D σ H ⟨F, m, fr, h, K, k⟩ => ⟨F, m, fr, h, K.ok, (ev_post (rel := relV A.G) K (show post A B D (((ev (callF fs W n) e fr).bind fun v => (M.opt (store (.many is) v fr)).bind fun fr => M.pure (.nx fr)) h) from k)).mono fun u H1 ⟨F1, m1, h1, x, K1, s1, r1, k1⟩ => ?_⟩
  cases est : store (.many is) x fr with
  | none => rw [est] at k1; exact k1.elim
  | some fr1 =>
    rw [est] at k1
    exact store_fk S.e.hG K1 est r1 fun σ1 K2 => k1 F1 m1 σ1 _ K2
/-- a cell's list changed -/
theorem cell_put {F : Hp} {m : List Addr} {fr : Fr} {h : Cells} {σ : L2.St} {H : Hp} (K : Fk A B F m fr h σ H) {c : Nat} {a : Addr} (em : m[c]? = some a) {ys : List IV} {us : List V} (rl : RpL A.G F m ys us) (hB : a ∈ B.m ∨ B.H a = none) : Fk A B F m fr (h.set c (.lst ys)) σ (L2.upd H a (.lst us)) := by
  have ha : a ∈ m := List.mem_of_getElem? em
  obtain ⟨hF, o, eo⟩ := K.ok.core.there ha
  have C := K.ok.core
  refine ⟨⟨⟨fun b u e => ?_, C.nd, by simp [C.len], fun i b co e1 e2 => ?_⟩, K.ok.len, fun j s v e1 e2 => ?_, K.ok.apart⟩, ⟨K.st.kf, K.st.fn, K.st.pre, K.st.new, fun b u e hb => ?_⟩, K.nw, K.ge⟩
  · rw [upd_ne (ne_of_none e hF)]
    exact C.sub b u e
  · by_cases hi : c = i
    · subst hi
      rw [em] at e1
      cases e1
      have hlt : c < h.length := by have := (List.getElem?_eq_some_iff.mp e2).1; simpa using this
      rw [List.getElem?_set_self hlt] at e2
      cases e2
      exact ⟨hF, us, upd_same, rl⟩
    · rw [List.getElem?_set_ne hi] at e2
      have hne : b ≠ a := fun q => by
        subst q
        exact hi ((List.getElem?_inj (List.getElem?_eq_some_iff.mp em).1 C.nd).mp (em.trans e1.symm))
      have k := C.cel i b co e1 e2
      cases co with
      | dead => exact ⟨k.1, k.2.imp fun o e => by rw [upd_ne hne]; exact e⟩
      | lst xs =>
        obtain ⟨z, vs, e, r⟩ := k
        exact ⟨z, vs, by rw [upd_ne hne]; exact e, r⟩
  · have so := K.ok.slot j s v e1 e2
    cases s with
    | non => trivial
    | val x => exact so
    | own ys =>
      obtain ⟨b, vs, rfl, hb, r, h2, h3⟩ := so
      exact ⟨b, vs, rfl, by rw [upd_ne fun q => h3 (by rw [q]; exact ha)]; exact hb, r, h2, h3⟩
  · have e2 := K.st.kh b u e hb
    rcases hB with hB | hB
    · rw [upd_ne fun q => hb (by rw [q]; exact hB)]
      exact e2
    · rw [upd_ne (ne_of_none e hB)]
      exact e2
theorem ix_nat {α : Type} {xs : List α} {k : Int} (h0 : 0 ≤ k) (h1 : k < xs.length) : ixN xs.length k = some k.toNat := by
  unfold ixN
  rw [if_pos h0, if_pos h1]
theorem RpL.set {G : Gi} {F : Hp} {m : List Addr} {xs : List IV} {vs : List V} {x : IV} {v : V} (r : RpL G F m xs vs) (q : Rp G F m x v) (i : Nat) : RpL G F m (xs.set i x) (vs.set i v) := by
  refine ⟨by simp [r.1], fun j y u e1 e2 => ?_⟩
  by_cases hj : i = j
  · subst hj
    have h1 := (List.getElem?_eq_some_iff.mp e1).1
    have h2 := (List.getElem?_eq_some_iff.mp e2).1
    rw [List.getElem?_set_self (by simpa using h1)] at e1
    rw [List.getElem?_set_self (by simpa using h2)] at e2
    cases e1
    cases e2
    exact q
  · rw [List.getElem?_set_ne hj] at e1 e2
    exact r.2 j y u e1 e2
theorem st_seti (S : Stb fs W n CX T A X) {o k e : E} {vo vk v : Expr} {ps p : Pos} (ho : chk X.N T o X.env.scope vo = true) (hk : chk X.N T k X.env.scope vk = true) (hc : chk X.N T e X.env.scope v = true) (hv : compE v = false) (hs : slc vk = false) :
    PS X (.Assign [.Subscript vo vk ps] v p) (tSt A B (xs1 (callF fs W n) W (.seti o k e))) := by
  have pa : PS X (.Assign [.Subscript vo vk ps] v p) (tAsg (tE A (ev (callF fs W n) e)) (gSub (tE A (ev (callF fs W n) o)) (tE A (ev (callF fs W n) k)) rSetL)) := by
    refine ps_asg (snd e A X S.e v hc).1 (pg_sub (snd o A X S.e vo ho).1 (snd k A X S.e vk hk).1 set_list ?_) (by show swapsWith v (some (.Subscript vo vk ps)) p.line X.env = pure false; exact swaps_no hv) rfl rfl
    intro u
    cases vk <;> first | rfl | (exact absurd hs (by simp [slc]))
  refine pa.imp fun D σ H ⟨F, m, fr, h, K, k0⟩ => ⟨F, m, fr, h, K.ok, (ev_post (rel := relV A.G) K (show post A B D (((ev (callF fs W n) e fr).bind fun v => (ev (callF fs W n) o fr).bind fun o => (ev (callF fs W n) k fr).bind fun k => (setCell o k v).bind fun _ => M.pure (.nx fr)) h) from k0)).mono fun u H1 ⟨F1, m1, h1, x, K1, s1, r1, k1⟩ => ?_⟩
  refine ⟨F1, m1, fr, h1, K1.ok, (ev_post (rel := relV A.G) K1 k1).mono fun w H2 ⟨F2, m2, h2, y, K2, s2, r2, k2⟩ => ?_⟩
  refine ⟨F2, m2, fr, h2, K2.ok, (ev_post (rel := relV A.G) K2 k2).mono fun w2 H3 ⟨F3, m3, h3, z, K3, s3, r3, k3⟩ => ?_⟩
  have k4 : post A B D (((setCell y z x).bind fun _ => M.pure (Fl.nx fr)) h3) := k3
  have r2' : Rp A.G F3 m3 y w := r2.mono s3.ge
  have r1' : Rp A.G F3 m3 x u := r1.mono (s2.ge.trans s3.ge)
  cases y with
  | cell c =>
    cases z with
    | int i =>
        cases r3
        cases r2' with
        | @cell a _ em =>
          unfold M.bind setCell at k4
          cases eh : h3[c]? with
          | none => simp only [eh] at k4; exact k4.elim
          | some co =>
            cases co with
            | dead => simp only [eh] at k4; exact k4.elim
            | lst xs =>
              simp only [eh] at k4
              split at k4
              · rename_i hx
                split at hx
                · rename_i hb
                  cases hx
                  obtain ⟨hF, vs, ha, rl⟩ := K3.ok.core.cel c a _ em eh
                  refine ⟨a, vs, i, i.toNat, rfl, rfl, ha, ix_nat hb.1 (by rw [rl.1]; exact hb.2), ?_⟩
                  refine k4 F3 m3 σ _ (cell_put K3 em (rl.set r1' i.toNat) ?_)
                  exact K3.st.new a (List.mem_of_getElem? em)
                · cases hx
              · rename_i hx
                split at hx <;> cases hx
              · exact k4.elim
    | _ => exact k4.elim
  | _ => exact k4.elim
theorem st_ret (S : Stb fs W n CX T A X) {e : E} {v : Expr} {p : Pos} (hc : chk X.N T e X.env.scope v = true) : PS X (.Return (some v) p) (tSt A B (xs1 (callF fs W n) W (.ret e))) :=
  (ps_ret (snd e A X S.e v hc).1).imp fun D σ H ⟨F, m, fr, h, K, k⟩ => ⟨F, m, fr, h, K.ok, (ev_post (rel := relV A.G) K (show post A B D (((ev (callF fs W n) e fr).bind fun v => M.pure (.ret v)) h) from k)).mono fun u H1 ⟨F1, m1, h1, x, K1, s1, r1, k1⟩ => k1 F1 m1 H1 u K1.st K1.ok.core r1⟩
theorem st_retn {p : Pos} : PS X (.Return none p) (tSt A B (xs1 (callF fs W n) W .retn)) :=
  ps_retN.imp fun D σ H ⟨F, m, fr, h, K, k⟩ => k F m H .non K.st K.ok.core .non
theorem st_reto {i : Nat} {v : Expr} {p : Pos} (hc : chkN X.N X.env.scope i v = true) : PS X (.Return (some v) p) (tSt A B (xs1 (callF fs W n) W (.reto i))) := by
  obtain ⟨x, pos, rfl, hN, hvis, hd1, hd2⟩ := chkN_inv hc
  refine (ps_ret (pe_var hN hvis hd1 hd2)).imp fun D σ H ⟨F, m, fr, h, K, k⟩ => ?_
  have k : post A B D (M.opt ((ownV fr i).map Fl.ret) h) := k
  unfold ownV at k
  cases ef : fr[i]? with
  | none => rw [ef] at k; exact k.elim
  | some sv =>
    cases sv with
    | non => rw [ef] at k; exact k.elim
    | val _ => rw [ef] at k; exact k.elim
    | own xs =>
      rw [ef] at k
      obtain ⟨a, vs, e1, e2, st, co, rp, _⟩ := K.frz ef
      exact ⟨.ref a, e1, k _ m H _ st co rp⟩
theorem st_expr (S : Stb fs W n CX T A X) {e : E} {v : Expr} {p : Pos} (hc : chk X.N T e X.env.scope v = true) (hv : compE v = false) : PS X (.Expr v p) (tSt A B (xs1 (callF fs W n) W (.expr e))) :=
  (ps_expr (snd e A X S.e v hc).1 (swaps_no hv)).imp fun D σ H ⟨F, m, fr, h, K, k⟩ => ⟨F, m, fr, h, K.ok, (ev_post (rel := relV A.G) K (show post A B D (((ev (callF fs W n) e fr).bind fun _ => M.pure (.nx fr)) h) from k)).mono fun u H1 ⟨F1, m1, h1, x, K1, s1, r1, k1⟩ => k1 F1 m1 σ H1 K1⟩
/-- a fresh list becomes a cell -/
theorem fresh_ok (S : Sta fs W n CX T A X) {e : E} {v : Expr} (hf : fresh e = true) (hc : chk X.N T e X.env.scope v = true) : PE X v (tF0 A (ev (callF fs W n) e)) := by
  cases e <;> try (cases hf; done)
  · exact lst_ok S (snds _) hc
  · exact (comp_chk S (snds _) (snds _) (snd _) hc).1
theorem st_retc (S : Stb fs W n CX T A X) {e : E} {v : Expr} {p : Pos} (hc : chkV X.N T true e X.env.scope v = true) : PS X (.Return (some v) p) (tSt A B (xs1 (callF fs W n) W (.retc e))) := by
  unfold chkV at hc
  simp at hc
  refine (ps_ret (fresh_ok S.e hc.1 hc.2)).imp fun D σ H ⟨F, m, fr, h, K, k⟩ => ⟨F, m, fr, h, K.ok, (ev_post (rel := relF0 A.G H) K (show post A B D (((ev (callF fs W n) e fr).bind fun v => (newCell v).bind fun c => M.pure (.ret c)) h) from k)).mono fun u H1 ⟨F1, m1, h1, x, K1, s1, r1, k1⟩ => ?_⟩
  obtain ⟨l, a, vs, rfl, rfl, ha, hm, hF, rl, n0⟩ := r1
  have nB : B.H a = none := stp_none K.st K.ok.core n0
  have g : Ge F1 F1 m1 (m1 ++ [a]) := ⟨fun _ _ h => h, [a], rfl⟩
  have C := K1.ok.core
  refine k1 F1 (m1 ++ [a]) H1 (.ref a) ⟨K1.st.kf, K1.st.fn, ?_, fun b hb => ?_, K1.st.kh⟩ ⟨C.sub, ?_, by simp [C.len], fun i b co e1 e2 => ?_⟩ ?_
  · obtain ⟨l, e⟩ := K1.st.pre
    exact ⟨l ++ [a], by rw [e, List.append_assoc]⟩
  · rcases List.mem_append.mp hb with hb | hb
    · exact K1.st.new b hb
    · rw [List.mem_singleton.mp hb]
      exact .inr nB
  · rw [List.nodup_append]
    exact ⟨C.nd, by simp, fun x hx y hy e => hm (by rw [List.mem_singleton.mp hy] at e; rw [← e]; exact hx)⟩
  · by_cases hi : i < m1.length
    · rw [List.getElem?_append_left hi] at e1
      rw [List.getElem?_append_left (by rw [C.len]; exact hi)] at e2
      exact (C.cel i b co e1 e2).step g (fun h => h) fun _ h => h
    · have h1 := (List.getElem?_eq_some_iff.mp e1).1
      have hie : i = m1.length := by simp at h1; omega
      subst hie
      rw [List.getElem?_append_right (Nat.le_refl _), Nat.sub_self] at e1
      rw [← C.len, List.getElem?_append_right (Nat.le_refl _), Nat.sub_self] at e2
      cases e1
      cases e2
      exact ⟨hF, vs, ha, rl.mono g⟩
  · refine .cell ?_
    rw [C.len, List.getElem?_append_right (Nat.le_refl _), Nat.sub_self]
    rfl
/-! ### a, b = x, y -/
theorem loc1_inv {N : List Str} {sc : Scope} {i : Nat} {x : Str} (h : loc1 N sc i x = true) : N[i]? = some x ∧ sc.names.lookup x = some .local := by
  unfold loc1 at h
  simpa using h
theorem swapped2 (S : Stb fs W n CX T A X) {x y : Str} {px py pt pt2 : Pos} {kt k2 : Nat} {v w : Expr} (hx : X.env.scope.names.lookup x = some .local) (hy : X.env.scope.names.lookup y = some .local) (hxy : (x == y) = false) (hl : (py.line == px.line) = true) (h1 : star v = false) (h2 : star w = false) (hp : pureV [v, w] = false) :
    swappedStores [.Tuple [.Name x px, .Name y py] kt pt] (.Tuple [v, w] k2 pt2) X.env = pure (some [x, y]) := by
  have kx : X.env.kindOf x = some .local := hx
  have ky : X.env.kindOf y = some .local := hy
  have hb := blk_fn S.kd
  unfold pureV at hp
  have hne : (y == x) = false := by
    have : x ≠ y := by simpa using hxy
    simpa using fun e : y = x => this e.symm
  have s1 : ∀ e : Expr, star e = false → (match e with
    | .Starred _ _ => true
    | _ => false) = false := by
    intro e h
    cases e <;> first | rfl | (cases h)
  have hp1 : [v, w].all (foldedForSure 8) = false := (Bool.or_eq_false_iff.mp hp).1
  have hp2 : [v, w].all (constantsAlone 8) = false := (Bool.or_eq_false_iff.mp hp).2
  have hd : [x, y].eraseDups.length = 2 := by
    rw [List.eraseDups_cons]
    have : List.filter (fun b => !b == x) [y] = [y] := by simp [List.filter_cons, hne]
    rw [this]
    rfl
  have hst : ([v, w].any fun x => match x with
    | .Starred _ _ => true
    | _ => false) = false := by
    simp only [List.any_cons, List.any_nil, Bool.or_false]
    rw [s1 v h1, s1 w h2]
    rfl
  unfold swappedStores
  simp only [List.length_cons, List.length_nil, hb, kx, ky, Expr.pos, List.head?_cons, Option.map_some, Option.getD_some, List.filterMap_cons, List.filterMap_nil, hl, hst, hp1, hp2, hd]
  simp
  rw [if_neg (fun h => by
    rcases h with h | h
    · exact absurd ((s1 v h1).symm.trans h) (by simp)
    · exact absurd ((s1 w h2).symm.trans h) (by simp)), if_pos hd]
/-- one of two values stored at once -/
theorem st_par (S : Stb fs W n CX T A X) {i j : Nat} {io jo : Bool} {a b : E} {x y : Str} {px py pt pt2 p : Pos} {kt k2 : Nat} {v w : Expr} (hio : (io && jo) = false) (hij : (i == j) = false) (hxy : (x == y) = false) (hx : loc1 X.N X.env.scope i x = true) (hy : loc1 X.N X.env.scope j y = true) (hl : (py.line == px.line) = true)
    (ha : chkV X.N T io a X.env.scope v = true) (hb : chkV X.N T jo b X.env.scope w = true) (h1 : star v = false) (h2 : star w = false) (hp : pureV [v, w] = false) :
    PS X (.Assign [.Tuple [.Name x px, .Name y py] kt pt] (.Tuple [v, w] k2 pt2) p) (tSt A B (xs1 (callF fs W n) W (.par i j io jo a b))) := by
  obtain ⟨ix, lx⟩ := loc1_inv hx
  obtain ⟨iy, ly⟩ := loc1_inv hy
  unfold chkV at ha hb
  simp at ha hb
  have hne : i ≠ j := by simpa using hij
  have val : ∀ {o : Bool} {e : E} {u : Expr}, (o = false ∨ fresh e = true) ∧ chk X.N T e X.env.scope u = true → PE X u (if o then tF0 A (ev (callF fs W n) e) else tE A (ev (callF fs W n) e)) := fun {o e u} h => by
    cases o with
    | true => exact fresh_ok S.e (by simpa using h.1) h.2
    | false => exact (snd e A X S.e u h.2).1
  have p0 := ps_par (px := px) (py := py) (pt := pt) (kt := kt) (k2 := k2) (pt2 := pt2) (pos := p) S.e.calm S.e.nd ix iy hne lx ly (pa_cons (val ha) (pa_cons (val hb) pa_nil (star_each h2)) (star_each h1)) (swapped2 S lx ly hxy hl h1 h2 hp) rfl
  refine p0.imp fun D σ H ⟨F, m, fr, h, K, k⟩ => ?_
  have k : post A B D (((ev (callF fs W n) a fr).bind fun v => (ev (callF fs W n) b fr).bind fun w => (M.opt (if io = true then (ownOf v).map SV.own else some (SV.val v))).bind fun v => (M.opt (if jo = true then (ownOf w).map SV.own else some (SV.val w))).bind fun w => M.pure (.nx ((fr.set i v).set j w))) h) := k
  have nF : ∀ (c : Bool) (t : TE) (e : TE), c = false → (if c = true then t else e) = e := fun c t e h => by rw [h]; rfl
  cases io with
  | false =>
    refine (show tE A (ev (callF fs W n) a) σ H _ from ⟨F, m, fr, h, K.ok, (ev_post (rel := relV A.G) K k).mono fun u H1 ⟨F1, m1, h1, x1, K1, s1, r1, k1⟩ => ?_⟩)
    cases jo with
    | false =>
      refine (show tE A (ev (callF fs W n) b) σ H1 _ from ⟨F1, m1, fr, h1, K1.ok, (ev_post (rel := relV A.G) K1 k1).mono fun u2 H2 ⟨F2, m2, h2, x2, K2, s2, r2, k2⟩ => ⟨u, u2, rfl, ?_⟩⟩)
      exact k2 F2 m2 _ H2 ((K2.set (r1.mono s2.ge)).set r2)
    | true =>
      refine (show tF0 A (ev (callF fs W n) b) σ H1 _ from ⟨F1, m1, fr, h1, K1.ok, (ev_post (rel := relF0 A.G H1) K1 k1).mono fun u2 H2 ⟨F2, m2, h2, x2, K2, s2, r2, k2⟩ => ⟨u, u2, rfl, ?_⟩⟩)
      obtain ⟨l, D1, vs, rfl, rfl, hD, hm, hF, rl, n0⟩ := r2
      exact k2 F2 m2 _ H2 ((K1.set r1).ownNew (K2.set (r1.mono s2.ge)) hD hm hF n0 rl)
  | true =>
    cases jo with
    | true => cases hio
    | false =>
      refine (show tF0 A (ev (callF fs W n) a) σ H _ from ⟨F, m, fr, h, K.ok, (ev_post (rel := relF0 A.G H) K k).mono fun u H1 ⟨F1, m1, h1, x1, K1, s1, r1, k1⟩ => ?_⟩)
      refine (show tE A (ev (callF fs W n) b) σ H1 _ from ⟨F1, m1, fr, h1, K1.ok, (ev_post (rel := relV A.G) K1 k1).mono fun u2 H2 ⟨F2, m2, h2, x2, K2, s2, r2, k2⟩ => ⟨u, u2, rfl, ?_⟩⟩)
      obtain ⟨l, D1, vs, rfl, rfl, hD, hm, hF, rl, n0⟩ := r1
      obtain ⟨D2, vs2, eD, hD2, rl2, hF2, hm2⟩ := SlotOk.mono s2 (show SlotOk A.G F1 m1 H1 (.own l) (some (.ref D1)) from ⟨D1, vs, rfl, hD, rl, hF, hm⟩)
      cases eD
      exact k2 F2 m2 _ H2 ((K.ownNew K2 hD2 hm2 hF2 n0 rl2).set r2)
end
end PI

set_option Elab.async false
set_option linter.all false
set_option maxRecDepth 100000
set_option maxHeartbeats 4000000
/-! PIs: statements altogether. -/
namespace PI
open PySem PySem.Spec PyProof.Rows L2
section
variable {X : Cx} {A : Ar} {fs : Nat → Option Fn} {W n : Nat} {CX : CXT} {T : Tab}
theorem st_pass {p : Pos} {B : Bs} : PS X (.Pass p) (tSt A B (xs1 (callF fs W n) W .pass)) := ps_pass.imp fun D σ H ⟨F, m, fr, h, K, k⟩ => k F m σ H K
theorem st0 (S : Stb fs W n CX T A X) {s : PI.S} {t : Stmt} (h : chk0 X.N T s X.env.scope t = true) (B : Bs) : PS X t (tSt A B (xs1 (callF fs W n) W s)) := by
  unfold chk0 at h
  split at h
  · simp only [Bool.and_eq_true] at h
    exact st_asg S h.1.1 h.1.2 h.2
  · simp only [Bool.and_eq_true] at h
    exact st_asgo S h.1.1 h.1.2 h.2
  · simp only [Bool.and_eq_true, Bool.not_eq_true'] at h
    obtain ⟨⟨⟨⟨⟨⟨⟨⟨⟨⟨h0, h1⟩, h2⟩, h3⟩, h4⟩, h5⟩, h6⟩, h7⟩, h8⟩, h9⟩, h10⟩ := h
    exact st_par S h0 h1 h2 h3 h4 h5 h6 h7 h8 h9 h10
  · simp only [Bool.and_eq_true, Bool.not_eq_true'] at h
    exact st_unp S h.1.1.1 h.1.1.2 h.1.2 h.2
  · simp only [Bool.and_eq_true] at h
    exact st_pop S h.1.1.1 h.1.1.2 h.1.2 h.2
  · simp only [Bool.and_eq_true, Bool.not_eq_true'] at h
    exact st_app S h.1.1.1.1 h.1.1.1.2 h.1.1.2 h.1.2 h.2
  · simp only [Bool.and_eq_true, Bool.not_eq_true'] at h
    exact st_ext S h.1.1.1.1 h.1.1.1.2 h.1.1.2 h.1.2 h.2
  · simp only [Bool.and_eq_true, Bool.not_eq_true'] at h
    exact st_seti S h.1.1.1.1 h.1.1.1.2 h.1.1.2 h.1.2 h.2
  · exact st_ret S h
  · exact st_retn
  · exact st_reto h
  · exact st_retc S h
  · simp only [Bool.and_eq_true, Bool.not_eq_true'] at h
    exact st_expr S h.1 h.2
  · unfold isPass at h
    split at h
    · exact st_pass
    · exact ps_doc.imp fun D σ H ⟨F, m, fr, h, K, k⟩ => k F m σ H K
    · cases h
  · exact ps_break.imp fun D σ H ⟨F, m, fr, h, K, k⟩ => k F m σ H K
  · exact ps_continue.imp fun D σ H ⟨F, m, fr, h, K, k⟩ => k F m σ H K
  · cases h

/-! ### one behind another -/
def SndS (fs : Nat → Option Fn) (W n : Nat) (CX : CXT) (T : Tab) (s : PI.S) : Prop := ∀ (A : Ar) (X : Cx), Stb fs W n CX T A X → ∀ t : Stmt, chk1 X.N T s X.env.scope t = true → ∀ B, PS X t (tSt A B (xs1 (callF fs W n) W s))
def SndL (fs : Nat → Option Fn) (W n : Nat) (CX : CXT) (T : Tab) (s : List PI.S) : Prop := ∀ (A : Ar) (X : Cx), Stb fs W n CX T A X → ∀ t : List Stmt, chkL X.N T s X.env.scope t = true → ∀ B, PSs X t (tSt A B (xss (callF fs W n) W s))
/-- the rest behind a statement's end -/
theorem post_seq {B : Bs} {D : Ends} {m0 : M Fl} {h0 : Cells} {g : Fr → M Fl} {N : L2.St → Hp → Prop} (k : post A B D (m0.bind (seqF g) h0)) (hN : ∀ fr h F m σ H, Fk A B F m fr h σ H → post A B D (g fr h) → N σ H) : post A B { D with nx := N } (m0 h0) := by
  unfold M.bind at k
  generalize m0 h0 = r at k ⊢
  match r, k with
  | .ok (.nx fr) h, k => exact fun F m σ H K => hN fr h F m σ H K k
  | .ok (.ret v) h, k => exact k
  | .ok (.brk fr) h, k => exact k
  | .ok (.cont fr) h, k => exact k
  | .exc x h, k => exact k
  | .stuck, k => exact k
theorem sndL_nil : SndL fs W n CX T [] := fun A X S t h B => by
  unfold chkL at h
  cases t with
  | nil => exact pss_nil.imp fun D σ H ⟨F, m, fr, h, K, k⟩ => k F m σ H K
  | cons _ _ => simp at h
theorem sndL_cons {s : PI.S} {r : List PI.S} (hs : SndS fs W n CX T s) (hr : SndL fs W n CX T r) : SndL fs W n CX T (s :: r) := fun A X S t h B => by
  unfold chkL at h
  split at h
  · -- no text
    rename_i hz
    cases s <;> simp only [isFrz] at hz <;> try (cases hz; done)
    rename_i i
    refine (hr A X S t h B).imp fun D σ H ⟨F, m, fr, h, K, k⟩ => ?_
    have k2 : post A B D ((((M.opt (ownV fr i)).bind fun v => M.pure (Fl.nx (fr.set i (SV.val v)))).bind (seqF fun fr => xss (callF fs W n) W r fr)) h) := k
    unfold ownV at k2
    cases ef : fr[i]? with
    | none => rw [ef] at k2; exact k2.elim
    | some sv =>
      cases sv with
      | non => rw [ef] at k2; exact k2.elim
      | val _ => rw [ef] at k2; exact k2.elim
      | own xs =>
        rw [ef] at k2
        obtain ⟨a, vs, e1, e2, st, co, rp, K2⟩ := K.frz ef
        exact ⟨_, m, _, h, K2, k2⟩
  · split at h
    · rename_i t ts
      obtain ⟨h1, h2⟩ := Bool.and_eq_true_iff.mp h
      refine (pss_cons (hs A X S t h1 B) (hr A X S ts h2 B)).imp fun D σ H ⟨F, m, fr, h, K, k⟩ => ⟨F, m, fr, h, K, ?_⟩
      exact post_seq (m0 := xs1 (callF fs W n) W s fr) (g := fun fr => xss (callF fs W n) W r fr) k fun fr' h' F' m' σ' H' K' k' => ⟨F', m', fr', h', K', k'⟩
    · cases h
theorem pt_st (S : Stb fs W n CX T A X) {t : E} {c : Expr} (hn : noIf c = true) (h : chk X.N T t X.env.scope c = true) : PT X c (tT A (tst (callF fs W n) t)) := (snd t A X S.e c h).2.1 hn
theorem snd_ifS {t : E} {a b : List PI.S} (ha : SndL fs W n CX T a) (hb : SndL fs W n CX T b) : SndS fs W n CX T (.ife t a b) := fun A X S st h B => by
  unfold chk1 at h
  split at h
  · simp only [Bool.and_eq_true] at h
    obtain ⟨⟨⟨h1, h2⟩, h3⟩, h4⟩ := h
    refine (ps_if (pt_st S h1 h2) (ha A X S _ h3 B) (hb A X S _ h4 B)).imp fun D σ H ⟨F, m, fr, h, K, k⟩ => ⟨F, m, fr, h, K.ok, ?_⟩
    refine (ev_post (rel := relB) K (show post A B D (((tst (callF fs W n) t fr).bind fun c => if c = true then xss (callF fs W n) W a fr else xss (callF fs W n) W b fr) h) from k)).mono fun c H1 ⟨F1, m1, h1, x, K1, s1, r1, k1⟩ => ?_
    have e : x = c := r1
    subst e
    cases x with
    | true => exact ⟨F1, m1, fr, h1, K1, k1⟩
    | false => exact ⟨F1, m1, fr, h1, K1, k1⟩
  · cases h
/-- a loop's body's ends -/
theorem post_loop {B : Bs} {D : Ends} {m0 : M Fl} {h0 : Cells} {g : Fr → M Fl} {N : L2.St → Hp → Prop} (k : post A B D (m0.bind (loopF g) h0)) (hN : ∀ fr h F m σ H, Fk A B F m fr h σ H → post A B D (g fr h) → N σ H) : post A B { D with nx := N, ct := N, bk := D.nx } (m0 h0) := by
  unfold M.bind at k
  generalize m0 h0 = r at k ⊢
  match r, k with
  | .ok (.nx fr) h, k => exact fun F m σ H K => hN fr h F m σ H K k
  | .ok (.ret v) h, k => exact k
  | .ok (.brk fr) h, k => exact k
  | .ok (.cont fr) h, k => exact fun F m σ H K => hN fr h F m σ H K k
  | .exc x h, k => exact k
  | .stuck, k => exact k
theorem snd_while {t : E} {b : List PI.S} (hb : SndL fs W n CX T b) : SndS fs W n CX T (.while t b) := fun A X S st h B => by
  unfold chk1 at h
  split at h
  · simp only [Bool.and_eq_true] at h
    obtain ⟨⟨h1, h2⟩, h3⟩ := h
    refine (ps_while S.po (pt_st S h1 h2) (hb A X S _ h3 B)).imp fun D σ H ⟨F, m, fr, h, K, k⟩ => ?_
    refine ⟨fun q σ H => ∃ F m fr h, Fk A B F m fr h σ H ∧ post A B D (loop (fun fr => tst (callF fs W n) t fr) (fun fr => xss (callF fs W n) W b fr) q fr h), ⟨W, F, m, fr, h, K, k⟩, fun q σ H ⟨F, m, fr, h, K, k⟩ => ?_⟩
    cases q with
    | zero => exact k.elim
    | succ q =>
      refine ⟨F, m, fr, h, K.ok, (ev_post (rel := relB) K (show post A B D (((tst (callF fs W n) t fr).bind fun c => if c = true then (xss (callF fs W n) W b fr).bind (loopF fun fr => loop (fun fr => tst (callF fs W n) t fr) (fun fr => xss (callF fs W n) W b fr) q fr) else M.pure (.nx fr)) h) from k)).mono fun c H1 ⟨F1, m1, h1, x, K1, s1, r1, k1⟩ => ?_⟩
      have e : x = c := r1
      subst e
      cases x with
      | false => exact k1 F1 m1 σ H1 K1
      | true =>
        rw [if_pos rfl]
        refine ⟨_, fun σ' H' hN => ⟨q, Nat.lt_succ_self q, hN⟩, F1, m1, fr, h1, K1, ?_⟩
        exact post_loop (m0 := xss (callF fs W n) W b fr) (g := fun fr => loop (fun fr => tst (callF fs W n) t fr) (fun fr => xss (callF fs W n) W b fr) q fr) k1 fun fr' h' F' m' σ' H' K' k' => ⟨F', m', fr', h', K', k'⟩
  · cases h
theorem snd_for {tg : Tg} {kd : Sk} {src : List E} {b : List PI.S} (hb : SndL fs W n CX T b) : SndS fs W n CX T (.for tg kd src b) := fun A X S st h B => by
  unfold chk1 at h
  split at h
  · rename_i te it xs _
    obtain ⟨hw, hx⟩ := Bool.and_eq_true_iff.mp h
    unfold walkF at hw
    split at hw
    · rename_i ys hy
      simp only [Bool.and_eq_true] at hw
      obtain ⟨⟨hp, hs⟩, ht⟩ := hw
      have pi := pi_ok (tg := te) (opnS A.G) (oplS (Φ := callF fs W n) src) S.e hy (by rw [List.map_map]; exact pes_of S.e src (snds src) ys hs) fun hk => tgt_tuple ht hp hk
      -- the body is read from any start: the walk's own is one
      have hbody : PSs X xs (fun D σ H => ∃ B1, tSt A B1 (xss (callF fs W n) W b) D σ H) := ⟨fun pins s σ H D I ⟨B1, k⟩ => (hb A X S xs hx B1).run pins s σ H D I k⟩
      refine (ps_for S.po S.e.calm pi (pg_tg (c := true) S.e.nd S.e.calm (fun _ => S.fn) ht) hbody (walk_set hy)).imp fun D σ H ⟨F, m, fr, h, K, k⟩ => ?_
      have k : post A B D ((((evs (callF fs W n) src fr).bind fun vs => M.opt (walk kd vs)).bind fun items => forl tg (fun fr => xss (callF fs W n) W b fr) items fr) h) := by
        rw [M.assoc]
        exact k
      refine ⟨F, m, fr, h, K.ok, (ev_post (rel := relW mwS A.G) K k).mono fun J H1 ⟨F1, m1, h1, items, K1, s1, wk, k1⟩ => ?_⟩
      refine ⟨fun i q σ H => q = items.length - i ∧ i ≤ items.length ∧ ∃ F m fr h, Fk A (B.at F1 m1) F m fr h σ H ∧ post A (B.at F1 m1) D (forl tg (fun fr => xss (callF fs W n) W b fr) (items.drop i) fr h), ⟨_, rfl, Nat.zero_le _, F1, m1, fr, h1, K1.from, post_at K1.ge k1⟩, ?_⟩
      rintro i q σ H2 ⟨rfl, hi, F2, m2, fr2, h2, K2, k2⟩
      have wi := wk i F2 m2 h2 H2 K2.ge K2.ok.core
      by_cases hlt : i < items.length
      · rw [List.drop_eq_getElem_cons hlt] at k2
        have ez : items[i]? = some items[i] := List.getElem?_eq_getElem hlt
        generalize items[i] = z at k2 ez
        obtain ⟨go, yl⟩ := wi.2 z ez
        refine .inr ⟨go, _, fun σ' H' hN => ⟨_, ?_, rfl, hlt, hN⟩, fun x H3 hy => ?_⟩
        · omega
        · obtain ⟨F3, s3, c3, r3⟩ := yl x H3 hy
          have K3 := K2.step s3 c3
          have k3 : post A (B.at F1 m1) D (((M.opt (store tg z fr2)).bind fun fr => (xss (callF fs W n) W b fr).bind (loopF fun fr => forl tg (fun fr => xss (callF fs W n) W b fr) (items.drop (i + 1)) fr)) h2) := k2
          cases est : store tg z fr2 with
          | none => rw [est] at k3; exact k3.elim
          | some fr3 =>
            rw [est] at k3
            refine store_fk S.e.hG K3 est r3 fun σ4 K4 => ⟨B.at F1 m1, F3, m2, fr3, h2, K4, ?_⟩
            exact post_loop (m0 := xss (callF fs W n) W b fr3) (g := fun fr => forl tg (fun fr => xss (callF fs W n) W b fr) (items.drop (i + 1)) fr) k3 fun fr' h' F' m' σ' H' K' k' => ⟨F', m', fr', h', K', k'⟩
      · have hie : i = items.length := by omega
        subst hie
        rw [List.drop_length] at k2
        exact .inl ⟨wi.1 (Nat.le_refl _), k2 F2 m2 σ H2 K2⟩
    · cases hw
  · cases h
theorem snd0 {s : PI.S} (h : ∀ (N : List Str) (T : Tab) (sc : Scope) (t : Stmt), chk1 N T s sc t = chk0 N T s sc t) : SndS fs W n CX T s := fun A X S t hc B => st0 S (by rw [← h]; exact hc) B
mutual
/-- each statement of the evaluator does what its text does -/
theorem sndS : ∀ s : PI.S, SndS fs W n CX T s
  | .ife t a b => snd_ifS (sndL a) (sndL b)
  | .while t b => snd_while (sndL b)
  | .for tg k src b => snd_for (sndL b)
  | .asg _ _ => snd0 fun _ _ _ _ => rfl
  | .asgo _ _ => snd0 fun _ _ _ _ => rfl
  | .par _ _ _ _ _ _ => snd0 fun _ _ _ _ => rfl
  | .unp _ _ => snd0 fun _ _ _ _ => rfl
  | .pop _ _ => snd0 fun _ _ _ _ => rfl
  | .app _ _ => snd0 fun _ _ _ _ => rfl
  | .ext _ _ => snd0 fun _ _ _ _ => rfl
  | .seti _ _ _ => snd0 fun _ _ _ _ => rfl
  | .ret _ => snd0 fun _ _ _ _ => rfl
  | .retn => snd0 fun _ _ _ _ => rfl
  | .reto _ => snd0 fun _ _ _ _ => rfl
  | .retc _ => snd0 fun _ _ _ _ => rfl
  | .expr _ => snd0 fun _ _ _ _ => rfl
  | .pass => snd0 fun _ _ _ _ => rfl
  | .brk => snd0 fun _ _ _ _ => rfl
  | .cont => snd0 fun _ _ _ _ => rfl
  | .frz _ => snd0 fun _ _ _ _ => rfl
termination_by structural s => s
theorem sndL : ∀ l : List PI.S, SndL fs W n CX T l
  | [] => sndL_nil
  | s :: r => sndL_cons (sndS s) (sndL r)
termination_by structural l => l
end
end
end PI

set_option Elab.async false
set_option linter.all false
set_option maxRecDepth 100000
set_option maxHeartbeats 4000000
/-! PIt: defs. -/
namespace PI
open PySem PySem.Spec PyProof.Rows L2
/-- a def's names and body are the evaluator's -/
def chkF (T : Tab) (N ps : List Str) (f : Fn) (sc : Scope) (body : List Stmt) : Bool := (f.args == ps.length) && (f.names == N.length) && chkL N T f.body sc body
section
variable {P : Program} {w : World} {K : PySem.W.Frag} {mg : Str → Option Value} {base : Heap} {G : Gi} {xi : XI} {fs : Nat → Option Fn} {W n : Nat} {T : Tab}
/-- how exceptions come out of a def's body -/
structure CxP (CX : CXT) (P : Program) (w : World) (K : PySem.W.Frag) (mg : Str → Option Value) (base : Heap) : Prop where
  pass : ∀ (N : List Str) (qual : Str) (scope : Scope) (f : Addr) (cdv : Value) (A : Around) (outer : List Env) (s : Shared) (H : Hp) (E : XK) (σ : L2.St), PassesAt CX (cxOf CX P w K mg base N qual scope f cdv A outer s H E) σ (WE (fun c d _ H => E c d H) σ)
  nox : ∀ (st : List Env) (H : Hp) (s : Shared) (e : Value) (s' : Shared), CX st H s (fun _ _ _ => False) e s' → False
/-- no exceptions -/
def cxNo : CXT := fun _ _ _ _ _ _ => False
theorem cxp0 : CxP cxNo P w K mg base := ⟨fun _ _ _ _ _ _ _ _ _ _ _ _ _ _ _ _ _ h => h.elim, fun _ _ _ _ _ h => h.elim⟩
theorem cxp1 : CxP (L2.CX P w) P w K mg base := ⟨fun N qual scope f cdv A outer s H E σ => passAt (X := cxOf (L2.CX P w) P w K mg base N qual scope f cdv A outer s H E) (takes_of rfl rfl rfl rfl) σ, fun st H s e s' ⟨_, _, _, _, _, _, _, _, _, _, _, _, q⟩ => q⟩
/-- what the text's names stand for, at a depth -/
def TabOk (CX : CXT) (P : Program) (w : World) (K : PySem.W.Frag) (mg : Str → Option Value) (base : Heap) (G : Gi) (xi : XI) (fs : Nat → Option Fn) (W n : Nat) (T : Tab) : Prop := ∀ x g, (x, g) ∈ T → (match g with
  | .blt => mg x = none
  | .con v => ∃ vv u, mg x = some u ∧ RelV vv u ∧ ∀ F m, Rp G F m v vv
  | .kw i k ks pm => ∃ fd ps g gV, mg x = some (.ref (G.fa i)) ∧ PySem.W.keepIn K (.ref (G.fa i)) = true ∧ KBn K fd ps k ks g gV ∧ FnG P w K mg base CX n (G.fa i) fd ps (spF G xi fs W n i) ∧
    ∀ (F : Hp) (m : List Addr) (xs rs : List IV) (vs zs : List V), RpL G F m xs (vs ++ zs) → vs.length = k → zs.length = ks.length → permV pm xs = some rs → RpL G F m rs (gV vs zs)
  | .fn i k => ∃ fd ps, mg x = some (.ref (G.fa i)) ∧ PySem.W.keepIn K (.ref (G.fa i)) = true ∧ ps.length = k ∧ Binds K fd ps [] ∧ FnG P w K mg base CX n (G.fa i) fd ps (spF G xi fs W n i))
theorem enter_get {f : Fn} {xs : List IV} {vs : List V} {N : List Str} (hl : vs.length = xs.length) (hN : f.names = N.length) (hx : xs.length ≤ N.length) : (enter f xs).length = (L2.start N vs).length ∧
    ∀ (i : Nat) (s : SV) (v : Option V), (enter f xs)[i]? = some s → (L2.start N vs)[i]? = some v → s = SV.non ∨ ∃ x u, s = SV.val x ∧ v = some u ∧ xs[i]? = some x ∧ vs[i]? = some u := by
  unfold enter L2.start
  refine ⟨by simp; omega, fun i s v e1 e2 => ?_⟩
  by_cases hi : i < xs.length
  · rw [List.getElem?_append_left (by simpa using hi), List.getElem?_map] at e1
    rw [List.getElem?_append_left (by simp; omega), List.getElem?_map] at e2
    obtain ⟨x, ex, rfl⟩ := Option.map_eq_some_iff.mp e1
    obtain ⟨u, eu, rfl⟩ := Option.map_eq_some_iff.mp e2
    exact .inr ⟨x, u, rfl, rfl, ex, eu⟩
  · rw [List.getElem?_append_right (by simp; omega)] at e1
    rw [List.getElem?_replicate] at e1
    split at e1
    · cases e1; exact .inl rfl
    · cases e1
/-- a def of the text by its body -/
theorem fn_G {CX : CXT} {k : Nat} {x qual : Str} {params : Arguments} {body : List Stmt} {scope : Scope} {dvs : List V} {kws : List (Str × V)} {f : Addr} {fd : FuncData} {N ps : List Str} {sp : Sp} (FD : FunD K x qual params body scope dvs kws f fd) (hS : FnScope N ps scope) (len : ∀ vs H Q E, sp vs H Q E → vs.length = ps.length)
    (hb : ∀ (cdv : Value) (A : Around) (outer : List Env) (s : Shared) (H : Hp) (vs : List V) (Q : VK) (E : XK), Room k (A.deeper (envOfC qual scope s.heap.objs.size f cdv)) → A.guards = some [] → sp vs H Q E →
      ∃ t, PSs (cxOf CX P w K mg base N qual scope f cdv A outer s H E) body t ∧ t { nx := fun _ H' => Q .non H', rt := Q } (L2.start N vs) H) : FnG P w K mg base CX (k + 1) f fd ps sp := by
  obtain ⟨oc, od, dV, kV, doc, pm, an, cdv, ct, osl, rfl, lk, hcd, _, _⟩ := FD.ex
  refine ⟨len, ?_⟩
  intro A outer s H args us vs Q E room gd env0 binds vals promise
  have hlen := len _ _ _ _ promise
  have keeps : ∀ b o, base.get? b = some o → s.heap.get? b = some o := fun b o e => (env0.bs b o e).1
  have kin : K.In s.heap := env0.mod.kin.keeps keeps
  have names : ∀ y ∈ ps.zip us, scope.names.lookup y.1 = some .local ∨ (scope.names.lookup y.1 = some .cell ∧ ((cellsFrom (s.heap.objs.size + 1) scope.names []).lookup y.1).isSome = true) := by
    rintro ⟨n, v⟩ hy
    exact (hS.par n (List.of_mem_zip hy).1).imp id fun q => ⟨q, PySem.W.cellsFrom_some _ _ _ (.inl q)⟩
  refine codeAny_call_function room.depth (kin _ _ lk) rfl hS.co hS.gen rfl (PySem.W.codeRec_of kin hcd) (binds _ _ _ _ ?_)
  apply wpAny_newFunctionEnv_cells hS.kind names
  intro env he s1 ic
  subst he
  refine ⟨(env0.mod.nolimit.keeps keeps).keeps ic.toInCall.keep, codeAny_func ?_⟩
  obtain ⟨t, ht, hq⟩ := hb cdv A outer s H vs Q E (room.deeper _) gd promise
  have I := inv_start (CX := CX) (E := E) (qual := qual) (f := f) (cd := cdv) hS room.hd env0 hlen vals ic
  refine wpAny_mono (ht.run [] s1 (L2.start N vs) H _ I hq) ?_ fun e s' z => z
  rintro fl s' hs
  cases fl with
  | ret u =>
    obtain ⟨v, σ', H', J, rv, q⟩ := hs
    exact ⟨v, H', J.os, J.bare, J.base, J.hok, rv, q⟩
  | next =>
    obtain ⟨σ', H', J, q⟩ := hs
    exact ⟨V.non, H', J.os, J.bare, J.base, J.hok, rfl, q⟩
  | brk =>
    obtain ⟨_, _, _, q⟩ := hs
    exact q.elim
  | cont =>
    obtain ⟨_, _, _, q⟩ := hs
    exact q.elim
theorem fn_ok {CX : CXT} {x qual : Str} {params : Arguments} {body : List Stmt} {scope : Scope} {dvs : List V} {kws : List (Str × V)} {fd : FuncData} {N ps : List Str} {i : Nat} {f : Fn} (hG : G.K = K) (FD : FunD K x qual params body scope dvs kws (G.fa i) fd) (hS : FnScope N ps scope) (hf : fs i = some f)
    (hc : chkF T N ps f scope body = true) (C : CxP CX P w K mg base) (ht : TabOk CX P w K mg base G xi fs W n T) : FnG P w K mg base CX (n + 1) (G.fa i) fd ps (spF G xi fs W (n + 1) i) := by
  unfold chkF at hc
  simp only [Bool.and_eq_true, beq_iff_eq] at hc
  obtain ⟨⟨ha, hN⟩, hb⟩ := hc
  have hpl : ps.length ≤ N.length := by have := congrArg List.length hS.pre; rw [List.length_take] at this; omega
  have open1 : ∀ {F : Hp} {m : List Addr} {h : Cells} {H : Hp} {xs : List IV} {Q : VK} {E : XK}, tP ⟨G, xi, fun c d _ H => E c d H⟩ (relV G) (callF fs W (n + 1) i xs) F m h [] H Q → xs.length = f.args ∧ tP ⟨G, xi, fun c d _ H => E c d H⟩ (relV G) ((xss (callF fs W n) W f.body (enter f xs)).bind finF) F m h [] H Q := fun {F m h H xs Q E} k => by
    have e : callF fs W (n + 1) i xs = runF (callF fs W n) W f xs := by
      show (match fs i with
        | some d => runF (callF fs W n) W d xs
        | none => M.stuck) = _
      rw [hf]
    rw [e] at k
    unfold runF at k
    split at k
    · rename_i hl
      exact ⟨hl, k⟩
    · exact k.elim
  refine fn_G FD hS (fun vs H Q E ⟨F, m, h, xs, c, r, k⟩ => by rw [r.1, (open1 k).1, ha]) fun cdv A outer s H vs Q E hr gd ⟨F, m, h, xs, c, r, k⟩ => ?_
  obtain ⟨hl, k⟩ := open1 k
  have S : Stb fs W n CX T ⟨G, xi, fun c d _ H => E c d H⟩ (cxOf CX P w K mg base N qual scope (G.fa i) cdv A outer s H E) := by
    refine ⟨⟨hG, hr, gd, rfl, hS.nd, fun x g hx => ?_, fun σ => C.pass _ _ _ _ _ _ _ _ _ _ σ, C.nox⟩, fun _ => rfl, passes_of rfl, hS.kind⟩
    have := ht x g hx
    cases g <;> exact this
  refine ⟨_, sndL f.body _ _ S body hb ⟨F, m, H, F, m⟩, F, m, enter f xs, h, ?_, ?_⟩
  · obtain ⟨l1, l2⟩ := enter_get (f := f) r.1 hN (by omega)
    refine ⟨⟨c, l1, fun j s v e1 e2 => ?_, fun j l ys zs a hjl e1 e2 e3 e4 => ?_⟩, .refl, fun j ys a e1 e2 => ?_, .refl⟩
    · rcases l2 j s v e1 e2 with rfl | ⟨x, u, rfl, rfl, ex, eu⟩
      · trivial
      · exact ⟨u, rfl, r.2 j x u ex eu⟩
    · rcases l2 j _ _ e1 e3 with e | ⟨x, u, e, _⟩ <;> cases e
    · rcases l2 j _ _ e1 e2 with e | ⟨x, u, e, _⟩ <;> cases e
  · unfold tP M.bind at k
    generalize xss (callF fs W n) W f.body (enter f xs) h = res at k ⊢
    match res, k with
    | .ok (.nx fr) h', k => exact fun F' m' σ' H' K' => k F' m' H' .non K'.st K'.ok.core .non
    | .ok (.ret v) h', k => exact fun F' m' H' u st co r => k F' m' H' u st co r
    | .ok (.brk fr) h', k => exact k.elim
    | .ok (.cont fr) h', k => exact k.elim
    | .exc x h', k => exact fun F' m' H' c d σ st co q => k F' m' H' c d st co q
    | .stuck, k => exact k
/-- one def of the text -/
def DefOk (K : PySem.W.Frag) (mg : Str → Option Value) (G : Gi) (fs : Nat → Option Fn) (T : Tab) (x : Str) (i : Nat) (fd : FuncData) (ps : List Str) : Prop := ∃ (y qual : Str) (params : Arguments) (body : List Stmt) (scope : Scope) (dvs : List V) (kws : List (Str × V)) (N : List Str) (f : Fn),
  FunD K y qual params body scope dvs kws (G.fa i) fd ∧ FnScope N ps scope ∧ fs i = some f ∧ chkF T N ps f scope body = true ∧ mg x = some (.ref (G.fa i))
/-- what a name of the text is, but for the promises -/
def NameOk (K : PySem.W.Frag) (mg : Str → Option Value) (G : Gi) (fs : Nat → Option Fn) (T : Tab) (x : Str) : Gk → Prop
  | .blt => mg x = none
  | .con v => ∃ vv u, mg x = some u ∧ RelV vv u ∧ ∀ F m, Rp G F m v vv
  | .kw i k ks pm => ∃ fd ps g gV, DefOk K mg G fs T x i fd ps ∧ KBn K fd ps k ks g gV ∧ ∀ (F : Hp) (m : List Addr) (xs rs : List IV) (vs zs : List V), RpL G F m xs (vs ++ zs) → vs.length = k → zs.length = ks.length → permV pm xs = some rs → RpL G F m rs (gV vs zs)
  | .fn i k => ∃ fd ps, DefOk K mg G fs T x i fd ps ∧ ps.length = k ∧ Binds K fd ps []
theorem fn_0 {CX : CXT} {fd : FuncData} {ps : List Str} {i : Nat} : FnG P w K mg base CX 0 (G.fa i) fd ps (spF G xi fs W 0 i) := ⟨fun vs H Q E ⟨F, m, h, xs, c, r, k⟩ => k.elim, fun A outer s H args us vs Q E _ _ _ _ _ ⟨F, m, h, xs, c, r, k⟩ => k.elim⟩
/-- the text's names, at each depth -/
theorem tab_all {CX : CXT} (hG : G.K = K) (C : CxP CX P w K mg base) (hn : ∀ x g, (x, g) ∈ T → NameOk K mg G fs T x g) : ∀ n, TabOk CX P w K mg base G xi fs W n T
  | 0 => fun x g hx => by
    have h := hn x g hx
    cases g with
    | blt => exact h
    | con v => exact h
    | kw i k ks pm =>
      obtain ⟨fd, ps, g, gV, ⟨_, _, _, _, _, _, _, _, _, FD, _, _, _, hm⟩, hb, hp⟩ := h
      exact ⟨fd, ps, g, gV, hm, FD.kp, hb, fn_0, hp⟩
    | fn i k =>
      obtain ⟨fd, ps, ⟨_, _, _, _, _, _, _, _, _, FD, _, _, _, hm⟩, hl, hB⟩ := h
      exact ⟨fd, ps, hm, FD.kp, hl, hB, fn_0⟩
  | n + 1 => fun x g hx => by
    have ih := tab_all hG C hn n
    have h := hn x g hx
    cases g with
    | blt => exact h
    | con v => exact h
    | kw i k ks pm =>
      obtain ⟨fd, ps, g, gV, ⟨_, _, _, _, _, _, _, _, _, FD, hS, hf, hk, hm⟩, hb, hp⟩ := h
      exact ⟨fd, ps, g, gV, hm, FD.kp, hb, fn_ok hG FD hS hf hk C ih, hp⟩
    | fn i k =>
      obtain ⟨fd, ps, ⟨_, _, _, _, _, _, _, _, _, FD, hS, hf, hk, hm⟩, hl, hB⟩ := h
      exact ⟨fd, ps, hm, FD.kp, hl, hB, fn_ok hG FD hS hf hk C ih⟩
/-- the law's def at a script: a run of the evaluator that ends in True -/
theorem spF_law {i : Nat} {H : Hp} {a : Addr} {ns : List Int} (hG : G.K = K) (hO : Only H) (hS : SqL K H a (ns.map V.int)) {h' : Cells} (e : callF fs W n i [.scr ns] [] = .ok (.bl true) h') : spF G xi fs W n i [.ref a] H (fun v _ => v = .bl true) fun _ _ _ => False := by
  refine ⟨H, [], [], [.scr ns], ⟨fun _ _ e => e, by simp, rfl, fun i a c e => by simp at e⟩, .cons (.scr (by rw [hG]; exact hS)) .nil, ?_⟩
  refine tP_ok e fun F' m' H' v s c r => ?_
  cases r
  rfl
end
end PI

set_option Elab.async false
set_option linter.all false
set_option maxRecDepth 100000
set_option maxHeartbeats 4000000
/-! PIu: from the head's facts to the names of the text. -/
namespace PI
open PySem PySem.Spec PyProof.Rows L2
/-- parts of a list in another order -/
def permL {α : Type} : List Nat → List α → List α
  | [], _ => []
  | i :: r, l => (match l[i]? with
    | some x => x :: permL r l
    | none => permL r l)
theorem perm_vals {vs : List V} {us : List Value} (h : Vals vs us) : ∀ is : List Nat, Vals (permL is vs) (permL is us)
  | [] => .nil
  | i :: r => by
    unfold permL
    cases e : vs[i]? with
    | none =>
      rw [h.none_of e]
      exact perm_vals h r
    | some x =>
      obtain ⟨u, e2, rv⟩ := h.get e
      rw [e2]
      exact .cons rv (perm_vals h r)
theorem perm_rpl {G : Gi} {F : Hp} {m : List Addr} {xs : List IV} {vs : List V} (h : RpL G F m xs vs) : ∀ (is : List Nat) (rs : List IV), permV (is.map Sum.inl) xs = some rs → RpL G F m rs (permL is vs)
  | [], rs, e => by cases e; exact .nil
  | i :: r, rs, e => by
    have e : ((xs[i]?).bind fun v => (permV (r.map Sum.inl) xs).map fun l => v :: l) = some rs := e
    obtain ⟨x, e1, e2⟩ := Option.bind_eq_some_iff.mp e
    obtain ⟨l, e3, rfl⟩ := Option.map_eq_some_iff.mp e2
    obtain ⟨v, e4, rv⟩ := h.get e1
    unfold permL
    rw [e4]
    exact .cons rv (perm_rpl h r l e3)
section
variable {K : PySem.W.Frag} {mg : Str → Option Value} {G : Gi} {fs : Nat → Option Fn} {T : Tab} {h : Heap}
theorem kbn_of {x qual : Str} {params : Arguments} {body : List Stmt} {scope : Scope} {f : Addr} {fd : FuncData} {ps ks : List Str} {n : Nat} (is : List Nat) (F : FunD K x qual params body scope [] [] f fd)
    (hb : ∀ (kV doc pm : Value) (an : Option Addr) (cdv ct : Value) (us ws : List Value), us.length = n → ws.length = ks.length → bindArgs (PySem.W.fnOf x qual params body scope .none kV doc pm an cdv ct) ⟨us, ks.zip ws⟩ = pure (ps.zip (permL is (us ++ ws)))) :
    KBn K fd ps n ks (fun us ws => permL is (us ++ ws)) (fun vs zs => permL is (vs ++ zs)) := by
  obtain ⟨oc, od, dV, kV, doc, pm, an, cdv, ct, osl, rfl, lk, hcd, hD, hK⟩ := F.ex
  rcases hD with ⟨_, rfl⟩ | ⟨e, _⟩
  · exact ⟨fun s us ws _ l1 l2 => BindsTo.of_eq (hb kV doc pm an cdv ct us ws l1 l2), fun r1 r2 => perm_vals (r1.append r2) is⟩
  · exact absurd rfl e
theorem name_kw {x : Str} {i n : Nat} {ks ps : List Str} {fd : FuncData} (is : List Nat) {pm : List (Sum Nat IV)} (hp : pm = is.map Sum.inl) (d : DefOk K mg G fs T x i fd ps) (hb : KBn K fd ps n ks (fun us ws => permL is (us ++ ws)) (fun vs zs => permL is (vs ++ zs))) : NameOk K mg G fs T x (.kw i n ks pm) :=
  ⟨fd, ps, _, _, d, hb, fun F m xs rs vs zs r _ _ e => perm_rpl r is rs (by rw [← hp]; exact e)⟩
theorem name_fn {x : Str} {i k : Nat} {fd : FuncData} {ps : List Str} (d : DefOk K mg G fs T x i fd ps) (hl : ps.length = k) (hb : Binds K fd ps []) : NameOk K mg G fs T x (.fn i k) := ⟨fd, ps, d, hl, hb⟩
theorem name_int (X : K.In h) (N : h.Ns mainGlobals mg) {x : Str} {i : Int} (c : (He.Fa.int x i).ok K = true) : NameOk K mg G fs T x (.con (.int i)) := by
  obtain ⟨t, e⟩ := He.int_ok X N c
  exact ⟨.int i, _, e, ⟨t, rfl⟩, fun _ _ => .int i⟩
theorem name_str (X : K.In h) (N : h.Ns mainGlobals mg) {x z : Str} {s : List Nat} (hz : z.cps.toList = s) (c : (He.Fa.str x z).ok K = true) : NameOk K mg G fs T x (.con (.str s)) := by
  obtain ⟨t, e⟩ := He.str_ok X N c
  refine ⟨.str z, _, e, ⟨t, rfl⟩, fun _ _ => ?_⟩
  have : tx s = z := by rw [← hz]; exact tx_of z
  rw [← this]
  exact .str s
theorem name_blt (X : K.In h) (N : h.Ns mainGlobals mg) {x : Str} (c : (He.Fa.free x).ok K = true) : NameOk K mg G fs T x .blt := He.free_ok X N c
end
/-- no exceptions: the law's end -/
theorem cxNo_end : ∀ (H : Hp) (s : Shared) (e : Value) (s' : Shared), cxNo [] H s (fun _ _ _ => False) e s' → False := fun _ _ _ _ h => h.elim
end PI

set_option Elab.async false
set_option linter.all false
set_option maxRecDepth 100000
set_option maxHeartbeats 4000000
/-! PIw: the law's end, where the guards are known. -/
namespace PI
open PySem PySem.Spec PyProof.Rows L2
/-- what is tracked at the law's beginning: the script, unless it is the module's own -/
def scrH (K : PySem.W.Frag) (a : Addr) (vs : List Value) (ns : List Int) : Hp := fun b => if b = a ∧ K.lookup a = none then some (.frz { cls := .type "list", data := .seq vs.toArray } (.lst (ns.map V.int))) else none
section
variable {P : Program} {w : World} {K : PySem.W.Frag} {a : Addr} {vs : List Value} {ns : List Int} {s₁ : Shared}
theorem scrH_other {b : Addr} (h : b ≠ a) : scrH K a vs ns b = none := if_neg fun q => h q.1
theorem scrH_cases : scrH K a vs ns a = none ∨ (K.lookup a = none ∧ scrH K a vs ns a = some (.frz { cls := .type "list", data := .seq vs.toArray } (.lst (ns.map V.int)))) := by
  by_cases q : K.lookup a = none
  · exact .inr ⟨q, if_pos ⟨rfl, q⟩⟩
  · exact .inl (if_neg fun z => q z.2)
theorem scrH_some {b : Addr} {u : HO} (h : scrH K a vs ns b = some u) : b = a ∧ K.lookup a = none ∧ u = .frz { cls := .type "list", data := .seq vs.toArray } (.lst (ns.map V.int)) := by
  unfold scrH at h
  split at h
  · rename_i q
    cases h
    exact ⟨q.1, q.2, rfl⟩
  · cases h
theorem scrH_only : Only (scrH K a vs ns) := fun b => by
  cases e : scrH K a vs ns b with
  | none => exact .inl rfl
  | some u =>
    obtain ⟨_, _, rfl⟩ := scrH_some e
    exact .inr ⟨_, _, rfl⟩
theorem lawG {mg mb : Str → Option Value} {CX : CXT} {k : Nat} {fa : Addr} {fd : FuncData} {x : Str} {sp : Sp} (KX : K.In s₁.heap) (hns : s₁.heap.Ns mainGlobals mg) (hb : s₁.heap.Ns builtinsNs mb) (hbb : ∀ x : Str, x ≠ "__name__" → mb x = bootBuiltins x) (hlim : s₁.heap.NoLimit) (hg : s₁.gens = #[])
    (ha : s₁.heap.get? a = some { cls := .type "list", data := .seq vs.toArray }) (hi : IntsAre vs ns) (hl : ns.length ≤ sizeLine) (hr : Room k callerA) (F : ∀ base : Heap, K.In base → base.Ns mainGlobals mg → FnG P w K mg base CX k fa fd [x] sp)
    (bind : ∀ (s : Shared) (u : Value), BindsTo s fd ⟨[u], []⟩ [(x, u)]) (want : ∀ H : Hp, Only H → SqL K H a (ns.map V.int) → sp [.ref a] H (fun v _ => v = .bl true) fun _ _ _ => False) (calm : ∀ H e s', CX [] H s₁ (fun _ _ _ => False) e s' → False) :
    codeAny (model P w) callerA (.call (.ref fa) ⟨[.ref a], []⟩) (fun r s' => r = .ok (.ret (.bool true)) ∧ OldK s₁.heap s'.heap ∧ s'.os = s₁.os ∧ AllBare s'.gens) s₁ := by
  have rints : Vals (ns.map V.int) vs := vals_ints hi
  have lens : vs.length = ns.length := hi.length
  -- the heap as it is told
  have told : HOk P w (scrH K a vs ns) s₁.heap := by
    intro b u e
    obtain ⟨rfl, _, rfl⟩ := scrH_some e
    exact ⟨ha, by rw [List.length_map]; exact hl, vs, _, rints, ha⟩
  have script : SqL K (scrH K a vs ns) a (ns.map V.int) := by
    rcases (scrH_cases : scrH K a vs ns a = none ∨ _) with e | ⟨_, e⟩
    · right
      cases q : K.lookup a with
      | none =>
        exfalso
        have : scrH K a vs ns a = some _ := if_pos ⟨rfl, q⟩
        rw [e] at this; cases this
      | some o =>
        have e2 := KX a o q
        rw [ha] at e2
        cases e2
        exact ⟨_, vs.toArray, _, rfl, rfl, rfl, rfl, by rw [List.size_toArray, lens]; exact hl, by simpa using rints⟩
    · exact .inl (.inr ⟨_, e⟩)
  -- what the base has
  have seen : ∀ {b : Addr} {o : Obj}, s₁.heap.get? b = some o → scrH K a vs ns b = none → (hidT s₁.heap (scrH K a vs ns)).get? b = some o := fun e n => hidT_get e n
  have dicts : ∀ {b : Addr} {o : Obj} {es : Array DictEntry} {ep : Nat}, s₁.heap.get? b = some o → o.data = .dict es ep → scrH K a vs ns b = none := by
    intro b o es ep e d
    by_cases q : b = a
    · subst q
      rw [ha] at e
      cases e
      cases d
    · exact scrH_other q
  have spaces : ∀ {b : Addr} {m : Str → Option Value}, s₁.heap.Ns b m → (hidT s₁.heap (scrH K a vs ns)).Ns b m := by
    rintro b m ⟨o, es, ep, e, d, r⟩
    exact ⟨o, es, ep, seen e (dicts e d), d, r⟩
  have inBase : K.In (hidT s₁.heap (scrH K a vs ns)) := by
    intro b o e
    refine seen (KX b o e) ?_
    by_cases q : b = a
    · subst q
      exact if_neg fun z => by rw [z.2] at e; cases e
    · exact scrH_other q
  have md : Mod K mg (hidT s₁.heap (scrH K a vs ns)) := by
    refine ⟨inBase, spaces hns, ⟨mb, spaces hb, hbb⟩, ?_⟩
    obtain ⟨mc, h1, h2⟩ := hlim
    exact ⟨mc, spaces h1, h2⟩
  have env0 : Env0 P w K mg (hidT s₁.heap (scrH K a vs ns)) callerA [] s₁ (scrH K a vs ns) := by
    refine ⟨rfl, md, fun b o e => of_hidT e, Nat.le_of_eq (hidT_size _ _), trivial, ?_, told, .of_eq hg⟩
    intro b z
    cases z
  have go := (F _ inBase (spaces hns)).run callerA [] s₁ (scrH K a vs ns) ⟨[.ref a], []⟩ [.ref a] [.ref a] _ _ hr rfl env0 (bind s₁ (.ref a)) (.cons rfl .nil) (want _ scrH_only script)
  refine codeAny_mono go ?_
  rintro (e | fl) s' h
  · exact (calm _ e s' h).elim
  · cases fl with
    | next => exact False.elim h
    | brk => exact False.elim h
    | cont => exact False.elim h
    | ret u =>
      obtain ⟨v, H', os, bare, un, hok', r, q⟩ := h
      have q : v = .bl true := q
      subst q
      have r : u = Value.bool true := r
      subst r
      refine ⟨rfl, OldK.of_keep ?_, os, bare⟩
      intro b o e
      cases z : scrH K a vs ns b with
      | none => exact un.keep b o e z (fun y => nomatch (show b ∈ ([] : List Addr) from y)) (by simp)
      | some u =>
        obtain ⟨rfl, _, rfl⟩ := scrH_some z
        have kept := un.frzs b _ _ z
        obtain ⟨e2, _⟩ := hok' b _ kept
        rw [ha] at e
        cases e
        exact e2
end
/-- a law, over a head by facts -/
theorem walkG {l : PySem.W.OpenLaw} {n k : Nat} {q : Program} {loose : List Str} {XP : (Str → Option Value) → Heap → Prop} {YP : World → Heap → Prop} {d : DefRec} {CX : World → CXT} {x : Str} (hn : l.most = some n) (hn2 : n ≤ sizeLine) (hdf : d.params.defaults = []) (hr : Room k callerA)
    (F : ∀ (w : World) (mg : Str → Option Value) (fa : Addr) (h : Heap), YP w h → h.Ns mainGlobals mg → mg d.name = some (.ref fa) → ∃ (K : PySem.W.Frag) (fd : FuncData) (sp : Sp), K.In h ∧ (∀ (s : Shared) (u : Value), BindsTo s fd ⟨[u], []⟩ [(x, u)]) ∧
      (∀ (H : Hp) (a : Addr) (ns : List Int), ns.length ≤ n → Only H → SqL K H a (ns.map V.int) → sp [.ref a] H (fun v _ => v = .bl true) fun _ _ _ => False) ∧ ∀ base : Heap, K.In base → base.Ns mainGlobals mg → FnG l.prog w K mg base (CX w) k fa fd [x] sp)
    (calm : ∀ (w : World) (H : Hp) (s : Shared) (e : Value) (s' : Shared), CX w [] H s (fun _ _ _ => False) e s' → False) : PySem.W.WalkO q loose XP YP l.row.toRowW d [] (fun f vs => PySem.call f vs) := by
  refine Att.attach_call hn hdf ?_
  intro w s₀ s₁ mg mb fa o pm cd doc a vs ns G Y ho hd hcd hmg hobj hints hlen hgens
  obtain ⟨K, fd, sp, kin, bind, want, fn⟩ := F w mg fa _ Y G.T.g hmg
  exact lawG kin G.T.g G.T.b G.T.builtins G.T.nolimit hgens hobj hints (Nat.le_trans hlen hn2) hr fn bind (fun H h1 h2 => want H a ns hlen h1 h2) fun H e s' => calm w H s₁ e s'
end PI

set_option Elab.async false
set_option linter.all false
set_option maxRecDepth 100000
set_option maxHeartbeats 4000000
/-! PL: plain facts about the evaluator, for the laws' own proofs. -/
namespace PL
open PI
section
variable {α β γ : Type}
@[simp] theorem bind_pure (a : α) (f : α → M β) : M.bind (M.pure a) f = f a := rfl
@[simp] theorem opt_some (a : α) : M.opt (some a) = M.pure a := rfl
@[simp] theorem opt_none : (M.opt (none : Option α)) = M.stuck := rfl
@[simp] theorem test_pure (b : Bool) : M.test (M.pure (.bl b)) = M.pure b := rfl
@[simp] theorem calm_pure (a : α) : M.calm (M.pure a) = M.pure a := rfl
@[simp] theorem pure_ite (c : Prop) [Decidable c] (a b : α) : (if c then M.pure a else M.pure b) = M.pure (if c then a else b) := by split <;> rfl
theorem bind_assoc (m : M α) (f : α → M β) (g : β → M γ) : M.bind (M.bind m f) g = M.bind m fun a => M.bind (f a) g := by
  funext h
  unfold M.bind
  cases m h <;> rfl
theorem bind_id (m : M α) : M.bind m M.pure = m := by
  funext h
  unfold M.bind
  cases e : m h <;> rfl
theorem bind_congr {m : M α} {f g : α → M β} (h : ∀ a, f a = g a) : M.bind m f = M.bind m g := by
  have : f = g := funext h
  rw [this]
end
/-- an operation -/
def prM (p : Pr) (vs : List IV) : M IV := fun h => M.opt (pr p vs h) h
section
variable {Φ : Nat → List IV → M IV} {fr : Fr}
@[simp] theorem ev_c {v : IV} : ev Φ (.c v) fr = M.pure v := by simp only [ev]
@[simp] theorem ev_slot {i : Nat} : ev Φ (.slot i) fr = M.opt (slotV fr i) := by simp only [ev]
@[simp] theorem ev_pr {p : Pr} {es : List E} : ev Φ (.pr p es) fr = (eva Φ es fr).bind fun vs => prM p vs := by simp only [ev]; rfl
@[simp] theorem ev_tup {es : List E} : ev Φ (.tup es) fr = (evs Φ es fr).bind fun vs => M.opt (if vs.length ≤ szl then some (.tup vs) else none) := by simp only [ev]
@[simp] theorem ev_lst {es : List E} : ev Φ (.lst es) fr = (evs Φ es fr).bind fun vs => M.opt (if vs.length ≤ szl then some (.lst vs) else none) := by simp only [ev]
@[simp] theorem ev_chain {p q : Pr} {a b c : E} : ev Φ (.chain p q a b c) fr = (ev Φ a fr).bind fun x => (ev Φ b fr).bind fun y => (M.test (prM p [x, y])).bind fun t => if t then (ev Φ c fr).bind fun z => prM q [y, z] else M.pure (.bl false) := by simp only [ev]; rfl
@[simp] theorem ev_join {s : List Nat} {a : E} : ev Φ (.join s a) fr = (evo1 a (ev Φ a fr) fr).bind fun v => M.opt (pJoin [.str s, v]) := by simp only [ev]
@[simp] theorem ev_call {f : Nat} {es : List E} : ev Φ (.call f es) fr = (evs Φ es fr).bind fun vs => Φ f vs := by simp only [ev]
@[simp] theorem ev_callk {f : Nat} {pm : List (Sum Nat IV)} {es : List E} : ev Φ (.callk f pm es) fr = (evs Φ es fr).bind fun vs => (M.opt (permV pm vs)).bind fun vs => Φ f vs := by simp only [ev]
@[simp] theorem ev_and {a b : E} : ev Φ (.and a b) fr = (M.test (ev Φ a fr)).bind fun t => if t then ev Φ b fr else M.pure (.bl false) := by simp only [ev]
@[simp] theorem ev_or {a b : E} : ev Φ (.or a b) fr = (M.test (ev Φ a fr)).bind fun t => if t then M.pure (.bl true) else ev Φ b fr := by simp only [ev]
@[simp] theorem ev_not {a : E} : ev Φ (.not a) fr = (M.test (ev Φ a fr)).bind fun t => M.pure (.bl (!t)) := by simp only [ev]
@[simp] theorem ev_ife {t a b : E} : ev Φ (.ife t a b) fr = (M.test (ev Φ t fr)).bind fun t => if t then ev Φ a fr else ev Φ b fr := by simp only [ev]
@[simp] theorem ev_comp {tg : Tg} {k : Sk} {src ifs : List E} {elt : E} : ev Φ (.comp tg k src ifs elt) fr = (eva Φ src fr).bind fun vs => (M.opt (walk k vs)).bind fun items =>
      (M.calm (each (fun x => (M.opt (store tg x fr)).bind fun fr1 => (evif Φ ifs fr1).bind fun t => if t then (ev Φ elt fr1).bind fun v => M.pure [v] else M.pure []) items)).bind fun l => M.opt (if l.length ≤ szl then some (.lst l) else none) := by simp only [ev]
@[simp] theorem ev_dcomp {tg : Tg} {k : Sk} {src : List E} {ke ve : E} : ev Φ (.dcomp tg k src ke ve) fr = (eva Φ src fr).bind fun vs => (M.opt (walk k vs)).bind fun items =>
      (M.calm (each (fun x => (M.opt (store tg x fr)).bind fun fr1 => (ev Φ ke fr1).bind fun a => (ev Φ ve fr1).bind fun b => (M.opt (keyOf a)).bind fun k => M.pure [(k, b)]) items)).bind fun l => M.opt (if l.length ≤ szl then some (.dct (dputs l [])) else none) := by simp only [ev]
@[simp] theorem ev_dict {ks : List Ky} {es : List E} : ev Φ (.dict ks es) fr = (evs Φ es fr).bind fun vs => M.pure (.dct (dputs (ks.zip vs) [])) := by simp only [ev]
@[simp] theorem evs_nil : evs Φ [] fr = M.pure [] := by simp only [evs]
@[simp] theorem evs_cons {e : E} {r : List E} : evs Φ (e :: r) fr = (ev Φ e fr).bind fun v => (evs Φ r fr).bind fun vs => M.pure (v :: vs) := by simp only [evs]
@[simp] theorem eva_nil : eva Φ [] fr = M.pure [] := by simp only [eva]
@[simp] theorem eva_cons {e : E} {r : List E} : eva Φ (e :: r) fr = (evo1 e (ev Φ e fr) fr).bind fun v => (eva Φ r fr).bind fun vs => M.pure (v :: vs) := by simp only [eva]
@[simp] theorem evif_nil : evif Φ [] fr = M.pure true := by simp only [evif]
@[simp] theorem evif_cons {e : E} {r : List E} : evif Φ (e :: r) fr = (M.test (ev Φ e fr)).bind fun t => if t then evif Φ r fr else M.pure false := by simp only [evif]
@[simp] theorem evo1_own {i : Nat} {d : M IV} : evo1 (.own i) d fr = M.opt (ownV fr i) := rfl
theorem evo1_of {e : E} {d : M IV} (h : isOwn e = none) : evo1 e d fr = d := by unfold evo1; rw [h]
@[simp] theorem evo1_c {v : IV} {d : M IV} : evo1 (.c v) d fr = d := rfl
@[simp] theorem evo1_slot {i : Nat} {d : M IV} : evo1 (.slot i) d fr = d := rfl
@[simp] theorem evo1_pr {p : Pr} {es : List E} {d : M IV} : evo1 (.pr p es) d fr = d := rfl
@[simp] theorem evo1_tup {es : List E} {d : M IV} : evo1 (.tup es) d fr = d := rfl
@[simp] theorem evo1_lst {es : List E} {d : M IV} : evo1 (.lst es) d fr = d := rfl
@[simp] theorem evo1_call {f : Nat} {es : List E} {d : M IV} : evo1 (.call f es) d fr = d := rfl
@[simp] theorem evo1_callk {f : Nat} {pm : List (Sum Nat IV)} {es : List E} {d : M IV} : evo1 (.callk f pm es) d fr = d := rfl
@[simp] theorem evo1_comp {tg : Tg} {k : Sk} {src ifs : List E} {elt : E} {d : M IV} : evo1 (.comp tg k src ifs elt) d fr = d := rfl
@[simp] theorem evo1_dcomp {tg : Tg} {k : Sk} {src : List E} {ke ve : E} {d : M IV} : evo1 (.dcomp tg k src ke ve) d fr = d := rfl
@[simp] theorem evo1_dict {ks : List Ky} {es : List E} {d : M IV} : evo1 (.dict ks es) d fr = d := rfl
@[simp] theorem evo1_ife {a b c : E} {d : M IV} : evo1 (.ife a b c) d fr = d := rfl
@[simp] theorem evo1_and {a b : E} {d : M IV} : evo1 (.and a b) d fr = d := rfl
@[simp] theorem evo1_or {a b : E} {d : M IV} : evo1 (.or a b) d fr = d := rfl
@[simp] theorem evo1_not {a : E} {d : M IV} : evo1 (.not a) d fr = d := rfl
@[simp] theorem evo1_join {s : List Nat} {a : E} {d : M IV} : evo1 (.join s a) d fr = d := rfl
variable {W : Nat}
@[simp] theorem xss_nil : xss Φ W [] fr = M.pure (.nx fr) := by simp only [xss]
@[simp] theorem xss_cons {s : S} {r : List S} : xss Φ W (s :: r) fr = (xs1 Φ W s fr).bind (seqF fun fr => xss Φ W r fr) := by simp only [xss]
@[simp] theorem xs1_asg {i : Nat} {e : E} : xs1 Φ W (.asg i e) fr = (ev Φ e fr).bind fun v => M.pure (.nx (fr.set i (.val v))) := by simp only [xs1]
@[simp] theorem xs1_asgo {i : Nat} {e : E} : xs1 Φ W (.asgo i e) fr = (ev Φ e fr).bind fun v => (M.opt (ownOf v)).bind fun l => M.pure (.nx (fr.set i (.own l))) := by simp only [xs1]
@[simp] theorem xs1_par {i j : Nat} {io jo : Bool} {a b : E} : xs1 Φ W (.par i j io jo a b) fr = (ev Φ a fr).bind fun v => (ev Φ b fr).bind fun w =>
      (M.opt (if io then (ownOf v).map SV.own else some (SV.val v))).bind fun v => (M.opt (if jo then (ownOf w).map SV.own else some (SV.val w))).bind fun w => M.pure (.nx ((fr.set i v).set j w)) := by simp only [xs1]
@[simp] theorem xs1_unp {tg : List Nat} {e : E} : xs1 Φ W (.unp tg e) fr = (ev Φ e fr).bind fun v => (M.opt (store (.many tg) v fr)).bind fun fr => M.pure (.nx fr) := by simp only [xs1]
@[simp] theorem xs1_seti {o k e : E} : xs1 Φ W (.seti o k e) fr = (ev Φ e fr).bind fun v => (ev Φ o fr).bind fun o => (ev Φ k fr).bind fun k => (setCell o k v).bind fun _ => M.pure (.nx fr) := by simp only [xs1]
@[simp] theorem xs1_ife {t : E} {a b : List S} : xs1 Φ W (.ife t a b) fr = (M.test (ev Φ t fr)).bind fun c => if c then xss Φ W a fr else xss Φ W b fr := by simp only [xs1]
@[simp] theorem xs1_while {t : E} {b : List S} : xs1 Φ W (.while t b) fr = loop (fun fr => M.test (ev Φ t fr)) (fun fr => xss Φ W b fr) W fr := by simp only [xs1]
@[simp] theorem xs1_for {tg : Tg} {k : Sk} {src : List E} {b : List S} : xs1 Φ W (.for tg k src b) fr = (evs Φ src fr).bind fun vs => (M.opt (walk k vs)).bind fun items => forl tg (fun fr => xss Φ W b fr) items fr := by simp only [xs1]
@[simp] theorem xs1_ret {e : E} : xs1 Φ W (.ret e) fr = (ev Φ e fr).bind fun v => M.pure (.ret v) := by simp only [xs1]
@[simp] theorem xs1_retn : xs1 Φ W .retn fr = M.pure (.ret .non) := by simp only [xs1]
@[simp] theorem xs1_reto {i : Nat} : xs1 Φ W (.reto i) fr = M.opt ((ownV fr i).map Fl.ret) := by simp only [xs1]
@[simp] theorem xs1_retc {e : E} : xs1 Φ W (.retc e) fr = (ev Φ e fr).bind fun v => (newCell v).bind fun c => M.pure (.ret c) := by simp only [xs1]
@[simp] theorem xs1_expr {e : E} : xs1 Φ W (.expr e) fr = (ev Φ e fr).bind fun _ => M.pure (.nx fr) := by simp only [xs1]
@[simp] theorem xs1_pass : xs1 Φ W .pass fr = M.pure (.nx fr) := by simp only [xs1]
@[simp] theorem xs1_brk : xs1 Φ W .brk fr = M.pure (.brk fr) := by simp only [xs1]
@[simp] theorem xs1_cont : xs1 Φ W .cont fr = M.pure (.cont fr) := by simp only [xs1]
@[simp] theorem seqF_nx {g : Fr → M Fl} : seqF g (.nx fr) = g fr := rfl
@[simp] theorem seqF_ret {g : Fr → M Fl} {v : IV} : seqF g (.ret v) = M.pure (.ret v) := rfl
@[simp] theorem seqF_brk {g : Fr → M Fl} : seqF g (.brk fr) = M.pure (.brk fr) := rfl
@[simp] theorem seqF_cont {g : Fr → M Fl} : seqF g (.cont fr) = M.pure (.cont fr) := rfl
@[simp] theorem loopF_nx {g : Fr → M Fl} : loopF g (.nx fr) = g fr := rfl
@[simp] theorem loopF_ret {g : Fr → M Fl} {v : IV} : loopF g (.ret v) = M.pure (.ret v) := rfl
@[simp] theorem loopF_brk {g : Fr → M Fl} : loopF g (.brk fr) = M.pure (.nx fr) := rfl
@[simp] theorem loopF_cont {g : Fr → M Fl} : loopF g (.cont fr) = g fr := rfl
@[simp] theorem forl_nil {tg : Tg} {b : Fr → M Fl} : forl tg b [] fr = M.pure (.nx fr) := rfl
@[simp] theorem forl_cons {tg : Tg} {b : Fr → M Fl} {x : IV} {r : List IV} : forl tg b (x :: r) fr = (M.opt (store tg x fr)).bind fun fr => (b fr).bind (loopF fun fr => forl tg b r fr) := rfl
@[simp] theorem finF_ret {v : IV} : finF (.ret v) = M.pure v := rfl
@[simp] theorem finF_nx : finF (.nx fr) = M.pure .non := rfl
@[simp] theorem store_one {i : Nat} {v : IV} : store (.one i) v fr = some (fr.set i (.val v)) := rfl
@[simp] theorem store_many {is : List Nat} {xs : List IV} : store (.many is) (.tup xs) fr = stores is xs fr := rfl
@[simp] theorem stores_nil : stores [] [] fr = some fr := rfl
@[simp] theorem stores_cons {i : Nat} {is : List Nat} {v : IV} {vs : List IV} : stores (i :: is) (v :: vs) fr = stores is vs (fr.set i (.val v)) := rfl
theorem slotV_val {i : Nat} {v : IV} (h : fr[i]? = some (.val v)) : slotV fr i = some v := by unfold slotV; rw [h]
@[simp] theorem slotV_0 {v : IV} {r : Fr} : slotV (SV.val v :: r) 0 = some v := rfl
@[simp] theorem slotV_s {s : SV} {r : Fr} {i : Nat} : slotV (s :: r) (i + 1) = slotV r i := rfl
@[simp] theorem ownV_0 {v : List IV} {r : Fr} : ownV (SV.own v :: r) 0 = some (.lst v) := rfl
@[simp] theorem ownV_s {s : SV} {r : Fr} {i : Nat} : ownV (s :: r) (i + 1) = ownV r i := rfl
end
/-- a call, opened -/
theorem call_open {fs : Nat → Option Fn} {W n f : Nat} {vs : List IV} {d : Fn} (h : fs f = some d) (hl : vs.length = d.args) : callF fs W (n + 1) f vs = (xss (callF fs W n) W d.body (enter d vs)).bind finF := by
  show (match fs f with
    | some d => runF (callF fs W n) W d vs
    | none => M.stuck) = _
  rw [h]
  show runF (callF fs W n) W d vs = _
  unfold runF
  rw [if_pos hl]
/-! ### operations -/
@[simp] theorem p_add {a b : Int} : prM .add [.int a, .int b] = M.pure (.int (a + b)) := rfl
@[simp] theorem p_sub {a b : Int} : prM .sub [.int a, .int b] = M.pure (.int (a - b)) := rfl
@[simp] theorem p_lt {a b : Int} : prM .lt [.int a, .int b] = M.pure (.bl (decide (a < b))) := rfl
@[simp] theorem p_le {a b : Int} : prM .le [.int a, .int b] = M.pure (.bl (decide (a ≤ b))) := rfl
@[simp] theorem p_gt {a b : Int} : prM .gt [.int a, .int b] = M.pure (.bl (decide (b < a))) := rfl
@[simp] theorem p_ge {a b : Int} : prM .ge [.int a, .int b] = M.pure (.bl (decide (b ≤ a))) := rfl
@[simp] theorem p_neg {a : Int} : prM .neg [.int a] = M.pure (.int (-a)) := rfl
@[simp] theorem p_abs {a : Int} : prM .abs [.int a] = M.pure (.int (if a < 0 then -a else a)) := rfl
@[simp] theorem p_max {a b : Int} : prM .max [.int a, .int b] = M.pure (.int (if b > a then b else a)) := rfl
@[simp] theorem p_int {a : Int} : prM .int [.int a] = M.pure (.int a) := rfl
@[simp] theorem p_intb {b : Bool} : prM .int [.bl b] = M.pure (.int (b2i b)) := rfl
@[simp] theorem p_bool {b : Bool} : prM .bool [.bl b] = M.pure (.bl b) := rfl
theorem p_mod {a b : Int} (h : 0 < b) : prM .mod [.int a, .int b] = M.pure (.int (a % b)) := by
  funext c; show M.opt (if 0 < b then some (IV.int (a % b)) else none) c = _; rw [if_pos h]; rfl
theorem p_fdiv {a b : Int} (h : 0 < b) (h2 : b.natAbs.log2 < 9000) : prM .fdiv [.int a, .int b] = M.pure (.int (a / b)) := by
  funext c; show M.opt (if 0 < b ∧ b.natAbs.log2 < 9000 then some (IV.int (a / b)) else none) c = _; rw [if_pos ⟨h, h2⟩]; rfl
theorem p_mul {a b : Int} (h : a.natAbs < 2 ^ 64 ∨ b.natAbs < 2 ^ 64) : prM .mul [.int a, .int b] = M.pure (.int (a * b)) := by
  funext c; show M.opt (if a.natAbs < 2 ^ 64 ∨ b.natAbs < 2 ^ 64 then some (IV.int (a * b)) else none) c = _; rw [if_pos h]; rfl
theorem p_pow {a b : Int} (h0 : 0 ≤ b) (h1 : b ≤ 1000000) (h : a.natAbs < 2 ^ 64) : prM .pow [.int a, .int b] = M.pure (.int (a ^ b.toNat)) := by
  funext c; show M.opt (if 0 ≤ b ∧ b ≤ 1000000 ∧ a.natAbs < 2 ^ 64 then some (IV.int (a ^ b.toNat)) else none) c = _; rw [if_pos ⟨h0, h1, h⟩]; rfl
theorem p_isi {ts : List TyC} {x : IV} (h : (ownT x).isSome = true) : prM (.isi ts) [x] = M.pure (.bl (ts.any fun t => isT x t)) := by
  obtain ⟨T, e⟩ := Option.isSome_iff_exists.mp h
  funext c
  show M.opt (vIsi ts x) c = _
  unfold vIsi
  rw [e]
  rfl
@[simp] theorem p_isnon {x : IV} : prM .isnon [x] = M.pure (.bl (isNon x)) := by funext c; show M.opt (some (IV.bl (isNon x != false))) c = _; simp
@[simp] theorem p_notnon {x : IV} : prM .notnon [x] = M.pure (.bl (!isNon x)) := by funext c; show M.opt (some (IV.bl (isNon x != true))) c = _; simp
@[simp] theorem p_isb {b c : Bool} : prM (.isb b) [.bl c] = M.pure (.bl (decide (c = b))) := by funext h; show M.opt (some (IV.bl (decide (c = b) != false))) h = _; simp
@[simp] theorem p_notb {b c : Bool} : prM (.notb b) [.bl c] = M.pure (.bl (!decide (c = b))) := by funext h; show M.opt (some (IV.bl (decide (c = b) != true))) h = _; simp
@[simp] theorem p_len_lst {xs : List IV} : prM .len [.lst xs] = M.pure (.int xs.length) := rfl
@[simp] theorem p_len_tup {xs : List IV} : prM .len [.tup xs] = M.pure (.int xs.length) := rfl
@[simp] theorem p_len_dct {kvs : List (Ky × IV)} : prM .len [.dct kvs] = M.pure (.int kvs.length) := rfl
theorem p_len_str {s : List Nat} (h : s.length ≤ szl) : prM .len [.str s] = M.pure (.int s.length) := by
  funext c; show M.opt (if s.length ≤ szl then some (IV.int s.length) else none) c = _; rw [if_pos h]; rfl
@[simp] theorem p_in_str {c : Nat} {y : List Nat} : prM .inn [.str [c], .str y] = M.pure (.bl (decide (c ∈ y))) := by funext h; show M.opt (some (IV.bl (decide (c ∈ y) != false))) h = _; simp
theorem bools_map {α : Type} (f : α → Bool) : ∀ l : List α, bools (l.map fun x => .bl (f x)) = some (l.map f)
  | [] => rfl
  | x :: r => by
    show (bools (r.map fun x => IV.bl (f x))).map _ = _
    rw [bools_map f r]
    rfl
theorem p_all {α : Type} {f : α → Bool} {l : List α} : prM .all [.lst (l.map fun x => .bl (f x))] = M.pure (.bl (l.all f)) := by
  funext c
  show M.opt ((bools (l.map fun x => IV.bl (f x))).map fun l => IV.bl (l.all id)) c = _
  rw [bools_map]
  simp
@[simp] theorem p_tuple_lst {xs : List IV} : prM .tuple [.lst xs] = M.pure (.tup xs) := rfl
@[simp] theorem p_tuple_tup {xs : List IV} : prM .tuple [.tup xs] = M.pure (.tup xs) := rfl
@[simp] theorem p_list_lst {xs : List IV} : prM .list [.lst xs] = M.pure (.lst xs) := rfl
@[simp] theorem p_list_tup {xs : List IV} : prM .list [.tup xs] = M.pure (.lst xs) := rfl
theorem p_eqn {x y : IV} {b : Bool} (h : eqo x y = some b) : prM .eq [x, y] = M.pure (.bl b) := by
  funext c; show M.opt ((eqo x y).map IV.bl) c = _; rw [h]; rfl
theorem p_nen {x y : IV} {b : Bool} (h : neo x y = some b) : prM .ne [x, y] = M.pure (.bl b) := by
  funext c; show M.opt ((neo x y).map IV.bl) c = _; rw [h]; rfl
theorem eqo_pln {x y : IV} (h1 : pln x deepEq = true) (h2 : pln y deepEq = true) : eqo x y = some (eqv x y) := by unfold eqo; rw [h1, h2]; rfl
theorem neo_pln {x y : IV} (h1 : pln x deepEq = true) (h2 : pln y deepEq = true) : neo x y = some (!eqv x y) := by unfold neo; rw [h1, h2]; rfl
@[simp] theorem p_eq_int {a b : Int} : prM .eq [.int a, .int b] = M.pure (.bl (decide (a = b))) := p_eqn (by rw [eqo_pln rfl rfl]; rfl)
@[simp] theorem p_ne_int {a b : Int} : prM .ne [.int a, .int b] = M.pure (.bl (!decide (a = b))) := p_nen (by rw [neo_pln rfl rfl]; rfl)
@[simp] theorem p_eq_str {a b : List Nat} : prM .eq [.str a, .str b] = M.pure (.bl (decide (a = b))) := p_eqn (by rw [eqo_pln rfl rfl]; rfl)
@[simp] theorem p_ne_str {a b : List Nat} : prM .ne [.str a, .str b] = M.pure (.bl (!decide (a = b))) := p_nen (by rw [neo_pln rfl rfl]; rfl)
@[simp] theorem p_eq_bl {a b : Bool} : prM .eq [.bl a, .bl b] = M.pure (.bl (a == b)) := p_eqn (by rw [eqo_pln rfl rfl]; rfl)
@[simp] theorem p_ne_bl {a b : Bool} : prM .ne [.bl a, .bl b] = M.pure (.bl (a != b)) := p_nen (by rw [neo_pln rfl rfl]; rfl)
@[simp] theorem p_ne_dct0 {kvs : List (Ky × IV)} : prM .ne [.dct kvs, .dct []] = M.pure (.bl (!decide (kvs = []))) := p_nen (by
  unfold neo
  cases kvs with
  | nil => rfl
  | cons a r => simp [pln])
@[simp] theorem p_eq_nil {xs : List IV} : prM .eq [.lst xs, .lst []] = M.pure (.bl (decide (xs = []))) := p_eqn (by
  unfold eqo
  cases xs with
  | nil => rfl
  | cons a r =>
    split
    · simp [eqv, eqvs]
    · rw [if_neg (by simp [kdNe, kd])]
      simp)
@[simp] theorem p_ne_nil {xs : List IV} : prM .ne [.lst xs, .lst []] = M.pure (.bl (!decide (xs = []))) := p_nen (by
  unfold neo
  cases xs with
  | nil => rfl
  | cons a r =>
    split
    · simp [eqv, eqvs]
    · simp)
@[simp] theorem p_add_lst {xs ys : List IV} (h : xs.length + ys.length ≤ szl) : prM .add [.lst xs, .lst ys] = M.pure (.lst (xs ++ ys)) := by
  funext c; show M.opt (if xs.length + ys.length ≤ szl then some (IV.lst (xs ++ ys)) else none) c = _; rw [if_pos h]; rfl
@[simp] theorem p_add_tup {xs ys : List IV} (h : xs.length + ys.length ≤ szl) : prM .add [.tup xs, .tup ys] = M.pure (.tup (xs ++ ys)) := by
  funext c; show M.opt (if xs.length + ys.length ≤ szl then some (IV.tup (xs ++ ys)) else none) c = _; rw [if_pos h]; rfl
@[simp] theorem p_add_str {s t : List Nat} (h : s.length + t.length ≤ szl) : prM .add [.str s, .str t] = M.pure (.str (s ++ t)) := by
  funext c; show M.opt (if s.length + t.length ≤ szl then some (IV.str (s ++ t)) else none) c = _; rw [if_pos h]; rfl
theorem p_item_lst {xs : List IV} {i : Int} {v : IV} (h : at? xs i = some v) : prM .item [.lst xs, .int i] = M.pure v := by
  funext c; show M.opt (at? xs i) c = _; rw [h]; rfl
theorem p_item_tup {xs : List IV} {i : Int} {v : IV} (h : at? xs i = some v) : prM .item [.tup xs, .int i] = M.pure v := by
  funext c; show M.opt (at? xs i) c = _; rw [h]; rfl
theorem p_item_str {s : List Nat} {i : Int} {v : IV} (hz : s.length ≤ szl) (h : at? (chars s) i = some v) : prM .item [.str s, .int i] = M.pure v := by
  funext c; show M.opt (if s.length ≤ szl then at? (chars s) i else none) c = _; rw [if_pos hz, h]; rfl
theorem p_item_dct {kvs : List (Ky × IV)} {k : List Nat} {v : IV} (h : dget (.str k) kvs = some v) : prM .item [.dct kvs, .str k] = M.pure v := by
  funext c; show M.opt (dget (.str k) kvs) c = _; rw [h]; rfl
theorem at_of {α : Type} {xs : List IV} {i : Nat} {v : IV} (h : xs[i]? = some v) : at? xs (i : Int) = some v := by
  unfold at?
  rw [if_pos (by omega)]
  simpa using h
theorem at_int {xs : List IV} {i : Int} (h0 : 0 ≤ i) (h1 : i < xs.length) : ∃ v, v ∈ xs ∧ xs[i.toNat]? = some v ∧ at? xs i = some v := by
  have hl : i.toNat < xs.length := by omega
  refine ⟨xs[i.toNat], List.getElem_mem hl, List.getElem?_eq_getElem hl, ?_⟩
  unfold at?
  rw [if_pos h0, List.getElem?_eq_getElem hl]
/-! ### walks -/
theorem each_pure {α : Type} {f : IV → M (List α)} {g : IV → List α} : ∀ {l : List IV}, (∀ x ∈ l, f x = M.pure (g x)) → each f l = M.pure (l.map g).flatten
  | [], _ => rfl
  | x :: r, h => by
    show (f x).bind (fun a => (each f r).bind fun b => M.pure (a ++ b)) = _
    rw [h x (by simp), each_pure (l := r) fun y hy => h y (List.mem_cons_of_mem _ hy)]
    simp
theorem each_map {f : IV → M (List IV)} {g : IV → IV} {l : List IV} (h : ∀ x ∈ l, f x = M.pure [g x]) : each f l = M.pure (l.map g) := by
  rw [each_pure (g := fun x => [g x]) h]
  congr 1
  induction l with
  | nil => rfl
  | cons x r ih => simp [ih fun y hy => h y (List.mem_cons_of_mem _ hy)]
theorem each_mapp {σ β : Type} {ps : List σ} {a : σ → IV} {b : σ → β} {f : IV → M (List β)} (h : ∀ p ∈ ps, f (a p) = M.pure [b p]) : each f (ps.map a) = M.pure (ps.map b) := by
  induction ps with
  | nil => rfl
  | cons p r ih =>
    show (f (a p)).bind (fun x => (each f (r.map a)).bind fun y => M.pure (x ++ y)) = _
    rw [h p (by simp), ih fun q hq => h q (List.mem_cons_of_mem _ hq)]
    rfl
/-- those that are told otherwise -/
theorem each_if {σ β : Type} {ps : List σ} {a : σ → IV} {b : σ → Bool} {v : β} {f : IV → M (List β)} (h : ∀ p ∈ ps, f (a p) = M.pure (if b p then [] else [v])) : ∃ l, each f (ps.map a) = M.pure l ∧ (l = [] ↔ ps.all b = true) ∧ l.length ≤ ps.length := by
  induction ps with
  | nil => exact ⟨[], rfl, by simp, by simp⟩
  | cons p r ih =>
    obtain ⟨l, e, q, z⟩ := ih fun q hq => h q (List.mem_cons_of_mem _ hq)
    refine ⟨(if b p then [] else [v]) ++ l, ?_, ?_, ?_⟩
    · show (f (a p)).bind (fun x => (each f (r.map a)).bind fun y => M.pure (x ++ y)) = _
      rw [h p (by simp), e]
      rfl
    · cases hb : b p <;> simp [hb, q]
    · split <;> simp <;> omega
end PL

set_option Elab.async false
set_option linter.all false
set_option maxRecDepth 100000
set_option maxHeartbeats 4000000
/-! PD: plain facts about dicts whose keys are ascending texts, and data of such. -/
namespace PL
open PI
def kv (ps : List (List Nat × IV)) : List (Ky × IV) := ps.map fun p => (Ky.str p.1, p.2)
def ascB : List (List Nat) → Bool
  | a :: b :: r => leS a b && ascB (b :: r)
  | _ => true
structure KOk (ps : List (List Nat × IV)) : Prop where
  asc : ascB (ps.map (·.1)) = true
  nd : (ps.map (·.1)).Nodup
  few : ps.length ≤ 20
  short : ∀ p ∈ ps, p.1.length ≤ 100
theorem sortS_asc : ∀ {l : List (List Nat)}, ascB l = true → sortS l = l
  | [], _ => rfl
  | [a], _ => rfl
  | a :: b :: r, h => by
    have h2 : leS a b = true ∧ ascB (b :: r) = true := by simpa [ascB] using h
    have ih := sortS_asc h2.2
    show insS a (sortS (b :: r)) = _
    rw [ih]
    show (if leS a b then a :: b :: r else b :: insS a r) = _
    rw [if_pos h2.1]
theorem kyb_str (a b : List Nat) : Ky.beq (.str a) (.str b) = decide (a = b) := by simp [Ky.beq]
theorem dget_kv : ∀ {ps : List (List Nat × IV)} {p : List Nat × IV}, (ps.map (·.1)).Nodup → p ∈ ps → dget (.str p.1) (kv ps) = some p.2
  | q :: r, p, nd, h => by
    show (if Ky.beq (.str p.1) (.str q.1) then some q.2 else dget (.str p.1) (kv r)) = _
    rw [kyb_str]
    rcases List.mem_cons.mp h with rfl | h2
    · simp
    · have hne : p.1 ≠ q.1 := fun e => by
        have := (List.nodup_cons.mp nd).1
        exact this (by show q.1 ∈ _; rw [← e]; exact List.mem_map_of_mem h2)
      simp only [hne, decide_false]
      exact dget_kv (List.nodup_cons.mp nd).2 h2
theorem dput_new : ∀ {ps : List (List Nat × IV)} {k : List Nat} {v : IV}, k ∉ ps.map (·.1) → dput (.str k) v (kv ps) = kv (ps ++ [(k, v)])
  | [], k, v, _ => rfl
  | q :: r, k, v, h => by
    have hne : k ≠ q.1 := fun e => h (by rw [e]; simp)
    show (if Ky.beq (.str k) (.str q.1) then (Ky.str q.1, v) :: kv r else (Ky.str q.1, q.2) :: dput (.str k) v (kv r)) = _
    rw [kyb_str]
    simp only [hne, decide_false]
    rw [dput_new fun z => h (List.mem_cons_of_mem _ z)]
    rfl
theorem dputs_go : ∀ {ps acc : List (List Nat × IV)}, ((acc ++ ps).map (·.1)).Nodup → dputs (kv ps) (kv acc) = kv (acc ++ ps)
  | [], acc, _ => by simp [dputs, kv]
  | p :: r, acc, h => by
    have e : dputs (kv (p :: r)) (kv acc) = dputs (kv r) (dput (.str p.1) p.2 (kv acc)) := rfl
    have hn : p.1 ∉ acc.map (·.1) := fun z => by
      rw [List.map_append, List.nodup_append] at h
      exact h.2.2 _ z _ (by simp) rfl
    rw [e, dput_new hn, dputs_go (by simpa using h)]
    simp
theorem dputs_kv {ps : List (List Nat × IV)} (h : (ps.map (·.1)).Nodup) : dputs (kv ps) [] = kv ps := by
  have := dputs_go (ps := ps) (acc := []) (by simpa using h)
  simpa [kv] using this
theorem kstrL_kv : ∀ {ps : List (List Nat × IV)}, kstrL (kv ps) = some (ps.map (·.1))
  | [] => rfl
  | p :: r => by
    show (kstrL (kv r)).map (fun l => p.1 :: l) = _
    rw [kstrL_kv]
    rfl
theorem walk_kv {ps : List (List Nat × IV)} : walk .val [.dct (kv ps)] = some (ps.map fun p => IV.str p.1) := by
  show some ((kv ps).map fun p => kyV p.1) = _
  simp [kv, kyV, Function.comp_def]
theorem items_kv {ps : List (List Nat × IV)} : walk .items [.dct (kv ps)] = some (ps.map fun p => IV.tup [.str p.1, p.2]) := by
  show some ((kv ps).map fun p => IV.tup [kyV p.1, p.2]) = _
  simp [kv, kyV, Function.comp_def]
theorem p_sorted_kv {ps : List (List Nat × IV)} (h : KOk ps) : prM .sorted [.dct (kv ps)] = M.pure (.lst (ps.map fun p => IV.str p.1)) := by
  funext c
  show M.opt ((kstrL (kv ps)).bind sortV) c = _
  rw [kstrL_kv]
  show M.opt (sortV (ps.map (·.1))) c = _
  unfold sortV
  rw [if_pos (by have := h.few; simp; omega), sortS_asc h.asc]
  simp [Function.comp_def]
theorem pairs_kv : ∀ {ps : List (List Nat × IV)}, pairsOf (ps.map fun p => IV.tup [.str p.1, p.2]) = some (kv ps)
  | [] => rfl
  | p :: r => by
    show (some (Ky.str p.1, p.2)).bind (fun q => (pairsOf (r.map fun p => IV.tup [.str p.1, p.2])).map fun l => q :: l) = _
    rw [pairs_kv]
    rfl
theorem p_dictl_kv {ps : List (List Nat × IV)} (h : (ps.map (·.1)).Nodup) : prM .dictl [.lst (ps.map fun p => IV.tup [.str p.1, p.2])] = M.pure (.dct (kv ps)) := by
  funext c
  show M.opt ((pairsOf (ps.map fun p => IV.tup [.str p.1, p.2])).map fun ps => IV.dct (dputs ps [])) c = _
  rw [pairs_kv]
  show M.opt (some (IV.dct (dputs (kv ps) []))) c = _
  rw [dputs_kv h]
  rfl
theorem p_ditems_kv {ps : List (List Nat × IV)} : prM .ditems [.dct (kv ps)] = M.pure (.lst (ps.map fun p => IV.tup [.str p.1, p.2])) := by
  funext c
  show M.opt (some (IV.lst ((kv ps).map fun p => .tup [kyV p.1, p.2]))) c = _
  simp [kv, kyV, Function.comp_def]
/-- data: w: odd leaves are let; l: lists are let -/
def Cl (w l : Bool) : Nat → IV → Prop
  | 0, _ => False
  | d + 1, x => match x with
    | .non => True
    | .bl _ => True
    | .int _ => True
    | .str s => s.length ≤ 3000
    | .tup xs => xs.length ≤ 3000 ∧ ∀ y ∈ xs, Cl w l d y
    | .lst xs => l = true ∧ xs.length ≤ 3000 ∧ ∀ y ∈ xs, Cl w l d y
    | .dct kvs => (∃ ps, kvs = kv ps ∧ KOk ps ∧ ∀ p ∈ ps, Cl w l d p.2) ∨ (w = true ∧ ∃ i v, kvs = [(.int i, v)])
    | .odd _ => w = true
    | _ => False
theorem Cl.own {w l : Bool} {d : Nat} {x : IV} (h : Cl w l d x) : (ownT x).isSome = true := by
  cases d with
  | zero => exact h.elim
  | succ d => cases x <;> first | rfl | exact h.elim
theorem Cl.up {w l : Bool} : ∀ {d : Nat} {x : IV}, Cl w l d x → Cl w l (d + 1) x
  | 0, _, h => h.elim
  | d + 1, x, h => by
    cases x with
    | tup xs => exact ⟨h.1, fun y hy => (h.2 y hy).up⟩
    | lst xs => exact ⟨h.1, h.2.1, fun y hy => (h.2.2 y hy).up⟩
    | dct kvs =>
      rcases h with ⟨ps, e, k, q⟩ | h
      · exact .inl ⟨ps, e, k, fun p hp => (q p hp).up⟩
      · exact .inr h
    | _ => exact h
theorem Cl.le {w l : Bool} {d e : Nat} {x : IV} (h : Cl w l d x) (k : d ≤ e) : Cl w l e x := by
  induction k with
  | refl => exact h
  | step _ ih => exact ih.up
theorem Cl.weak {w w' l l' : Bool} (hw : w = true → w' = true) (hl : l = true → l' = true) : ∀ {d : Nat} {x : IV}, Cl w l d x → Cl w' l' d x
  | 0, _, h => h.elim
  | d + 1, x, h => by
    cases x with
    | tup xs => exact ⟨h.1, fun y hy => (h.2 y hy).weak hw hl⟩
    | lst xs => exact ⟨hl h.1, h.2.1, fun y hy => (h.2.2 y hy).weak hw hl⟩
    | dct kvs =>
      rcases h with ⟨ps, e, k, q⟩ | h
      · exact .inl ⟨ps, e, k, fun p hp => (q p hp).weak hw hl⟩
      · exact .inr ⟨hw h.1, h.2⟩
    | odd k => exact hw h
    | _ => exact h
end PL

set_option Elab.async false
set_option linter.all false
set_option maxRecDepth 100000
set_option maxHeartbeats 4000000
/-! PN: what draws: the pen, its draws, runs that draw. -/
namespace PL
open PI
/-- the cells of a law's run: the pen alone -/
def PS (ns : List Int) (p g : Int) : Cells := [.lst [.lst (ns.map IV.int), .int p, .int g]]
/-- a run that draws from at most c cells -/
def Dr {α : Type} (c : Nat) (m : M α) (R : α → Prop) : Prop := ∀ (ns : List Int) (p g : Int), 0 ≤ p → 0 ≤ g → p + c ≤ 1000000 → ∃ a p' g', m (PS ns p g) = .ok a (PS ns p' g') ∧ R a ∧ p ≤ p' ∧ p' ≤ p + c ∧ 0 ≤ g'
section
variable {α β : Type} {c d e : Nat} {m : M α} {f : α → M β} {R R' : α → Prop} {S : β → Prop}
theorem Dr.pure {a : α} (h : R a) : Dr c (M.pure a) R := fun ns p g h0 h1 _ => ⟨a, p, g, rfl, h, by omega, by omega, h1⟩
theorem Dr.mono (h : Dr c m R) (hc : c ≤ d) (hr : ∀ a, R a → R' a) : Dr d m R' := fun ns p g h0 h1 hd => by
  obtain ⟨a, p', g', e, r, q1, q2, q3⟩ := h ns p g h0 h1 (by omega)
  exact ⟨a, p', g', e, hr a r, q1, by omega, q3⟩
theorem Dr.bind (h : Dr c m R) (hc : c ≤ e) (k : ∀ a, R a → Dr (e - c) (f a) S) : Dr e (m.bind f) S := fun ns p g h0 h1 hd => by
  obtain ⟨a, p', g', e1, r, q1, q2, q3⟩ := h ns p g h0 h1 (by omega)
  obtain ⟨b, p2, g2, e2, r2, q4, q5, q6⟩ := k a r ns p' g' (by omega) q3 (by omega)
  refine ⟨b, p2, g2, ?_, r2, by omega, by omega, q6⟩
  show (match m (PS ns p g) with
    | .ok a h' => f a h'
    | .exc x h' => .exc x h'
    | .stuck => .stuck) = _
  rw [e1]
  exact e2
theorem Dr.calm (h : Dr c m R) : Dr c (M.calm m) R := fun ns p g h0 h1 hd => by
  obtain ⟨a, p', g', e, r⟩ := h ns p g h0 h1 hd
  refine ⟨a, p', g', ?_, r⟩
  unfold M.calm
  rw [e]
/-- lists side by side -/
inductive All2 {α β : Type} (R : α → β → Prop) : List α → List β → Prop where
  | nil : All2 R [] []
  | cons {a : α} {b : β} {l : List α} {r : List β} : R a b → All2 R l r → All2 R (a :: l) (b :: r)
theorem All2.length {R : α → β → Prop} {l : List α} {r : List β} (h : All2 R l r) : r.length = l.length := by induction h <;> simp_all
theorem All2.all {R : α → β → Prop} {P : β → Prop} {l : List α} {r : List β} (h : All2 R l r) (k : ∀ a ∈ l, ∀ b, R a b → P b) : ∀ b ∈ r, P b := by
  induction h with
  | nil => simp
  | cons a q ih =>
    intro b hb
    rcases List.mem_cons.mp hb with rfl | hb
    · exact k _ (by simp) _ a
    · exact ih (fun a ha => k a (List.mem_cons_of_mem _ ha)) b hb
theorem Dr.each {R : IV → β → Prop} {f : IV → M (List β)} : ∀ {l : List IV}, (∀ x ∈ l, Dr c (f x) fun v => ∃ b, v = [b] ∧ R x b) → Dr (c * l.length) (each f l) fun vs => All2 R l vs
  | [], _ => .pure .nil
  | x :: r, h => by
    have e : c * (x :: r).length = c + c * r.length := by rw [List.length_cons, Nat.mul_add]; omega
    rw [e]
    show Dr _ ((f x).bind fun a => (PI.each f r).bind fun b => M.pure (a ++ b)) _
    refine (h x (by simp)).bind (by omega) fun a ⟨b, e, q⟩ => ?_
    subst e
    refine (Dr.each (l := r) fun y hy => h y (List.mem_cons_of_mem _ hy)).bind (by omega) fun vs k => ?_
    exact .pure (.cons q k)
end
/-! ### the draw -/
def drawFn (k1 k2 k3 k4 : Int) : Fn := ⟨2, 7, [.ife (.pr .lt [(.slot 1), (.c (.int 2))]) [.ret (.c (.int 0))] [], .ife (.pr .gt [(.pr .item [(.slot 0), (.c (.int 2))]), (.c (.int 0))]) [.asg 5 (.pr .mod [(.pr .int [(.pr .item [(.slot 0), (.c (.int 2))])]), (.slot 1)]), .seti (.slot 0) (.c (.int 2)) (.pr .fdiv [(.pr .int [(.pr .item [(.slot 0), (.c (.int 2))])]), (.slot 1)]), .ret (.slot 5)] [], .asg 2 (.pr .item [(.slot 0), (.c (.int 1))]), .seti (.slot 0) (.c (.int 1)) (.pr .add [(.slot 2), (.c (.int 1))]), .asg 3 (.pr .add [(.pr .mul [(.c (.int k1)), (.slot 2)]), (.c (.int k2))]), .ife (.pr .ne [(.pr .item [(.slot 0), (.c (.int 0))]), (.lst [])]) [.asg 3 (.pr .item [(.pr .item [(.slot 0), (.c (.int 0))]), (.pr .mod [(.pr .int [(.slot 2)]), (.pr .len [(.pr .item [(.slot 0), (.c (.int 0))])])])])] [], .ife (.and (.pr .lt [(.slot 2), (.pr .len [(.pr .item [(.slot 0), (.c (.int 0))])])]) (.pr .ge [(.pr .abs [(.slot 3)]), (.pr .pow [(.c (.int 10)), (.c (.int 18))])])) [.asg 6 (.pr .add [(.pr .mul [(.c (.int 2)), (.pr .sub [(.pr .abs [(.slot 3)]), (.pr .pow [(.c (.int 10)), (.c (.int 18))])])]), (.pr .int [(.pr .lt [(.slot 3), (.c (.int 0))])])]), .seti (.slot 0) (.c (.int 2)) (.pr .fdiv [(.pr .int [(.slot 6)]), (.slot 1)]), .ret (.pr .mod [(.pr .int [(.slot 6)]), (.slot 1)])] [], .asg 4 (.pr .mod [(.pr .int [(.pr .pow [(.pr .add [(.pr .add [(.pr .mod [(.pr .int [(.slot 3)]), (.c (.int 2147483549))]), (.pr .mul [(.c (.int k3)), (.slot 2)])]), (.c (.int k2))]), (.c (.int 3))])]), (.c (.int 2147483629))]), .asg 4 (.pr .mod [(.pr .int [(.pr .pow [(.pr .add [(.pr .add [(.pr .mul [(.slot 4), (.pr .add [(.pr .mul [(.c (.int 2)), (.slot 2)]), (.c (.int k4))])]), (.pr .mul [(.pr .mul [(.c (.int k1)), (.slot 2)]), (.slot 2)])]), (.c (.int k3))]), (.c (.int 5))])]), (.c (.int 2147483563))]), .ret (.pr .mod [(.pr .int [(.pr .fdiv [(.slot 4), (.c (.int 16))])]), (.slot 1)])]⟩
section
variable {β : Type} {ns : List Int} {p g : Int} {f : IV → M β}
@[simp] theorem it2 : (M.bind (prM .item [.cell 0, .int 2]) f) (PS ns p g) = f (.int g) (PS ns p g) := rfl
@[simp] theorem it1 : (M.bind (prM .item [.cell 0, .int 1]) f) (PS ns p g) = f (.int p) (PS ns p g) := rfl
@[simp] theorem it0 : (M.bind (prM .item [.cell 0, .int 0]) f) (PS ns p g) = f (.lst (ns.map IV.int)) (PS ns p g) := rfl
@[simp] theorem st2 {k : Unit → M β} {v : Int} : (M.bind (setCell (.cell 0) (.int 2) (.int v)) k) (PS ns p g) = k () (PS ns p v) := rfl
@[simp] theorem st1 {k : Unit → M β} {v : Int} : (M.bind (setCell (.cell 0) (.int 1) (.int v)) k) (PS ns p g) = k () (PS ns v g) := rfl
@[simp] theorem bind_ite_app {α : Type} (q : Prop) [Decidable q] (a b : M α) (k : α → M β) (h : Cells) : (M.bind (if q then a else b) k) h = if q then (M.bind a k) h else (M.bind b k) h := by split <;> rfl
@[simp] theorem ite_app {α : Type} (q : Prop) [Decidable q] (a b : M α) (h : Cells) : (if q then a else b) h = if q then a h else b h := by split <;> rfl
@[simp] theorem pure_app {α : Type} (a : α) (h : Cells) : (M.pure a) h = .ok a h := rfl
end
theorem test_bind {α : Type} {m : M α} {f : α → M IV} : M.test (M.bind m f) = M.bind m fun a => M.test (f a) := bind_assoc m f _
theorem test_ite {q : Prop} [Decidable q] {a b : M IV} : M.test (if q then a else b) = if q then M.test a else M.test b := by split <;> rfl
theorem pow18 : prM .pow [.int 10, .int 18] = M.pure (.int 1000000000000000000) := by
  rw [p_pow (by omega) (by omega) (by omega)]
  rfl
theorem log_small {m : Int} (h : m.natAbs < 2 ^ 64) : m.natAbs.log2 < 9000 := by
  by_cases h0 : m.natAbs = 0
  · rw [h0]; decide
  · have := (Nat.log2_lt h0).mpr h
    omega
theorem p_pow3 {a : Int} (h : a.natAbs < 2 ^ 64) : prM .pow [.int a, .int 3] = M.pure (.int (a ^ 3)) := p_pow (by omega) (by omega) h
theorem p_pow5 {a : Int} (h : a.natAbs < 2 ^ 64) : prM .pow [.int a, .int 5] = M.pure (.int (a ^ 5)) := p_pow (by omega) (by omega) h
theorem md1 (c : Int) : prM .mod [.int c, .int 2147483549] = M.pure (.int (c % 2147483549)) := p_mod (by omega)
theorem md2 (c : Int) : prM .mod [.int c, .int 2147483629] = M.pure (.int (c % 2147483629)) := p_mod (by omega)
theorem md3 (c : Int) : prM .mod [.int c, .int 2147483563] = M.pure (.int (c % 2147483563)) := p_mod (by omega)
theorem md4 (c : Int) : prM .fdiv [.int c, .int 16] = M.pure (.int (c / 16)) := p_fdiv (by omega) (by decide)
theorem md5 (c : Int) : prM .mul [.int 2, .int c] = M.pure (.int (2 * c)) := p_mul (.inl (by decide))
theorem mixed {many p k1 k2 k3 k4 : Int} (hm0 : 0 < many) (h1 : 0 ≤ k1 ∧ k1 ≤ 2000000) (h2 : 0 ≤ k2 ∧ k2 ≤ 2000000) (h3 : 0 ≤ k3 ∧ k3 ≤ 2000000) (h4 : 0 ≤ k4 ∧ k4 ≤ 2000000) (hp : 0 ≤ p) (hp1 : p ≤ 1000000) (c : Int) : ∃ d y z : Int, 0 ≤ d ∧ d < many ∧
      prM .pow [.int (c % 2147483549 + k3 * p + k2), .int 3] = M.pure (.int y) ∧
      prM .mul [.int (y % 2147483629), .int (2 * p + k4)] = M.pure (.int (y % 2147483629 * (2 * p + k4))) ∧
      prM .pow [.int (y % 2147483629 * (2 * p + k4) + k1 * p * p + k3), .int 5] = M.pure (.int z) ∧
      d = z % 2147483563 / 16 % many := by
  have b3 : 0 ≤ k3 * p ∧ k3 * p ≤ 2000000 * 1000000 := ⟨Int.mul_nonneg h3.1 hp, Int.mul_le_mul h3.2 hp1 hp (by omega)⟩
  have b1 : 0 ≤ k1 * p ∧ k1 * p ≤ 2000000 * 1000000 := ⟨Int.mul_nonneg h1.1 hp, Int.mul_le_mul h1.2 hp1 hp (by omega)⟩
  have b11 : 0 ≤ k1 * p * p ∧ k1 * p * p ≤ 2000000 * 1000000 * 1000000 := ⟨Int.mul_nonneg b1.1 hp, Int.mul_le_mul b1.2 hp1 hp (by omega)⟩
  have x1 := Int.emod_nonneg c (b := 2147483549) (by omega)
  have x2 := Int.emod_lt_of_pos c (b := 2147483549) (by omega)
  generalize c % 2147483549 = x at *
  have e3 := p_pow3 (a := x + k3 * p + k2) (by omega)
  generalize (x + k3 * p + k2) ^ 3 = y at *
  have y1 := Int.emod_nonneg y (b := 2147483629) (by omega)
  have y2 := Int.emod_lt_of_pos y (b := 2147483629) (by omega)
  have e4 : prM .mul [.int (y % 2147483629), .int (2 * p + k4)] = M.pure (.int (y % 2147483629 * (2 * p + k4))) := p_mul (.inl (by omega))
  have b5 : 0 ≤ y % 2147483629 * (2 * p + k4) ∧ y % 2147483629 * (2 * p + k4) ≤ 2147483629 * 4000000 := ⟨Int.mul_nonneg y1 (by omega), Int.mul_le_mul (by omega) (by omega) (by omega) (by omega)⟩
  have e5 := p_pow5 (a := y % 2147483629 * (2 * p + k4) + k1 * p * p + k3) (by omega)
  exact ⟨_, y, _, Int.emod_nonneg _ (by omega), Int.emod_lt_of_pos _ hm0, e3, e4, e5, rfl⟩
theorem run_cons {Φ : Nat → List IV → M IV} {W : Nat} {s : S} {r : List S} {fr fr' : Fr} {h h' : Cells} (e : xs1 Φ W s fr h = .ok (.nx fr') h') : xss Φ W (s :: r) fr h = xss Φ W r fr' h' := by
  rw [xss_cons]
  unfold M.bind
  rw [e]
  rfl
theorem run_ret {Φ : Nat → List IV → M IV} {W : Nat} {s : S} {r : List S} {fr : Fr} {h h' : Cells} {v : IV} (e : xs1 Φ W s fr h = .ok (.ret v) h') : xss Φ W (s :: r) fr h = .ok (.ret v) h' := by
  rw [xss_cons]
  unfold M.bind
  rw [e]
  rfl
theorem fin_of {m : M Fl} {h h' : Cells} {v : IV} (e : m h = .ok (.ret v) h') : (m.bind finF) h = .ok v h' := by
  unfold M.bind
  rw [e]
  rfl
theorem draw_run {fs : Nat → Option Fn} {W n i : Nat} {k1 k2 k3 k4 : Int} (hf : fs i = some (drawFn k1 k2 k3 k4)) (h1 : 0 ≤ k1 ∧ k1 ≤ 2000000) (h2 : 0 ≤ k2 ∧ k2 ≤ 2000000) (h3 : 0 ≤ k3 ∧ k3 ≤ 2000000) (h4 : 0 ≤ k4 ∧ k4 ≤ 2000000) (hn : 1 ≤ n) {many : Int} (hm : 1 ≤ many) (hm2 : many < 4611686018427387904) :
    Dr 1 (callF fs W n i [.cell 0, .int many]) fun v => ∃ d, v = .int d ∧ 0 ≤ d ∧ d < many := by
  intro ns p g hp hg hc
  obtain ⟨m, rfl⟩ : ∃ m, n = m + 1 := ⟨n - 1, by omega⟩
  rw [call_open hf rfl]
  have hlog := log_small (m := many) (by omega)
  generalize hΦ : callF fs W m = Φ
  have e0 : enter (drawFn k1 k2 k3 k4) [.cell 0, .int many] = [.val (.cell 0), .val (.int many), .non, .non, .non, .non, .non] := rfl
  rw [e0]
  by_cases c1 : many < 2
  · refine ⟨.int 0, p, g, fin_of (run_ret ?_), ⟨0, rfl, by omega, by omega⟩, by omega, by omega, hg⟩
    simp [c1]
  have hm0 : 0 < many := by omega
  have s1 : ∀ fr : Fr, slotV fr 1 = some (.int many) → xs1 Φ W (.ife (.pr .lt [(.slot 1), (.c (.int 2))]) [.ret (.c (.int 0))] []) fr (PS ns p g) = .ok (.nx fr) (PS ns p g) := fun fr h => by simp [h, c1]
  by_cases c2 : 0 < g
  · refine ⟨.int (g % many), p, g / many, fin_of ((run_cons (s1 _ rfl)).trans (run_ret ?_)), ⟨_, rfl, Int.emod_nonneg _ (by omega), Int.emod_lt_of_pos _ hm0⟩, by omega, by omega, Int.ediv_nonneg hg (by omega)⟩
    simp [bind_assoc, test_bind, c2, p_mod hm0, p_fdiv hm0 hlog]
  have m1 : prM .mul [.int k1, .int p] = M.pure (.int (k1 * p)) := p_mul (.inr (by omega))
  have m2 : prM .mul [.int k3, .int p] = M.pure (.int (k3 * p)) := p_mul (.inr (by omega))
  have hp1 : p ≤ 1000000 := by omega
  have m4 : prM .mul [.int (k1 * p), .int p] = M.pure (.int (k1 * p * p)) := p_mul (.inr (by omega))
  have s2 : xs1 Φ W (.ife (.pr .gt [(.pr .item [(.slot 0), (.c (.int 2))]), (.c (.int 0))]) [.asg 5 (.pr .mod [(.pr .int [(.pr .item [(.slot 0), (.c (.int 2))])]), (.slot 1)]), .seti (.slot 0) (.c (.int 2)) (.pr .fdiv [(.pr .int [(.pr .item [(.slot 0), (.c (.int 2))])]), (.slot 1)]), .ret (.slot 5)] []) [.val (.cell 0), .val (.int many), .non, .non, .non, .non, .non] (PS ns p g) = .ok (.nx [.val (.cell 0), .val (.int many), .non, .non, .non, .non, .non]) (PS ns p g) := by
    simp [bind_assoc, test_bind, c2]
  have s3 : xs1 Φ W (.asg 2 (.pr .item [(.slot 0), (.c (.int 1))])) [.val (.cell 0), .val (.int many), .non, .non, .non, .non, .non] (PS ns p g) = .ok (.nx [.val (.cell 0), .val (.int many), .val (.int p), .non, .non, .non, .non]) (PS ns p g) := by
    simp [bind_assoc]
  have s4 : xs1 Φ W (.seti (.slot 0) (.c (.int 1)) (.pr .add [(.slot 2), (.c (.int 1))])) [.val (.cell 0), .val (.int many), .val (.int p), .non, .non, .non, .non] (PS ns p g) = .ok (.nx [.val (.cell 0), .val (.int many), .val (.int p), .non, .non, .non, .non]) (PS ns (p + 1) g) := by
    simp [bind_assoc]
  have s5 : xs1 Φ W (.asg 3 (.pr .add [(.pr .mul [(.c (.int k1)), (.slot 2)]), (.c (.int k2))])) [.val (.cell 0), .val (.int many), .val (.int p), .non, .non, .non, .non] (PS ns (p + 1) g) = .ok (.nx [.val (.cell 0), .val (.int many), .val (.int p), .val (.int (k1 * p + k2)), .non, .non, .non]) (PS ns (p + 1) g) := by
    simp [bind_assoc, m1]
  have s6 : ∃ c : Int, xs1 Φ W (.ife (.pr .ne [(.pr .item [(.slot 0), (.c (.int 0))]), (.lst [])]) [.asg 3 (.pr .item [(.pr .item [(.slot 0), (.c (.int 0))]), (.pr .mod [(.pr .int [(.slot 2)]), (.pr .len [(.pr .item [(.slot 0), (.c (.int 0))])])])])] []) [.val (.cell 0), .val (.int many), .val (.int p), .val (.int (k1 * p + k2)), .non, .non, .non] (PS ns (p + 1) g) = .ok (.nx [.val (.cell 0), .val (.int many), .val (.int p), .val (.int c), .non, .non, .non]) (PS ns (p + 1) g) := by
    by_cases hns : ns = []
    · exact ⟨k1 * p + k2, by simp [bind_assoc, test_bind, hns]⟩
    · have hl : 0 < ns.length := List.length_pos_iff.mpr hns
      have hq0 := Int.emod_nonneg p (b := (ns.length : Int)) (by omega)
      have hq1 := Int.emod_lt_of_pos p (b := (ns.length : Int)) (by omega)
      have hml : prM .mod [.int p, .int ns.length] = M.pure (.int (p % ns.length)) := p_mod (by omega)
      obtain ⟨v, hv, _, hat⟩ := at_int (xs := ns.map IV.int) (i := p % ns.length) hq0 (by simpa using hq1)
      obtain ⟨c, _, rfl⟩ := List.mem_map.mp hv
      have hit := p_item_lst hat
      exact ⟨c, by simp [bind_assoc, test_bind, hns, hml, hit]⟩
  obtain ⟨c, s6⟩ := s6
  have s7 : ∀ r : Res Fl, r = (if p < ns.length ∧ 1000000000000000000 ≤ (if c < 0 then -c else c) then .ok (.ret (.int ((2 * ((if c < 0 then -c else c) - 1000000000000000000) + b2i (decide (c < 0))) % many))) (PS ns (p + 1) ((2 * ((if c < 0 then -c else c) - 1000000000000000000) + b2i (decide (c < 0))) / many)) else .ok (.nx [.val (.cell 0), .val (.int many), .val (.int p), .val (.int c), .non, .non, .non]) (PS ns (p + 1) g)) →
      xs1 Φ W (.ife (.and (.pr .lt [(.slot 2), (.pr .len [(.pr .item [(.slot 0), (.c (.int 0))])])]) (.pr .ge [(.pr .abs [(.slot 3)]), (.pr .pow [(.c (.int 10)), (.c (.int 18))])])) [.asg 6 (.pr .add [(.pr .mul [(.c (.int 2)), (.pr .sub [(.pr .abs [(.slot 3)]), (.pr .pow [(.c (.int 10)), (.c (.int 18))])])]), (.pr .int [(.pr .lt [(.slot 3), (.c (.int 0))])])]), .seti (.slot 0) (.c (.int 2)) (.pr .fdiv [(.pr .int [(.slot 6)]), (.slot 1)]), .ret (.pr .mod [(.pr .int [(.slot 6)]), (.slot 1)])] []) [.val (.cell 0), .val (.int many), .val (.int p), .val (.int c), .non, .non, .non] (PS ns (p + 1) g) = r := by
    intro r hr
    rw [hr]
    by_cases c4 : p < ns.length
    · generalize hcc : (if c < 0 then -c else c) = cc
      have hab : prM .abs [.int c] = M.pure (.int cc) := by rw [← hcc]; exact p_abs
      by_cases c5 : 1000000000000000000 ≤ cc
      · simp [bind_assoc, test_bind, pow18, md5, hab, c4, c5, p_mod hm0, p_fdiv hm0 hlog, -p_abs]
      · simp [bind_assoc, test_bind, pow18, hab, c4, c5, -p_abs]
    · simp [bind_assoc, test_bind, c4]
  by_cases c3 : p < ns.length ∧ 1000000000000000000 ≤ (if c < 0 then -c else c)
  · rw [if_pos c3] at s7
    have gr : 0 ≤ 2 * ((if c < 0 then -c else c) - 1000000000000000000) + b2i (decide (c < 0)) := by
      have : 0 ≤ b2i (decide (c < 0)) := by unfold b2i; split <;> omega
      omega
    exact ⟨_, p + 1, _, fin_of ((run_cons (s1 _ rfl)).trans ((run_cons s2).trans ((run_cons s3).trans ((run_cons s4).trans ((run_cons s5).trans ((run_cons s6).trans (run_ret (s7 _ rfl)))))))), ⟨_, rfl, Int.emod_nonneg _ (by omega), Int.emod_lt_of_pos _ hm0⟩, by omega, by omega, Int.ediv_nonneg gr (by omega)⟩
  · rw [if_neg c3] at s7
    obtain ⟨d, y, z, d0, d1, e1, e2, e3, e4⟩ := mixed hm0 h1 h2 h3 h4 hp hp1 c
    have s8 : xs1 Φ W (.asg 4 (.pr .mod [(.pr .int [(.pr .pow [(.pr .add [(.pr .add [(.pr .mod [(.pr .int [(.slot 3)]), (.c (.int 2147483549))]), (.pr .mul [(.c (.int k3)), (.slot 2)])]), (.c (.int k2))]), (.c (.int 3))])]), (.c (.int 2147483629))])) [.val (.cell 0), .val (.int many), .val (.int p), .val (.int c), .non, .non, .non] (PS ns (p + 1) g) = .ok (.nx [.val (.cell 0), .val (.int many), .val (.int p), .val (.int c), .val (.int (y % 2147483629)), .non, .non]) (PS ns (p + 1) g) := by
      simp [md1, md2, m2, e1]
    have s9 : xs1 Φ W (.asg 4 (.pr .mod [(.pr .int [(.pr .pow [(.pr .add [(.pr .add [(.pr .mul [(.slot 4), (.pr .add [(.pr .mul [(.c (.int 2)), (.slot 2)]), (.c (.int k4))])]), (.pr .mul [(.pr .mul [(.c (.int k1)), (.slot 2)]), (.slot 2)])]), (.c (.int k3))]), (.c (.int 5))])]), (.c (.int 2147483563))])) [.val (.cell 0), .val (.int many), .val (.int p), .val (.int c), .val (.int (y % 2147483629)), .non, .non] (PS ns (p + 1) g) = .ok (.nx [.val (.cell 0), .val (.int many), .val (.int p), .val (.int c), .val (.int (z % 2147483563)), .non, .non]) (PS ns (p + 1) g) := by
      simp [md5, md3, m1, m4, e2, e3]
    have s10 : xs1 Φ W (.ret (.pr .mod [(.pr .int [(.pr .fdiv [(.slot 4), (.c (.int 16))])]), (.slot 1)])) [.val (.cell 0), .val (.int many), .val (.int p), .val (.int c), .val (.int (z % 2147483563)), .non, .non] (PS ns (p + 1) g) = .ok (.ret (.int d)) (PS ns (p + 1) g) := by
      simp [md4, p_mod hm0, e4]
    exact ⟨.int d, p + 1, g, fin_of ((run_cons (s1 _ rfl)).trans ((run_cons s2).trans ((run_cons s3).trans ((run_cons s4).trans ((run_cons s5).trans ((run_cons s6).trans ((run_cons (s7 _ rfl)).trans ((run_cons s8).trans ((run_cons s9).trans (run_ret s10)))))))))), ⟨d, rfl, d0, d1⟩, by omega, by omega, hg⟩
end PL

set_option Elab.async false
set_option linter.all false
set_option maxRecDepth 100000
/-! the defs of the law, as the evaluator has them -/
namespace Kf
open PI
def f_is_integer : Fn := ⟨1, 1, [.ret (.and (.pr (.isi [.int]) [(.slot 0)]) (.not (.pr (.isi [.bool]) [(.slot 0)])))]⟩
def f_is_listed : Fn := ⟨1, 1, [.ret (.pr (.isi [.list, .tuple]) [(.slot 0)])]⟩
def f_is_name : Fn := ⟨1, 2, [.ret (.and (.pr (.isi [.str]) [(.slot 0)]) (.and (.chain .le .le (.c (.int 1)) (.pr .len [(.slot 0)]) (.c (.int 8))) (.pr .all [(.comp (.one 1) .val [(.slot 0)] [] (.pr .inn [(.slot 1), (.c (.str [97, 98, 99, 100, 101, 102, 103, 104, 105, 106, 107, 108, 109, 110, 111, 112, 113, 114, 115, 116, 117, 118, 119, 120, 121, 122]))]))])))]⟩
def f_fixed : Fn := ⟨1, 3, [.ife (.pr (.isi [.list, .tuple]) [(.slot 0)]) [.ret (.pr .tuple [(.comp (.one 1) .val [(.slot 0)] [] (.call 3 [(.slot 1)]))])] [], .ife (.pr (.isi [.dict]) [(.slot 0)]) [.ret (.dcomp (.many [2, 1]) .items [(.slot 0)] (.slot 2) (.call 3 [(.slot 1)]))] [], .ret (.slot 0)]⟩
def f_is_same : Fn := ⟨2, 5, [.ife (.and (.pr (.isi [.tuple]) [(.slot 0)]) (.pr (.isi [.tuple]) [(.slot 1)])) [.ret (.and (.pr .eq [(.pr .len [(.slot 0)]), (.pr .len [(.slot 1)])]) (.pr .all [(.comp (.many [3, 4]) .zip [(.slot 0), (.slot 1)] [] (.call 4 [(.slot 3), (.slot 4)]))]))] [], .ife (.and (.pr (.isi [.dict]) [(.slot 0)]) (.pr (.isi [.dict]) [(.slot 1)])) [.ret (.and (.pr .eq [(.pr .sorted [(.slot 0)]), (.pr .sorted [(.slot 1)])]) (.pr .all [(.comp (.one 2) .val [(.slot 0)] [] (.call 4 [(.pr .item [(.slot 0), (.slot 2)]), (.pr .item [(.slot 1), (.slot 2)])]))]))] [], .ret (.and (.pr .eq [(.pr (.isi [.bool]) [(.slot 0)]), (.pr (.isi [.bool]) [(.slot 1)])]) (.pr .bool [(.pr .eq [(.slot 0), (.slot 1)])]))]⟩
def f_sort_of : Fn := ⟨1, 2, [.ife (.pr .isnon [(.slot 0)]) [.ret (.c (.str [110, 117, 108, 108]))] [], .ife (.pr (.isi [.bool]) [(.slot 0)]) [.ret (.c (.str [116, 114, 117, 116, 104]))] [], .ife (.call 0 [(.slot 0)]) [.ret (.ife (.pr .lt [(.pr .abs [(.slot 0)]), (.c (.int 1000000000000000000000000000000000000000000000000000000000000))]) (.c (.str [110, 117, 109, 98, 101, 114])) (.c .non))] [], .ife (.pr (.isi [.str]) [(.slot 0)]) [.ret (.ife (.pr .le [(.pr .len [(.slot 0)]), (.c (.int 2000))]) (.c (.str [116, 101, 120, 116])) (.c .non))] [], .ife (.call 1 [(.slot 0)]) [.ret (.c (.str [108, 105, 115, 116]))] [], .ife (.pr (.isi [.dict]) [(.slot 0)]) [.ret (.ife (.pr .all [(.comp (.one 1) .val [(.slot 0)] [] (.call 2 [(.slot 1)]))]) (.c (.str [114, 101, 99, 111, 114, 100])) (.c .non))] [], .ret (.c .non)]⟩
def f_parts_of : Fn := ⟨1, 2, [.ife (.call 1 [(.slot 0)]) [.ret (.pr .list [(.slot 0)])] [], .ret (.ife (.pr (.isi [.dict]) [(.slot 0)]) (.comp (.one 1) .val [(.pr .sorted [(.slot 0)])] [] (.pr .item [(.slot 0), (.slot 1)])) (.lst []))]⟩
def f_is_document : Fn := ⟨1, 7, [.par 1 2 true false (.lst [(.tup [(.slot 0), (.c (.int 1))])]) (.c (.int 0)), .while (.pr .ne [(.own 1), (.lst [])]) [.pop (.many [3, 4]) 1, .par 5 2 false false (.call 5 [(.slot 3)]) (.pr .add [(.slot 2), (.c (.int 1))]), .ife (.or (.pr .isnon [(.slot 5)]) (.or (.pr .gt [(.slot 2), (.c (.int 2000))]) (.pr .gt [(.slot 4), (.c (.int 12))]))) [.ret (.c (.bl false))] [], .ife (.pr .inn [(.slot 5), (.tup [(.c (.str [108, 105, 115, 116])), (.c (.str [114, 101, 99, 111, 114, 100]))])]) [.ife (.pr .gt [(.pr .add [(.pr .add [(.slot 2), (.pr .len [(.slot 3)])]), (.pr .len [(.own 1)])]), (.c (.int 2000))]) [.ret (.c (.bl false))] [], .ext 1 (.comp (.one 6) .val [(.call 6 [(.slot 3)])] [] (.tup [(.slot 6), (.pr .add [(.slot 4), (.c (.int 1))])]))] []], .ret (.c (.bl true))]⟩
def f_told : Fn := ⟨1, 3, [.ife (.call 1 [(.slot 0)]) [.ret (.pr .tuple [(.comp (.one 2) .val [(.slot 0)] [] (.call 8 [(.slot 2)]))])] [], .ife (.pr (.isi [.dict]) [(.slot 0)]) [.ret (.dcomp (.one 1) .val [(.pr .sorted [(.slot 0)])] (.slot 1) (.call 8 [(.pr .item [(.slot 0), (.slot 1)])]))] [], .ret (.slot 0)]⟩
def f_is_alike : Fn := ⟨2, 2, [.ret (.call 4 [(.call 3 [(.slot 0)]), (.call 3 [(.slot 1)])])]⟩
def f__law_pen : Fn := ⟨1, 1, [.retc (.lst [(.pr .list [(.pr (.cut false true) [(.slot 0), (.c (.int 63))])]), (.c (.int 0)), (.c (.int 0))])]⟩
def f__law_draw : Fn := ⟨2, 7, [.ife (.pr .lt [(.slot 1), (.c (.int 2))]) [.ret (.c (.int 0))] [], .ife (.pr .gt [(.pr .item [(.slot 0), (.c (.int 2))]), (.c (.int 0))]) [.asg 5 (.pr .mod [(.pr .int [(.pr .item [(.slot 0), (.c (.int 2))])]), (.slot 1)]), .seti (.slot 0) (.c (.int 2)) (.pr .fdiv [(.pr .int [(.pr .item [(.slot 0), (.c (.int 2))])]), (.slot 1)]), .ret (.slot 5)] [], .asg 2 (.pr .item [(.slot 0), (.c (.int 1))]), .seti (.slot 0) (.c (.int 1)) (.pr .add [(.slot 2), (.c (.int 1))]), .asg 3 (.pr .add [(.pr .mul [(.c (.int 50095)), (.slot 2)]), (.c (.int 6033))]), .ife (.pr .ne [(.pr .item [(.slot 0), (.c (.int 0))]), (.lst [])]) [.asg 3 (.pr .item [(.pr .item [(.slot 0), (.c (.int 0))]), (.pr .mod [(.pr .int [(.slot 2)]), (.pr .len [(.pr .item [(.slot 0), (.c (.int 0))])])])])] [], .ife (.and (.pr .lt [(.slot 2), (.pr .len [(.pr .item [(.slot 0), (.c (.int 0))])])]) (.pr .ge [(.pr .abs [(.slot 3)]), (.pr .pow [(.c (.int 10)), (.c (.int 18))])])) [.asg 6 (.pr .add [(.pr .mul [(.c (.int 2)), (.pr .sub [(.pr .abs [(.slot 3)]), (.pr .pow [(.c (.int 10)), (.c (.int 18))])])]), (.pr .int [(.pr .lt [(.slot 3), (.c (.int 0))])])]), .seti (.slot 0) (.c (.int 2)) (.pr .fdiv [(.pr .int [(.slot 6)]), (.slot 1)]), .ret (.pr .mod [(.pr .int [(.slot 6)]), (.slot 1)])] [], .asg 4 (.pr .mod [(.pr .int [(.pr .pow [(.pr .add [(.pr .add [(.pr .mod [(.pr .int [(.slot 3)]), (.c (.int 2147483549))]), (.pr .mul [(.c (.int 23061)), (.slot 2)])]), (.c (.int 6033))]), (.c (.int 3))])]), (.c (.int 2147483629))]), .asg 4 (.pr .mod [(.pr .int [(.pr .pow [(.pr .add [(.pr .add [(.pr .mul [(.slot 4), (.pr .add [(.pr .mul [(.c (.int 2)), (.slot 2)]), (.c (.int 5322))])]), (.pr .mul [(.pr .mul [(.c (.int 50095)), (.slot 2)]), (.slot 2)])]), (.c (.int 23061))]), (.c (.int 5))])]), (.c (.int 2147483563))]), .ret (.pr .mod [(.pr .int [(.pr .fdiv [(.slot 4), (.c (.int 16))])]), (.slot 1)])]⟩
def f__law_pick : Fn := ⟨2, 2, [.ret (.pr .item [(.slot 1), (.call 11 [(.slot 0), (.pr .len [(.slot 1)])])])]⟩
def f__law_names : Fn := ⟨2, 7, [.unp [2, 3] (.tup [(.c (.str [97, 98, 99, 100, 101, 102, 103, 104, 105, 106, 107, 108, 109, 110, 111, 112, 113, 114, 115, 116, 117, 118, 119, 120, 121, 122])), (.call 12 [(.slot 0), (.lst [(.c (.str [])), (.c (.str [])), (.c (.str [113])), (.c (.str [122, 122, 122, 122, 122, 122, 122]))])])]), .unp [4, 5] (.tup [(.call 11 [(.slot 0), (.c (.int 26))]), (.call 12 [(.slot 0), (.lst [(.c (.int 1)), (.c (.int 3)), (.c (.int 5)), (.c (.int 7)), (.c (.int 9)), (.c (.int 11))])])]), .ret (.pr .sorted [(.comp (.one 6) .range [(.slot 1)] [] (.pr .add [(.pr .item [(.slot 2), (.pr .mod [(.pr .int [(.pr .add [(.slot 4), (.pr .mul [(.slot 5), (.slot 6)])])]), (.c (.int 26))])]), (.slot 3)]))])]⟩
def f__law_type : Fn := ⟨3, 6, [.asg 3 (.call 11 [(.slot 0), (.c (.int 10))]), .ife (.or (.pr .eq [(.slot 1), (.c (.int 0))]) (.pr .lt [(.slot 3), (.c (.int 4))])) [.ife (.and (.pr .gt [(.slot 2), (.c (.int 0))]) (.pr .eq [(.call 11 [(.slot 0), (.c (.int 3))]), (.c (.int 0))])) [.ret (.tup [(.c (.str [108, 105, 115, 116])), (.call 14 [(.slot 0), (.pr .max [(.c (.int 0)), (.pr .sub [(.slot 1), (.c (.int 1))])]), (.pr .sub [(.slot 2), (.c (.int 1))])])])] [], .ret (.tup [(.call 12 [(.slot 0), (.lst [(.c (.str [110, 117, 109, 98, 101, 114])), (.c (.str [110, 117, 109, 98, 101, 114])), (.c (.str [116, 101, 120, 116])), (.c (.str [116, 101, 120, 116])), (.c (.str [116, 114, 117, 116, 104])), (.c (.str [110, 117, 108, 108]))])])])] [], .ife (.and (.pr .lt [(.slot 3), (.c (.int 6))]) (.pr .gt [(.slot 2), (.c (.int 0))])) [.ret (.tup [(.c (.str [108, 105, 115, 116])), (.call 14 [(.slot 0), (.pr .sub [(.slot 1), (.c (.int 1))]), (.pr .sub [(.slot 2), (.c (.int 1))])])])] [], .asg 4 (.call 13 [(.slot 0), (.pr .add [(.c (.int 1)), (.call 11 [(.slot 0), (.c (.int 3))])])]), .ret (.tup [(.c (.str [114, 101, 99, 111, 114, 100])), (.pr .tuple [(.comp (.one 5) .val [(.slot 4)] [] (.tup [(.slot 5), (.call 14 [(.slot 0), (.pr .sub [(.slot 1), (.c (.int 1))]), (.slot 2)])]))])])]⟩
def f__law_word : Fn := ⟨3, 4, [.ret (.join [] (.comp (.one 3) .range [(.call 11 [(.slot 0), (.pr .add [(.slot 2), (.c (.int 1))])])] [] (.call 12 [(.slot 0), (.slot 1)])))]⟩
def f__law_document : Fn := ⟨3, 6, [.ife (.pr .eq [(.pr .item [(.slot 1), (.c (.int 0))]), (.c (.str [110, 117, 108, 108]))]) [.ret (.c .non)] [], .ife (.pr .eq [(.pr .item [(.slot 1), (.c (.int 0))]), (.c (.str [116, 114, 117, 116, 104]))]) [.ret (.pr .eq [(.call 11 [(.slot 0), (.c (.int 2))]), (.c (.int 0))])] [], .ife (.pr .eq [(.pr .item [(.slot 1), (.c (.int 0))]), (.c (.str [110, 117, 109, 98, 101, 114]))]) [.ret (.call 12 [(.slot 0), (.lst [(.c (.int 0)), (.c (.int 1)), (.c (.int 2)), (.pr .sub [(.call 11 [(.slot 0), (.c (.int 20))]), (.c (.int 9))]), (.pr .sub [(.call 11 [(.slot 0), (.c (.int 20))]), (.c (.int 9))]), (.pr .sub [(.call 11 [(.slot 0), (.pr .mul [(.c (.int 2)), (.pr .pow [(.c (.int 10)), (.c (.int 9))])])]), (.pr .pow [(.c (.int 10)), (.c (.int 9))])])])])] [], .ife (.pr .eq [(.pr .item [(.slot 1), (.c (.int 0))]), (.c (.str [116, 101, 120, 116]))]) [.ret (.call 15 [(.slot 0), (.call 12 [(.slot 0), (.lst [(.c (.str [97, 98])), (.c (.str [97, 98])), (.c (.str [120, 121, 122, 32, 45]))])]), (.c (.int 3))])] [], .ife (.pr .eq [(.pr .item [(.slot 1), (.c (.int 0))]), (.c (.str [108, 105, 115, 116]))]) [.ret (.pr .tuple [(.comp (.one 3) .range [(.call 11 [(.slot 0), (.pr .add [(.slot 2), (.c (.int 1))])])] [] (.call 16 [(.slot 0), (.pr .item [(.slot 1), (.c (.int 1))]), (.slot 2)]))])] [], .ret (.pr .dictl [(.comp (.many [4, 5]) .val [(.pr .item [(.slot 1), (.c (.int 1))])] [] (.tup [(.slot 4), (.call 16 [(.slot 0), (.slot 5), (.slot 2)])]))])]⟩
def f__law_alike : Fn := ⟨2, 5, [.ife (.and (.pr (.isi [.list, .tuple]) [(.slot 0)]) (.pr (.isi [.list, .tuple]) [(.slot 1)])) [.ret (.and (.pr .eq [(.pr .len [(.slot 0)]), (.pr .len [(.slot 1)])]) (.pr .eq [(.comp (.many [3, 4]) .zip [(.slot 0), (.slot 1)] [(.not (.call 17 [(.slot 3), (.slot 4)]))] (.c (.int 1))), (.lst [])]))] [], .ife (.and (.pr (.isi [.dict]) [(.slot 0)]) (.pr (.isi [.dict]) [(.slot 1)])) [.ret (.and (.pr .eq [(.pr .sorted [(.slot 0)]), (.pr .sorted [(.slot 1)])]) (.pr .eq [(.comp (.one 2) .val [(.slot 0)] [(.not (.call 17 [(.pr .item [(.slot 0), (.slot 2)]), (.pr .item [(.slot 1), (.slot 2)])]))] (.c (.int 1))), (.lst [])]))] [], .ret (.and (.pr .eq [(.pr (.isi [.bool]) [(.slot 0)]), (.pr (.isi [.bool]) [(.slot 1)])]) (.and (.not (.pr (.isi [.list, .tuple, .dict]) [(.slot 0)])) (.and (.not (.pr (.isi [.list, .tuple, .dict]) [(.slot 1)])) (.pr .eq [(.slot 0), (.slot 1)]))))]⟩
def f__law_listed : Fn := ⟨1, 3, [.ife (.pr (.isi [.list, .tuple]) [(.slot 0)]) [.ret (.comp (.one 1) .val [(.slot 0)] [] (.call 18 [(.slot 1)]))] [], .ret (.ife (.pr (.isi [.dict]) [(.slot 0)]) (.pr .dictl [(.comp (.one 2) .val [(.slot 0)] [] (.tup [(.slot 2), (.call 18 [(.pr .item [(.slot 0), (.slot 2)])])]))]) (.slot 0))]⟩
def f__law_sort : Fn := ⟨1, 1, [.ife (.pr .isnon [(.slot 0)]) [.ret (.c (.str [110, 117, 108, 108]))] [], .ife (.pr (.isi [.bool]) [(.slot 0)]) [.ret (.c (.str [116, 114, 117, 116, 104]))] [], .ife (.pr (.isi [.int]) [(.slot 0)]) [.ret (.c (.str [110, 117, 109, 98, 101, 114]))] [], .ife (.pr (.isi [.str]) [(.slot 0)]) [.ret (.c (.str [116, 101, 120, 116]))] [], .ret (.ife (.pr (.isi [.list, .tuple]) [(.slot 0)]) (.c (.str [108, 105, 115, 116])) (.c (.str [114, 101, 99, 111, 114, 100])))]⟩
def f__law_odd : Fn := ⟨1, 1, [.ret (.call 12 [(.slot 0), (.lst [(.dict [.str [65]] [(.c (.int 1))]), (.dict [.int 1] [(.c (.int 2))]), (.dict [.str []] [(.c (.int 1))]), (.dict [.str [97, 98, 99, 100, 101, 102, 103, 104, 105]] [(.c (.int 1))]), (.c (.odd 0)), (.pr .pow [(.c (.int 10)), (.c (.int 60))]), (.pr .neg [(.pr .pow [(.c (.int 10)), (.c (.int 60))])]), (.pr .mul [(.c (.str [120])), (.c (.int 2001))]), (.dict [.str [97, 49]] [(.c (.int 1))]), (.c (.odd 1))])])]⟩
def f__law_bent : Fn := ⟨3, 5, [.ife (.and (.pr (.isi [.dict]) [(.slot 1)]) (.and (.pr .ne [(.slot 1), (.dict [] [])]) (.pr .gt [(.call 11 [(.slot 0), (.c (.int 4))]), (.c (.int 0))]))) [.asg 3 (.call 12 [(.slot 0), (.pr .sorted [(.slot 1)])]), .ret (.pr .dictl [(.pr .add [(.pr .ditems [(.slot 1)]), (.lst [(.tup [(.slot 3), (.call 21 [(.slot 0), (.pr .item [(.slot 1), (.slot 3)]), (.slot 2)])])])])])] [], .ife (.and (.pr (.isi [.list, .tuple]) [(.slot 1)]) (.and (.pr .gt [(.pr .len [(.slot 1)]), (.c (.int 0))]) (.pr .gt [(.call 11 [(.slot 0), (.c (.int 4))]), (.c (.int 0))]))) [.asg 4 (.call 11 [(.slot 0), (.pr .len [(.slot 1)])]), .ret (.pr .add [(.pr .add [(.pr .tuple [(.pr (.cut false true) [(.slot 1), (.slot 4)])]), (.tup [(.call 21 [(.slot 0), (.pr .item [(.slot 1), (.slot 4)]), (.slot 2)])])]), (.pr .tuple [(.pr (.cut true false) [(.slot 1), (.pr .add [(.slot 4), (.c (.int 1))])])])])] [], .ret (.slot 2)]⟩
def f__law_deep : Fn := ⟨2, 3, [.for (.one 2) .range [(.slot 0)] [.asg 1 (.ife (.pr .eq [(.pr .mod [(.pr .int [(.slot 2)]), (.c (.int 2))]), (.c (.int 0))]) (.lst [(.slot 1)]) (.dict [.str [97]] [(.slot 1)]))], .ret (.slot 1)]⟩
def f_law : Fn := ⟨1, 13, [.asg 1 (.call 10 [(.slot 0)]), .for (.one 2) .range [(.c (.int 6))] [.asg 4 (.call 14 [(.slot 1), (.c (.int 3)), (.c (.int 2))]), .asg 5 (.call 16 [(.slot 1), (.slot 4), (.c (.int 3))]), .ife (.or (.pr (.notb true) [(.call 7 [(.slot 5)])]) (.or (.pr (.notb true) [(.callk 7 [.inl 0] [(.call 18 [(.slot 5)])])]) (.pr .ne [(.call 5 [(.slot 5)]), (.call 19 [(.slot 5)])]))) [.ret (.c (.bl false))] [], .asg 6 (.call 8 [(.call 18 [(.slot 5)])]), .ife (.or (.pr .ne [(.pr .repr [(.slot 6)]), (.pr .repr [(.slot 5)])]) (.or (.not (.call 9 [(.slot 5), (.call 18 [(.slot 5)])])) (.pr .ne [(.pr .repr [(.callk 8 [.inl 0] [(.slot 5)])]), (.pr .repr [(.slot 5)])]))) [.ret (.c (.bl false))] [], .asg 7 (.call 21 [(.slot 1), (.slot 5), (.call 12 [(.slot 1), (.lst [(.c (.int 0)), (.c (.int 1)), (.c (.bl true)), (.c (.bl false)), (.c .non), (.c (.str [97])), (.tup []), (.dict [] []), (.dict [.str [113]] [(.c (.int 1))])])])]), .ife (.or (.pr .ne [(.call 9 [(.slot 5), (.slot 7)]), (.call 17 [(.slot 5), (.slot 7)])]) (.pr .ne [(.callk 9 [.inl 1, .inl 0] [(.slot 5), (.call 18 [(.slot 7)])]), (.call 17 [(.slot 5), (.slot 7)])])) [.ret (.c (.bl false))] [], .asg 8 (.call 20 [(.slot 1)]), .ife (.or (.pr (.notb false) [(.call 7 [(.call 21 [(.slot 1), (.slot 5), (.slot 8)])])]) (.pr .notnon [(.call 5 [(.slot 8)])])) [.ret (.c (.bl false))] [], .asg 9 (.ife (.pr (.isi [.tuple]) [(.slot 5)]) (.pr .list [(.slot 5)]) (.ife (.pr (.isi [.dict]) [(.slot 5)]) (.comp (.one 12) .val [(.pr .sorted [(.slot 5)])] [] (.pr .item [(.slot 5), (.slot 12)])) (.lst []))), .ife (.pr .ne [(.pr .repr [(.call 6 [(.slot 5)])]), (.pr .repr [(.slot 9)])]) [.ret (.c (.bl false))] []], .asg 3 (.call 12 [(.slot 1), (.lst [(.pr .sub [(.pr .pow [(.c (.int 10)), (.c (.int 60))]), (.c (.int 1))]), (.pr .sub [(.c (.int 1)), (.pr .pow [(.c (.int 10)), (.c (.int 60))])]), (.pr .mul [(.c (.str [120])), (.c (.int 2000))]), (.dict [.str [97, 98, 99, 100, 101, 102, 103, 104]] [(.lst [(.c .non)])])])]), .ife (.or (.pr (.notb true) [(.call 7 [(.slot 3)])]) (.or (.pr (.notb true) [(.call 7 [(.call 22 [(.c (.int 11)), (.ife (.not (.pr (.isi [.dict]) [(.slot 3)])) (.slot 3) (.c (.int 1)))])])]) (.pr (.notb false) [(.call 7 [(.call 22 [(.c (.int 12)), (.c (.int 1))])])]))) [.ret (.c (.bl false))] [], .par 10 11 false false (.pr .mul [(.lst [(.c (.int 0))]), (.c (.int 1999))]) (.pr .mul [(.lst [(.c (.int 0))]), (.c (.int 43))]), .ife (.or (.pr (.notb true) [(.call 7 [(.slot 10)])]) (.or (.pr (.notb false) [(.call 7 [(.pr .add [(.slot 10), (.lst [(.c (.int 0))])])])]) (.or (.pr (.notb true) [(.call 7 [(.pr .mul [(.lst [(.slot 11)]), (.c (.int 45))])])]) (.pr (.notb false) [(.call 7 [(.pr .mul [(.lst [(.slot 11)]), (.c (.int 46))])])])))) [.ret (.c (.bl false))] [], .ret (.and (.pr .eq [(.call 5 [(.lst [(.dict [.int 1] [(.c (.int 2))])])]), (.c (.str [108, 105, 115, 116]))]) (.pr .eq [(.call 5 [(.dict [.str [97]] [(.dict [.int 1] [(.c (.int 2))])])]), (.c (.str [114, 101, 99, 111, 114, 100]))]))]⟩
def fs : Nat → Option Fn
  | 0 => some f_is_integer
  | 1 => some f_is_listed
  | 2 => some f_is_name
  | 3 => some f_fixed
  | 4 => some f_is_same
  | 5 => some f_sort_of
  | 6 => some f_parts_of
  | 7 => some f_is_document
  | 8 => some f_told
  | 9 => some f_is_alike
  | 10 => some f__law_pen
  | 11 => some f__law_draw
  | 12 => some f__law_pick
  | 13 => some f__law_names
  | 14 => some f__law_type
  | 15 => some f__law_word
  | 16 => some f__law_document
  | 17 => some f__law_alike
  | 18 => some f__law_listed
  | 19 => some f__law_sort
  | 20 => some f__law_odd
  | 21 => some f__law_bent
  | 22 => some f__law_deep
  | 23 => some f_law
  | _ => none
end Kf

set_option Elab.async false
set_option linter.all false
set_option maxRecDepth 100000
set_option maxHeartbeats 0
namespace Kf
open PySem PySem.Spec PyProof.Rows L2 PI
def topS (i : Nat) : Stmt := PySem.Challenge.pw_pairstell_k01_documents_and_what_is_none.main.body.getD i (.Pass ⟨0, 0, 0, 0⟩)
def dd (x : Str) (st : Stmt) : He.DefD := ⟨(x, none), x, x, defArgs st, defBody st, defScope st, [], []⟩
def fn : List He.DefD := [dd "is_integer" (topS 3), dd "is_listed" (topS 4), dd "is_name" (topS 5), dd "fixed" (topS 7), dd "is_same" (topS 8), dd "sort_of" (topS 20), dd "parts_of" (topS 21), dd "is_document" (topS 22), dd "told" (topS 23), dd "is_alike" (topS 24), dd "_law_pen" (topS 26), dd "_law_draw" (topS 27), dd "_law_pick" (topS 28), dd "_law_names" (topS 29), dd "_law_type" (topS 30), dd "_law_word" (topS 31), dd "_law_document" (topS 32), dd "_law_alike" (topS 33), dd "_law_listed" (topS 34), dd "_law_sort" (topS 35), dd "_law_odd" (topS 36), dd "_law_bent" (topS 37), dd "_law_deep" (topS 38), dd "law" (topS 39)]
def fa : List He.Fa := ([.glo "is_integer", .glo "is_listed", .glo "is_name", .glo "fixed", .glo "is_same", .glo "sort_of", .glo "parts_of", .glo "is_document", .glo "told", .glo "is_alike", .glo "_law_pen", .glo "_law_draw", .glo "_law_pick", .glo "_law_names", .glo "_law_type", .glo "_law_word", .glo "_law_document", .glo "_law_alike", .glo "_law_listed", .glo "_law_sort"] : List He.Fa) ++ ([.glo "_law_odd", .glo "_law_bent", .glo "_law_deep", .glo "law", .str "LETTERS" "abcdefghijklmnopqrstuvwxyz", .int "MOST_NAME" 8, .str "NULL" "null", .str "TRUTH" "truth", .str "NUMBER" "number", .str "TEXT" "text", .str "LIST" "list", .str "RECORD" "record", .int "MOST_NODES" 2000, .int "MOST_DEEP" 12, .int "MOST_SIGNS" 2000, .int "BOUND" 1000000000000000000000000000000000000000000000000000000000000, .free "abs", .free "all", .free "bool", .free "dict"] : List He.Fa) ++ ([.free "int", .free "isinstance", .free "len", .free "list", .free "max", .free "range", .free "repr", .free "sorted", .free "str", .free "tuple", .free "zip"] : List He.Fa)
abbrev R : PySem.W.OpenRow := PySem.W.OpenLaw.row PySem.Challenge.rw_pairstell_k01_documents_and_what_is_none
abbrev hk : PySem.W.Hook := He.hookD 4 fa fn
def ob (s : PySem.W.SharedT) : He.AlD := He.obsDG 4 fa fn (HandSHeadRun.getT s)
theorem ob_eq (s : PySem.W.SharedT) : ob s = hk.obs s.abs := He.obsDG_eq (HandSHeadRun.getT_eq s)
def lo : List PySem.Str := (["LETTERS", "MOST_NAME", "is_integer", "is_listed", "is_name", "fixed", "is_same", "NULL", "TRUTH", "NUMBER", "TEXT", "LIST", "RECORD", "MOST_NODES", "MOST_DEEP", "MOST_SIGNS", "BOUND", "sort_of", "parts_of", "is_document", "told", "is_alike", "_law_pen", "_law_draw", "_law_pick", "_law_names", "_law_type", "_law_word", "_law_document", "_law_alike"] : List PySem.Str) ++ (["_law_listed", "_law_sort", "_law_odd", "_law_bent", "_law_deep"] : List PySem.Str)
theorem run (w : World) : HandSHeadRun.RunEq R (PySem.W.view R.prog [39]) hk ob 3000 lo w := by
  intro os
  kernel_rfl
def tab0 : Tab := [("is_integer", .fn 0 1), ("is_listed", .fn 1 1), ("is_name", .fn 2 1), ("fixed", .fn 3 1), ("is_same", .fn 4 2), ("sort_of", .fn 5 1), ("parts_of", .fn 6 1), ("is_document", .fn 7 1), ("told", .fn 8 1), ("is_alike", .fn 9 2), ("_law_pen", .fn 10 1), ("_law_draw", .fn 11 2), ("_law_pick", .fn 12 2), ("_law_names", .fn 13 2), ("_law_type", .fn 14 3), ("_law_word", .fn 15 3), ("_law_document", .fn 16 3), ("_law_alike", .fn 17 2), ("_law_listed", .fn 18 1), ("_law_sort", .fn 19 1)]
def tab1 : Tab := [("_law_odd", .fn 20 1), ("_law_bent", .fn 21 3), ("_law_deep", .fn 22 2), ("law", .fn 23 1), ("LETTERS", .con (.str [97, 98, 99, 100, 101, 102, 103, 104, 105, 106, 107, 108, 109, 110, 111, 112, 113, 114, 115, 116, 117, 118, 119, 120, 121, 122])), ("MOST_NAME", .con (.int 8)), ("NULL", .con (.str [110, 117, 108, 108])), ("TRUTH", .con (.str [116, 114, 117, 116, 104])), ("NUMBER", .con (.str [110, 117, 109, 98, 101, 114])), ("TEXT", .con (.str [116, 101, 120, 116])), ("LIST", .con (.str [108, 105, 115, 116])), ("RECORD", .con (.str [114, 101, 99, 111, 114, 100])), ("MOST_NODES", .con (.int 2000)), ("MOST_DEEP", .con (.int 12)), ("MOST_SIGNS", .con (.int 2000)), ("BOUND", .con (.int 1000000000000000000000000000000000000000000000000000000000000)), ("abs", .blt), ("all", .blt), ("bool", .blt), ("dict", .blt)]
def tab2 : Tab := [("int", .blt), ("isinstance", .blt), ("len", .blt), ("list", .blt), ("max", .blt), ("range", .blt), ("repr", .blt), ("sorted", .blt), ("str", .blt), ("tuple", .blt), ("zip", .blt), ("is_alike", .kw 9 0 ["other", "one"] [.inl 1, .inl 0]), ("is_document", .kw 7 0 ["value"] [.inl 0]), ("told", .kw 8 0 ["document"] [.inl 0])]
def tab : Tab := tab0 ++ tab1 ++ tab2
def N_is_integer : List Str := ["value"]
theorem c_is_integer : chkF tab N_is_integer ["value"] f_is_integer (defScope (topS 3)) (defBody (topS 3)) = true := by decide +kernel
theorem s_is_integer : FnScope N_is_integer ["value"] (defScope (topS 3)) := ⟨rfl, rfl, rfl, by decide +kernel, rfl, by decide +kernel, by decide +kernel⟩
def N_is_listed : List Str := ["value"]
theorem c_is_listed : chkF tab N_is_listed ["value"] f_is_listed (defScope (topS 4)) (defBody (topS 4)) = true := by decide +kernel
theorem s_is_listed : FnScope N_is_listed ["value"] (defScope (topS 4)) := ⟨rfl, rfl, rfl, by decide +kernel, rfl, by decide +kernel, by decide +kernel⟩
def N_is_name : List Str := ["value", "sign"]
theorem c_is_name : chkF tab N_is_name ["value"] f_is_name (defScope (topS 5)) (defBody (topS 5)) = true := by decide +kernel
theorem s_is_name : FnScope N_is_name ["value"] (defScope (topS 5)) := ⟨rfl, rfl, rfl, by decide +kernel, rfl, by decide +kernel, by decide +kernel⟩
def N_fixed : List Str := ["value", "part", "name"]
theorem c_fixed : chkF tab N_fixed ["value"] f_fixed (defScope (topS 7)) (defBody (topS 7)) = true := by decide +kernel
theorem s_fixed : FnScope N_fixed ["value"] (defScope (topS 7)) := ⟨rfl, rfl, rfl, by decide +kernel, rfl, by decide +kernel, by decide +kernel⟩
def N_is_same : List Str := ["one", "other", "name", "part", "its"]
theorem c_is_same : chkF tab N_is_same ["one", "other"] f_is_same (defScope (topS 8)) (defBody (topS 8)) = true := by decide +kernel
theorem s_is_same : FnScope N_is_same ["one", "other"] (defScope (topS 8)) := ⟨rfl, rfl, rfl, by decide +kernel, rfl, by decide +kernel, by decide +kernel⟩
def N_sort_of : List Str := ["value", "name"]
theorem c_sort_of : chkF tab N_sort_of ["value"] f_sort_of (defScope (topS 20)) (defBody (topS 20)) = true := by decide +kernel
theorem s_sort_of : FnScope N_sort_of ["value"] (defScope (topS 20)) := ⟨rfl, rfl, rfl, by decide +kernel, rfl, by decide +kernel, by decide +kernel⟩
def N_parts_of : List Str := ["value", "name"]
theorem c_parts_of : chkF tab N_parts_of ["value"] f_parts_of (defScope (topS 21)) (defBody (topS 21)) = true := by decide +kernel
theorem s_parts_of : FnScope N_parts_of ["value"] (defScope (topS 21)) := ⟨rfl, rfl, rfl, by decide +kernel, rfl, by decide +kernel, by decide +kernel⟩
def N_is_document : List Str := ["value", "line", "many", "part", "deep", "sort", "one"]
theorem c_is_document : chkF tab N_is_document ["value"] f_is_document (defScope (topS 22)) (defBody (topS 22)) = true := by decide +kernel
theorem s_is_document : FnScope N_is_document ["value"] (defScope (topS 22)) := ⟨rfl, rfl, rfl, by decide +kernel, rfl, by decide +kernel, by decide +kernel⟩
def N_told : List Str := ["document", "name", "part"]
theorem c_told : chkF tab N_told ["document"] f_told (defScope (topS 23)) (defBody (topS 23)) = true := by decide +kernel
theorem s_told : FnScope N_told ["document"] (defScope (topS 23)) := ⟨rfl, rfl, rfl, by decide +kernel, rfl, by decide +kernel, by decide +kernel⟩
def N_is_alike : List Str := ["one", "other"]
theorem c_is_alike : chkF tab N_is_alike ["one", "other"] f_is_alike (defScope (topS 24)) (defBody (topS 24)) = true := by decide +kernel
theorem s_is_alike : FnScope N_is_alike ["one", "other"] (defScope (topS 24)) := ⟨rfl, rfl, rfl, by decide +kernel, rfl, by decide +kernel, by decide +kernel⟩
def N__law_pen : List Str := ["script"]
theorem c__law_pen : chkF tab N__law_pen ["script"] f__law_pen (defScope (topS 26)) (defBody (topS 26)) = true := by decide +kernel
theorem s__law_pen : FnScope N__law_pen ["script"] (defScope (topS 26)) := ⟨rfl, rfl, rfl, by decide +kernel, rfl, by decide +kernel, by decide +kernel⟩
def N__law_draw : List Str := ["pen", "many", "at", "cell", "mixed", "digit", "great"]
theorem c__law_draw : chkF tab N__law_draw ["pen", "many"] f__law_draw (defScope (topS 27)) (defBody (topS 27)) = true := by decide +kernel
theorem s__law_draw : FnScope N__law_draw ["pen", "many"] (defScope (topS 27)) := ⟨rfl, rfl, rfl, by decide +kernel, rfl, by decide +kernel, by decide +kernel⟩
def N__law_pick : List Str := ["pen", "some"]
theorem c__law_pick : chkF tab N__law_pick ["pen", "some"] f__law_pick (defScope (topS 28)) (defBody (topS 28)) = true := by decide +kernel
theorem s__law_pick : FnScope N__law_pick ["pen", "some"] (defScope (topS 28)) := ⟨rfl, rfl, rfl, by decide +kernel, rfl, by decide +kernel, by decide +kernel⟩
def N__law_names : List Str := ["pen", "many", "letters", "ends", "start", "hop", "at"]
theorem c__law_names : chkF tab N__law_names ["pen", "many"] f__law_names (defScope (topS 29)) (defBody (topS 29)) = true := by decide +kernel
theorem s__law_names : FnScope N__law_names ["pen", "many"] (defScope (topS 29)) := ⟨rfl, rfl, rfl, by decide +kernel, rfl, by decide +kernel, by decide +kernel⟩
def N__law_type : List Str := ["pen", "deep", "lists", "way", "names", "name"]
theorem c__law_type : chkF tab N__law_type ["pen", "deep", "lists"] f__law_type (defScope (topS 30)) (defBody (topS 30)) = true := by decide +kernel
theorem s__law_type : FnScope N__law_type ["pen", "deep", "lists"] (defScope (topS 30)) := ⟨rfl, rfl, rfl, by decide +kernel, rfl, by decide +kernel, by decide +kernel⟩
def N__law_word : List Str := ["pen", "signs", "most", "turn"]
theorem c__law_word : chkF tab N__law_word ["pen", "signs", "most"] f__law_word (defScope (topS 31)) (defBody (topS 31)) = true := by decide +kernel
theorem s__law_word : FnScope N__law_word ["pen", "signs", "most"] (defScope (topS 31)) := ⟨rfl, rfl, rfl, by decide +kernel, rfl, by decide +kernel, by decide +kernel⟩
def N__law_document : List Str := ["pen", "kind", "most", "turn", "name", "one"]
theorem c__law_document : chkF tab N__law_document ["pen", "kind", "most"] f__law_document (defScope (topS 32)) (defBody (topS 32)) = true := by decide +kernel
theorem s__law_document : FnScope N__law_document ["pen", "kind", "most"] (defScope (topS 32)) := ⟨rfl, rfl, rfl, by decide +kernel, rfl, by decide +kernel, by decide +kernel⟩
def N__law_alike : List Str := ["one", "other", "name", "mine", "its"]
theorem c__law_alike : chkF tab N__law_alike ["one", "other"] f__law_alike (defScope (topS 33)) (defBody (topS 33)) = true := by decide +kernel
theorem s__law_alike : FnScope N__law_alike ["one", "other"] (defScope (topS 33)) := ⟨rfl, rfl, rfl, by decide +kernel, rfl, by decide +kernel, by decide +kernel⟩
def N__law_listed : List Str := ["value", "one", "name"]
theorem c__law_listed : chkF tab N__law_listed ["value"] f__law_listed (defScope (topS 34)) (defBody (topS 34)) = true := by decide +kernel
theorem s__law_listed : FnScope N__law_listed ["value"] (defScope (topS 34)) := ⟨rfl, rfl, rfl, by decide +kernel, rfl, by decide +kernel, by decide +kernel⟩
def N__law_sort : List Str := ["value"]
theorem c__law_sort : chkF tab N__law_sort ["value"] f__law_sort (defScope (topS 35)) (defBody (topS 35)) = true := by decide +kernel
theorem s__law_sort : FnScope N__law_sort ["value"] (defScope (topS 35)) := ⟨rfl, rfl, rfl, by decide +kernel, rfl, by decide +kernel, by decide +kernel⟩
def N__law_odd : List Str := ["pen"]
theorem c__law_odd : chkF tab N__law_odd ["pen"] f__law_odd (defScope (topS 36)) (defBody (topS 36)) = true := by decide +kernel
theorem s__law_odd : FnScope N__law_odd ["pen"] (defScope (topS 36)) := ⟨rfl, rfl, rfl, by decide +kernel, rfl, by decide +kernel, by decide +kernel⟩
def N__law_bent : List Str := ["pen", "document", "odd", "name", "at"]
theorem c__law_bent : chkF tab N__law_bent ["pen", "document", "odd"] f__law_bent (defScope (topS 37)) (defBody (topS 37)) = true := by decide +kernel
theorem s__law_bent : FnScope N__law_bent ["pen", "document", "odd"] (defScope (topS 37)) := ⟨rfl, rfl, rfl, by decide +kernel, rfl, by decide +kernel, by decide +kernel⟩
def N__law_deep : List Str := ["many", "inner", "at"]
theorem c__law_deep : chkF tab N__law_deep ["many", "inner"] f__law_deep (defScope (topS 38)) (defBody (topS 38)) = true := by decide +kernel
theorem s__law_deep : FnScope N__law_deep ["many", "inner"] (defScope (topS 38)) := ⟨rfl, rfl, rfl, by decide +kernel, rfl, by decide +kernel, by decide +kernel⟩
def N_law : List Str := ["script", "pen", "turn", "most", "kind", "document", "shown", "other", "odd", "parts", "wide", "row", "name"]
theorem c_law : chkF tab N_law ["script"] f_law (defScope (topS 39)) (defBody (topS 39)) = true := by decide +kernel
theorem s_law : FnScope N_law ["script"] (defScope (topS 39)) := ⟨rfl, rfl, rfl, by decide +kernel, rfl, by decide +kernel, by decide +kernel⟩
def nm : Nat → Str
  | 0 => "is_integer"
  | 1 => "is_listed"
  | 2 => "is_name"
  | 3 => "fixed"
  | 4 => "is_same"
  | 5 => "sort_of"
  | 6 => "parts_of"
  | 7 => "is_document"
  | 8 => "told"
  | 9 => "is_alike"
  | 10 => "_law_pen"
  | 11 => "_law_draw"
  | 12 => "_law_pick"
  | 13 => "_law_names"
  | 14 => "_law_type"
  | 15 => "_law_word"
  | 16 => "_law_document"
  | 17 => "_law_alike"
  | 18 => "_law_listed"
  | 19 => "_law_sort"
  | 20 => "_law_odd"
  | 21 => "_law_bent"
  | 22 => "_law_deep"
  | 23 => "law"
  | _ => ""
def Gf (K : PySem.W.Frag) : Gi := ⟨K, fun j => He.ga K (nm j)⟩
section
variable {K : PySem.W.Frag} {h : Heap} {mg : Str → Option Value}
abbrev FD_is_integer (K : PySem.W.Frag) (fd : FuncData) : Prop := FunD K "is_integer" "is_integer" (defArgs (topS 3)) (defBody (topS 3)) (defScope (topS 3)) [] [] (He.ga K "is_integer") fd
theorem d_is_integer (X : K.In h) (M : h.Ns mainGlobals mg) (c : He.SaysD fa fn K) {fd : FuncData} (F : FD_is_integer K fd) : DefOk K mg (Gf K) fs tab "is_integer" 0 fd ["value"] := ⟨_, _, _, _, _, _, _, _, _, F, s_is_integer, rfl, c_is_integer, He.glo_ok X M (c.fact 0 (f := .glo "is_integer") rfl)⟩
theorem b_is_integer {fd : FuncData} (F : FD_is_integer K fd) : Binds K fd ["value"] [] := F.bindsN fun _ _ _ _ _ _ us hl => match us, hl with | [_], _ => rfl
abbrev FD_is_listed (K : PySem.W.Frag) (fd : FuncData) : Prop := FunD K "is_listed" "is_listed" (defArgs (topS 4)) (defBody (topS 4)) (defScope (topS 4)) [] [] (He.ga K "is_listed") fd
theorem d_is_listed (X : K.In h) (M : h.Ns mainGlobals mg) (c : He.SaysD fa fn K) {fd : FuncData} (F : FD_is_listed K fd) : DefOk K mg (Gf K) fs tab "is_listed" 1 fd ["value"] := ⟨_, _, _, _, _, _, _, _, _, F, s_is_listed, rfl, c_is_listed, He.glo_ok X M (c.fact 1 (f := .glo "is_listed") rfl)⟩
theorem b_is_listed {fd : FuncData} (F : FD_is_listed K fd) : Binds K fd ["value"] [] := F.bindsN fun _ _ _ _ _ _ us hl => match us, hl with | [_], _ => rfl
abbrev FD_is_name (K : PySem.W.Frag) (fd : FuncData) : Prop := FunD K "is_name" "is_name" (defArgs (topS 5)) (defBody (topS 5)) (defScope (topS 5)) [] [] (He.ga K "is_name") fd
theorem d_is_name (X : K.In h) (M : h.Ns mainGlobals mg) (c : He.SaysD fa fn K) {fd : FuncData} (F : FD_is_name K fd) : DefOk K mg (Gf K) fs tab "is_name" 2 fd ["value"] := ⟨_, _, _, _, _, _, _, _, _, F, s_is_name, rfl, c_is_name, He.glo_ok X M (c.fact 2 (f := .glo "is_name") rfl)⟩
theorem b_is_name {fd : FuncData} (F : FD_is_name K fd) : Binds K fd ["value"] [] := F.bindsN fun _ _ _ _ _ _ us hl => match us, hl with | [_], _ => rfl
abbrev FD_fixed (K : PySem.W.Frag) (fd : FuncData) : Prop := FunD K "fixed" "fixed" (defArgs (topS 7)) (defBody (topS 7)) (defScope (topS 7)) [] [] (He.ga K "fixed") fd
theorem d_fixed (X : K.In h) (M : h.Ns mainGlobals mg) (c : He.SaysD fa fn K) {fd : FuncData} (F : FD_fixed K fd) : DefOk K mg (Gf K) fs tab "fixed" 3 fd ["value"] := ⟨_, _, _, _, _, _, _, _, _, F, s_fixed, rfl, c_fixed, He.glo_ok X M (c.fact 3 (f := .glo "fixed") rfl)⟩
theorem b_fixed {fd : FuncData} (F : FD_fixed K fd) : Binds K fd ["value"] [] := F.bindsN fun _ _ _ _ _ _ us hl => match us, hl with | [_], _ => rfl
abbrev FD_is_same (K : PySem.W.Frag) (fd : FuncData) : Prop := FunD K "is_same" "is_same" (defArgs (topS 8)) (defBody (topS 8)) (defScope (topS 8)) [] [] (He.ga K "is_same") fd
theorem d_is_same (X : K.In h) (M : h.Ns mainGlobals mg) (c : He.SaysD fa fn K) {fd : FuncData} (F : FD_is_same K fd) : DefOk K mg (Gf K) fs tab "is_same" 4 fd ["one", "other"] := ⟨_, _, _, _, _, _, _, _, _, F, s_is_same, rfl, c_is_same, He.glo_ok X M (c.fact 4 (f := .glo "is_same") rfl)⟩
theorem b_is_same {fd : FuncData} (F : FD_is_same K fd) : Binds K fd ["one", "other"] [] := F.bindsN fun _ _ _ _ _ _ us hl => match us, hl with | [_, _], _ => rfl
abbrev FD_sort_of (K : PySem.W.Frag) (fd : FuncData) : Prop := FunD K "sort_of" "sort_of" (defArgs (topS 20)) (defBody (topS 20)) (defScope (topS 20)) [] [] (He.ga K "sort_of") fd
theorem d_sort_of (X : K.In h) (M : h.Ns mainGlobals mg) (c : He.SaysD fa fn K) {fd : FuncData} (F : FD_sort_of K fd) : DefOk K mg (Gf K) fs tab "sort_of" 5 fd ["value"] := ⟨_, _, _, _, _, _, _, _, _, F, s_sort_of, rfl, c_sort_of, He.glo_ok X M (c.fact 5 (f := .glo "sort_of") rfl)⟩
theorem b_sort_of {fd : FuncData} (F : FD_sort_of K fd) : Binds K fd ["value"] [] := F.bindsN fun _ _ _ _ _ _ us hl => match us, hl with | [_], _ => rfl
abbrev FD_parts_of (K : PySem.W.Frag) (fd : FuncData) : Prop := FunD K "parts_of" "parts_of" (defArgs (topS 21)) (defBody (topS 21)) (defScope (topS 21)) [] [] (He.ga K "parts_of") fd
theorem d_parts_of (X : K.In h) (M : h.Ns mainGlobals mg) (c : He.SaysD fa fn K) {fd : FuncData} (F : FD_parts_of K fd) : DefOk K mg (Gf K) fs tab "parts_of" 6 fd ["value"] := ⟨_, _, _, _, _, _, _, _, _, F, s_parts_of, rfl, c_parts_of, He.glo_ok X M (c.fact 6 (f := .glo "parts_of") rfl)⟩
theorem b_parts_of {fd : FuncData} (F : FD_parts_of K fd) : Binds K fd ["value"] [] := F.bindsN fun _ _ _ _ _ _ us hl => match us, hl with | [_], _ => rfl
abbrev FD_is_document (K : PySem.W.Frag) (fd : FuncData) : Prop := FunD K "is_document" "is_document" (defArgs (topS 22)) (defBody (topS 22)) (defScope (topS 22)) [] [] (He.ga K "is_document") fd
theorem d_is_document (X : K.In h) (M : h.Ns mainGlobals mg) (c : He.SaysD fa fn K) {fd : FuncData} (F : FD_is_document K fd) : DefOk K mg (Gf K) fs tab "is_document" 7 fd ["value"] := ⟨_, _, _, _, _, _, _, _, _, F, s_is_document, rfl, c_is_document, He.glo_ok X M (c.fact 7 (f := .glo "is_document") rfl)⟩
theorem b_is_document {fd : FuncData} (F : FD_is_document K fd) : Binds K fd ["value"] [] := F.bindsN fun _ _ _ _ _ _ us hl => match us, hl with | [_], _ => rfl
abbrev FD_told (K : PySem.W.Frag) (fd : FuncData) : Prop := FunD K "told" "told" (defArgs (topS 23)) (defBody (topS 23)) (defScope (topS 23)) [] [] (He.ga K "told") fd
theorem d_told (X : K.In h) (M : h.Ns mainGlobals mg) (c : He.SaysD fa fn K) {fd : FuncData} (F : FD_told K fd) : DefOk K mg (Gf K) fs tab "told" 8 fd ["document"] := ⟨_, _, _, _, _, _, _, _, _, F, s_told, rfl, c_told, He.glo_ok X M (c.fact 8 (f := .glo "told") rfl)⟩
theorem b_told {fd : FuncData} (F : FD_told K fd) : Binds K fd ["document"] [] := F.bindsN fun _ _ _ _ _ _ us hl => match us, hl with | [_], _ => rfl
abbrev FD_is_alike (K : PySem.W.Frag) (fd : FuncData) : Prop := FunD K "is_alike" "is_alike" (defArgs (topS 24)) (defBody (topS 24)) (defScope (topS 24)) [] [] (He.ga K "is_alike") fd
theorem d_is_alike (X : K.In h) (M : h.Ns mainGlobals mg) (c : He.SaysD fa fn K) {fd : FuncData} (F : FD_is_alike K fd) : DefOk K mg (Gf K) fs tab "is_alike" 9 fd ["one", "other"] := ⟨_, _, _, _, _, _, _, _, _, F, s_is_alike, rfl, c_is_alike, He.glo_ok X M (c.fact 9 (f := .glo "is_alike") rfl)⟩
theorem b_is_alike {fd : FuncData} (F : FD_is_alike K fd) : Binds K fd ["one", "other"] [] := F.bindsN fun _ _ _ _ _ _ us hl => match us, hl with | [_, _], _ => rfl
abbrev FD__law_pen (K : PySem.W.Frag) (fd : FuncData) : Prop := FunD K "_law_pen" "_law_pen" (defArgs (topS 26)) (defBody (topS 26)) (defScope (topS 26)) [] [] (He.ga K "_law_pen") fd
theorem d__law_pen (X : K.In h) (M : h.Ns mainGlobals mg) (c : He.SaysD fa fn K) {fd : FuncData} (F : FD__law_pen K fd) : DefOk K mg (Gf K) fs tab "_law_pen" 10 fd ["script"] := ⟨_, _, _, _, _, _, _, _, _, F, s__law_pen, rfl, c__law_pen, He.glo_ok X M (c.fact 10 (f := .glo "_law_pen") rfl)⟩
theorem b__law_pen {fd : FuncData} (F : FD__law_pen K fd) : Binds K fd ["script"] [] := F.bindsN fun _ _ _ _ _ _ us hl => match us, hl with | [_], _ => rfl
abbrev FD__law_draw (K : PySem.W.Frag) (fd : FuncData) : Prop := FunD K "_law_draw" "_law_draw" (defArgs (topS 27)) (defBody (topS 27)) (defScope (topS 27)) [] [] (He.ga K "_law_draw") fd
theorem d__law_draw (X : K.In h) (M : h.Ns mainGlobals mg) (c : He.SaysD fa fn K) {fd : FuncData} (F : FD__law_draw K fd) : DefOk K mg (Gf K) fs tab "_law_draw" 11 fd ["pen", "many"] := ⟨_, _, _, _, _, _, _, _, _, F, s__law_draw, rfl, c__law_draw, He.glo_ok X M (c.fact 11 (f := .glo "_law_draw") rfl)⟩
theorem b__law_draw {fd : FuncData} (F : FD__law_draw K fd) : Binds K fd ["pen", "many"] [] := F.bindsN fun _ _ _ _ _ _ us hl => match us, hl with | [_, _], _ => rfl
abbrev FD__law_pick (K : PySem.W.Frag) (fd : FuncData) : Prop := FunD K "_law_pick" "_law_pick" (defArgs (topS 28)) (defBody (topS 28)) (defScope (topS 28)) [] [] (He.ga K "_law_pick") fd
theorem d__law_pick (X : K.In h) (M : h.Ns mainGlobals mg) (c : He.SaysD fa fn K) {fd : FuncData} (F : FD__law_pick K fd) : DefOk K mg (Gf K) fs tab "_law_pick" 12 fd ["pen", "some"] := ⟨_, _, _, _, _, _, _, _, _, F, s__law_pick, rfl, c__law_pick, He.glo_ok X M (c.fact 12 (f := .glo "_law_pick") rfl)⟩
theorem b__law_pick {fd : FuncData} (F : FD__law_pick K fd) : Binds K fd ["pen", "some"] [] := F.bindsN fun _ _ _ _ _ _ us hl => match us, hl with | [_, _], _ => rfl
abbrev FD__law_names (K : PySem.W.Frag) (fd : FuncData) : Prop := FunD K "_law_names" "_law_names" (defArgs (topS 29)) (defBody (topS 29)) (defScope (topS 29)) [] [] (He.ga K "_law_names") fd
theorem d__law_names (X : K.In h) (M : h.Ns mainGlobals mg) (c : He.SaysD fa fn K) {fd : FuncData} (F : FD__law_names K fd) : DefOk K mg (Gf K) fs tab "_law_names" 13 fd ["pen", "many"] := ⟨_, _, _, _, _, _, _, _, _, F, s__law_names, rfl, c__law_names, He.glo_ok X M (c.fact 13 (f := .glo "_law_names") rfl)⟩
theorem b__law_names {fd : FuncData} (F : FD__law_names K fd) : Binds K fd ["pen", "many"] [] := F.bindsN fun _ _ _ _ _ _ us hl => match us, hl with | [_, _], _ => rfl
abbrev FD__law_type (K : PySem.W.Frag) (fd : FuncData) : Prop := FunD K "_law_type" "_law_type" (defArgs (topS 30)) (defBody (topS 30)) (defScope (topS 30)) [] [] (He.ga K "_law_type") fd
theorem d__law_type (X : K.In h) (M : h.Ns mainGlobals mg) (c : He.SaysD fa fn K) {fd : FuncData} (F : FD__law_type K fd) : DefOk K mg (Gf K) fs tab "_law_type" 14 fd ["pen", "deep", "lists"] := ⟨_, _, _, _, _, _, _, _, _, F, s__law_type, rfl, c__law_type, He.glo_ok X M (c.fact 14 (f := .glo "_law_type") rfl)⟩
theorem b__law_type {fd : FuncData} (F : FD__law_type K fd) : Binds K fd ["pen", "deep", "lists"] [] := F.bindsN fun _ _ _ _ _ _ us hl => match us, hl with | [_, _, _], _ => rfl
abbrev FD__law_word (K : PySem.W.Frag) (fd : FuncData) : Prop := FunD K "_law_word" "_law_word" (defArgs (topS 31)) (defBody (topS 31)) (defScope (topS 31)) [] [] (He.ga K "_law_word") fd
theorem d__law_word (X : K.In h) (M : h.Ns mainGlobals mg) (c : He.SaysD fa fn K) {fd : FuncData} (F : FD__law_word K fd) : DefOk K mg (Gf K) fs tab "_law_word" 15 fd ["pen", "signs", "most"] := ⟨_, _, _, _, _, _, _, _, _, F, s__law_word, rfl, c__law_word, He.glo_ok X M (c.fact 15 (f := .glo "_law_word") rfl)⟩
theorem b__law_word {fd : FuncData} (F : FD__law_word K fd) : Binds K fd ["pen", "signs", "most"] [] := F.bindsN fun _ _ _ _ _ _ us hl => match us, hl with | [_, _, _], _ => rfl
abbrev FD__law_document (K : PySem.W.Frag) (fd : FuncData) : Prop := FunD K "_law_document" "_law_document" (defArgs (topS 32)) (defBody (topS 32)) (defScope (topS 32)) [] [] (He.ga K "_law_document") fd
theorem d__law_document (X : K.In h) (M : h.Ns mainGlobals mg) (c : He.SaysD fa fn K) {fd : FuncData} (F : FD__law_document K fd) : DefOk K mg (Gf K) fs tab "_law_document" 16 fd ["pen", "kind", "most"] := ⟨_, _, _, _, _, _, _, _, _, F, s__law_document, rfl, c__law_document, He.glo_ok X M (c.fact 16 (f := .glo "_law_document") rfl)⟩
theorem b__law_document {fd : FuncData} (F : FD__law_document K fd) : Binds K fd ["pen", "kind", "most"] [] := F.bindsN fun _ _ _ _ _ _ us hl => match us, hl with | [_, _, _], _ => rfl
abbrev FD__law_alike (K : PySem.W.Frag) (fd : FuncData) : Prop := FunD K "_law_alike" "_law_alike" (defArgs (topS 33)) (defBody (topS 33)) (defScope (topS 33)) [] [] (He.ga K "_law_alike") fd
theorem d__law_alike (X : K.In h) (M : h.Ns mainGlobals mg) (c : He.SaysD fa fn K) {fd : FuncData} (F : FD__law_alike K fd) : DefOk K mg (Gf K) fs tab "_law_alike" 17 fd ["one", "other"] := ⟨_, _, _, _, _, _, _, _, _, F, s__law_alike, rfl, c__law_alike, He.glo_ok X M (c.fact 17 (f := .glo "_law_alike") rfl)⟩
theorem b__law_alike {fd : FuncData} (F : FD__law_alike K fd) : Binds K fd ["one", "other"] [] := F.bindsN fun _ _ _ _ _ _ us hl => match us, hl with | [_, _], _ => rfl
abbrev FD__law_listed (K : PySem.W.Frag) (fd : FuncData) : Prop := FunD K "_law_listed" "_law_listed" (defArgs (topS 34)) (defBody (topS 34)) (defScope (topS 34)) [] [] (He.ga K "_law_listed") fd
theorem d__law_listed (X : K.In h) (M : h.Ns mainGlobals mg) (c : He.SaysD fa fn K) {fd : FuncData} (F : FD__law_listed K fd) : DefOk K mg (Gf K) fs tab "_law_listed" 18 fd ["value"] := ⟨_, _, _, _, _, _, _, _, _, F, s__law_listed, rfl, c__law_listed, He.glo_ok X M (c.fact 18 (f := .glo "_law_listed") rfl)⟩
theorem b__law_listed {fd : FuncData} (F : FD__law_listed K fd) : Binds K fd ["value"] [] := F.bindsN fun _ _ _ _ _ _ us hl => match us, hl with | [_], _ => rfl
abbrev FD__law_sort (K : PySem.W.Frag) (fd : FuncData) : Prop := FunD K "_law_sort" "_law_sort" (defArgs (topS 35)) (defBody (topS 35)) (defScope (topS 35)) [] [] (He.ga K "_law_sort") fd
theorem d__law_sort (X : K.In h) (M : h.Ns mainGlobals mg) (c : He.SaysD fa fn K) {fd : FuncData} (F : FD__law_sort K fd) : DefOk K mg (Gf K) fs tab "_law_sort" 19 fd ["value"] := ⟨_, _, _, _, _, _, _, _, _, F, s__law_sort, rfl, c__law_sort, He.glo_ok X M (c.fact 19 (f := .glo "_law_sort") rfl)⟩
theorem b__law_sort {fd : FuncData} (F : FD__law_sort K fd) : Binds K fd ["value"] [] := F.bindsN fun _ _ _ _ _ _ us hl => match us, hl with | [_], _ => rfl
abbrev FD__law_odd (K : PySem.W.Frag) (fd : FuncData) : Prop := FunD K "_law_odd" "_law_odd" (defArgs (topS 36)) (defBody (topS 36)) (defScope (topS 36)) [] [] (He.ga K "_law_odd") fd
theorem d__law_odd (X : K.In h) (M : h.Ns mainGlobals mg) (c : He.SaysD fa fn K) {fd : FuncData} (F : FD__law_odd K fd) : DefOk K mg (Gf K) fs tab "_law_odd" 20 fd ["pen"] := ⟨_, _, _, _, _, _, _, _, _, F, s__law_odd, rfl, c__law_odd, He.glo_ok X M (c.fact 20 (f := .glo "_law_odd") rfl)⟩
theorem b__law_odd {fd : FuncData} (F : FD__law_odd K fd) : Binds K fd ["pen"] [] := F.bindsN fun _ _ _ _ _ _ us hl => match us, hl with | [_], _ => rfl
abbrev FD__law_bent (K : PySem.W.Frag) (fd : FuncData) : Prop := FunD K "_law_bent" "_law_bent" (defArgs (topS 37)) (defBody (topS 37)) (defScope (topS 37)) [] [] (He.ga K "_law_bent") fd
theorem d__law_bent (X : K.In h) (M : h.Ns mainGlobals mg) (c : He.SaysD fa fn K) {fd : FuncData} (F : FD__law_bent K fd) : DefOk K mg (Gf K) fs tab "_law_bent" 21 fd ["pen", "document", "odd"] := ⟨_, _, _, _, _, _, _, _, _, F, s__law_bent, rfl, c__law_bent, He.glo_ok X M (c.fact 21 (f := .glo "_law_bent") rfl)⟩
theorem b__law_bent {fd : FuncData} (F : FD__law_bent K fd) : Binds K fd ["pen", "document", "odd"] [] := F.bindsN fun _ _ _ _ _ _ us hl => match us, hl with | [_, _, _], _ => rfl
abbrev FD__law_deep (K : PySem.W.Frag) (fd : FuncData) : Prop := FunD K "_law_deep" "_law_deep" (defArgs (topS 38)) (defBody (topS 38)) (defScope (topS 38)) [] [] (He.ga K "_law_deep") fd
theorem d__law_deep (X : K.In h) (M : h.Ns mainGlobals mg) (c : He.SaysD fa fn K) {fd : FuncData} (F : FD__law_deep K fd) : DefOk K mg (Gf K) fs tab "_law_deep" 22 fd ["many", "inner"] := ⟨_, _, _, _, _, _, _, _, _, F, s__law_deep, rfl, c__law_deep, He.glo_ok X M (c.fact 22 (f := .glo "_law_deep") rfl)⟩
theorem b__law_deep {fd : FuncData} (F : FD__law_deep K fd) : Binds K fd ["many", "inner"] [] := F.bindsN fun _ _ _ _ _ _ us hl => match us, hl with | [_, _], _ => rfl
abbrev FD_law (K : PySem.W.Frag) (fd : FuncData) : Prop := FunD K "law" "law" (defArgs (topS 39)) (defBody (topS 39)) (defScope (topS 39)) [] [] (He.ga K "law") fd
theorem d_law (X : K.In h) (M : h.Ns mainGlobals mg) (c : He.SaysD fa fn K) {fd : FuncData} (F : FD_law K fd) : DefOk K mg (Gf K) fs tab "law" 23 fd ["script"] := ⟨_, _, _, _, _, _, _, _, _, F, s_law, rfl, c_law, He.glo_ok X M (c.fact 23 (f := .glo "law") rfl)⟩
theorem b_law {fd : FuncData} (F : FD_law K fd) : Binds K fd ["script"] [] := F.bindsN fun _ _ _ _ _ _ us hl => match us, hl with | [_], _ => rfl
theorem k_0 {fd : FuncData} (F : FD_is_alike K fd) : KBn K fd ["one", "other"] 0 ["other", "one"] (fun us ws => permL [1, 0] (us ++ ws)) (fun vs zs => permL [1, 0] (vs ++ zs)) := kbn_of [1, 0] F fun _ _ _ _ _ _ us ws h1 h2 => match us, ws, h1, h2 with | [], [_, _], _, _ => rfl
theorem k_1 {fd : FuncData} (F : FD_is_document K fd) : KBn K fd ["value"] 0 ["value"] (fun us ws => permL [0] (us ++ ws)) (fun vs zs => permL [0] (vs ++ zs)) := kbn_of [0] F fun _ _ _ _ _ _ us ws h1 h2 => match us, ws, h1, h2 with | [], [_], _, _ => rfl
theorem k_2 {fd : FuncData} (F : FD_told K fd) : KBn K fd ["document"] 0 ["document"] (fun us ws => permL [0] (us ++ ws)) (fun vs zs => permL [0] (vs ++ zs)) := kbn_of [0] F fun _ _ _ _ _ _ us ws h1 h2 => match us, ws, h1, h2 with | [], [_], _, _ => rfl
theorem names0 (X : K.In h) (M : h.Ns mainGlobals mg) (c : He.SaysD fa fn K) : ∀ p ∈ tab0, NameOk K mg (Gf K) fs tab p.1 p.2 := by
  unfold tab0
  refine List.forall_mem_cons.mpr ⟨?_, ?_⟩
  · obtain ⟨fd, F⟩ := c.def_ 0 (d := dd "is_integer" (topS 3)) rfl
    exact name_fn (d_is_integer X M c F) rfl (b_is_integer F)
  refine List.forall_mem_cons.mpr ⟨?_, ?_⟩
  · obtain ⟨fd, F⟩ := c.def_ 1 (d := dd "is_listed" (topS 4)) rfl
    exact name_fn (d_is_listed X M c F) rfl (b_is_listed F)
  refine List.forall_mem_cons.mpr ⟨?_, ?_⟩
  · obtain ⟨fd, F⟩ := c.def_ 2 (d := dd "is_name" (topS 5)) rfl
    exact name_fn (d_is_name X M c F) rfl (b_is_name F)
  refine List.forall_mem_cons.mpr ⟨?_, ?_⟩
  · obtain ⟨fd, F⟩ := c.def_ 3 (d := dd "fixed" (topS 7)) rfl
    exact name_fn (d_fixed X M c F) rfl (b_fixed F)
  refine List.forall_mem_cons.mpr ⟨?_, ?_⟩
  · obtain ⟨fd, F⟩ := c.def_ 4 (d := dd "is_same" (topS 8)) rfl
    exact name_fn (d_is_same X M c F) rfl (b_is_same F)
  refine List.forall_mem_cons.mpr ⟨?_, ?_⟩
  · obtain ⟨fd, F⟩ := c.def_ 5 (d := dd "sort_of" (topS 20)) rfl
    exact name_fn (d_sort_of X M c F) rfl (b_sort_of F)
  refine List.forall_mem_cons.mpr ⟨?_, ?_⟩
  · obtain ⟨fd, F⟩ := c.def_ 6 (d := dd "parts_of" (topS 21)) rfl
    exact name_fn (d_parts_of X M c F) rfl (b_parts_of F)
  refine List.forall_mem_cons.mpr ⟨?_, ?_⟩
  · obtain ⟨fd, F⟩ := c.def_ 7 (d := dd "is_document" (topS 22)) rfl
    exact name_fn (d_is_document X M c F) rfl (b_is_document F)
  refine List.forall_mem_cons.mpr ⟨?_, ?_⟩
  · obtain ⟨fd, F⟩ := c.def_ 8 (d := dd "told" (topS 23)) rfl
    exact name_fn (d_told X M c F) rfl (b_told F)
  refine List.forall_mem_cons.mpr ⟨?_, ?_⟩
  · obtain ⟨fd, F⟩ := c.def_ 9 (d := dd "is_alike" (topS 24)) rfl
    exact name_fn (d_is_alike X M c F) rfl (b_is_alike F)
  refine List.forall_mem_cons.mpr ⟨?_, ?_⟩
  · obtain ⟨fd, F⟩ := c.def_ 10 (d := dd "_law_pen" (topS 26)) rfl
    exact name_fn (d__law_pen X M c F) rfl (b__law_pen F)
  refine List.forall_mem_cons.mpr ⟨?_, ?_⟩
  · obtain ⟨fd, F⟩ := c.def_ 11 (d := dd "_law_draw" (topS 27)) rfl
    exact name_fn (d__law_draw X M c F) rfl (b__law_draw F)
  refine List.forall_mem_cons.mpr ⟨?_, ?_⟩
  · obtain ⟨fd, F⟩ := c.def_ 12 (d := dd "_law_pick" (topS 28)) rfl
    exact name_fn (d__law_pick X M c F) rfl (b__law_pick F)
  refine List.forall_mem_cons.mpr ⟨?_, ?_⟩
  · obtain ⟨fd, F⟩ := c.def_ 13 (d := dd "_law_names" (topS 29)) rfl
    exact name_fn (d__law_names X M c F) rfl (b__law_names F)
  refine List.forall_mem_cons.mpr ⟨?_, ?_⟩
  · obtain ⟨fd, F⟩ := c.def_ 14 (d := dd "_law_type" (topS 30)) rfl
    exact name_fn (d__law_type X M c F) rfl (b__law_type F)
  refine List.forall_mem_cons.mpr ⟨?_, ?_⟩
  · obtain ⟨fd, F⟩ := c.def_ 15 (d := dd "_law_word" (topS 31)) rfl
    exact name_fn (d__law_word X M c F) rfl (b__law_word F)
  refine List.forall_mem_cons.mpr ⟨?_, ?_⟩
  · obtain ⟨fd, F⟩ := c.def_ 16 (d := dd "_law_document" (topS 32)) rfl
    exact name_fn (d__law_document X M c F) rfl (b__law_document F)
  refine List.forall_mem_cons.mpr ⟨?_, ?_⟩
  · obtain ⟨fd, F⟩ := c.def_ 17 (d := dd "_law_alike" (topS 33)) rfl
    exact name_fn (d__law_alike X M c F) rfl (b__law_alike F)
  refine List.forall_mem_cons.mpr ⟨?_, ?_⟩
  · obtain ⟨fd, F⟩ := c.def_ 18 (d := dd "_law_listed" (topS 34)) rfl
    exact name_fn (d__law_listed X M c F) rfl (b__law_listed F)
  refine List.forall_mem_cons.mpr ⟨?_, ?_⟩
  · obtain ⟨fd, F⟩ := c.def_ 19 (d := dd "_law_sort" (topS 35)) rfl
    exact name_fn (d__law_sort X M c F) rfl (b__law_sort F)
  exact List.forall_mem_nil _
theorem names1 (X : K.In h) (M : h.Ns mainGlobals mg) (c : He.SaysD fa fn K) : ∀ p ∈ tab1, NameOk K mg (Gf K) fs tab p.1 p.2 := by
  unfold tab1
  refine List.forall_mem_cons.mpr ⟨?_, ?_⟩
  · obtain ⟨fd, F⟩ := c.def_ 20 (d := dd "_law_odd" (topS 36)) rfl
    exact name_fn (d__law_odd X M c F) rfl (b__law_odd F)
  refine List.forall_mem_cons.mpr ⟨?_, ?_⟩
  · obtain ⟨fd, F⟩ := c.def_ 21 (d := dd "_law_bent" (topS 37)) rfl
    exact name_fn (d__law_bent X M c F) rfl (b__law_bent F)
  refine List.forall_mem_cons.mpr ⟨?_, ?_⟩
  · obtain ⟨fd, F⟩ := c.def_ 22 (d := dd "_law_deep" (topS 38)) rfl
    exact name_fn (d__law_deep X M c F) rfl (b__law_deep F)
  refine List.forall_mem_cons.mpr ⟨?_, ?_⟩
  · obtain ⟨fd, F⟩ := c.def_ 23 (d := dd "law" (topS 39)) rfl
    exact name_fn (d_law X M c F) rfl (b_law F)
  refine List.forall_mem_cons.mpr ⟨name_str (z := "abcdefghijklmnopqrstuvwxyz") X M (by decide +kernel) (c.fact 24 (f := .str "LETTERS" "abcdefghijklmnopqrstuvwxyz") rfl), ?_⟩
  refine List.forall_mem_cons.mpr ⟨name_int X M (c.fact 25 (f := .int "MOST_NAME" 8) rfl), ?_⟩
  refine List.forall_mem_cons.mpr ⟨name_str (z := "null") X M (by decide +kernel) (c.fact 26 (f := .str "NULL" "null") rfl), ?_⟩
  refine List.forall_mem_cons.mpr ⟨name_str (z := "truth") X M (by decide +kernel) (c.fact 27 (f := .str "TRUTH" "truth") rfl), ?_⟩
  refine List.forall_mem_cons.mpr ⟨name_str (z := "number") X M (by decide +kernel) (c.fact 28 (f := .str "NUMBER" "number") rfl), ?_⟩
  refine List.forall_mem_cons.mpr ⟨name_str (z := "text") X M (by decide +kernel) (c.fact 29 (f := .str "TEXT" "text") rfl), ?_⟩
  refine List.forall_mem_cons.mpr ⟨name_str (z := "list") X M (by decide +kernel) (c.fact 30 (f := .str "LIST" "list") rfl), ?_⟩
  refine List.forall_mem_cons.mpr ⟨name_str (z := "record") X M (by decide +kernel) (c.fact 31 (f := .str "RECORD" "record") rfl), ?_⟩
  refine List.forall_mem_cons.mpr ⟨name_int X M (c.fact 32 (f := .int "MOST_NODES" 2000) rfl), ?_⟩
  refine List.forall_mem_cons.mpr ⟨name_int X M (c.fact 33 (f := .int "MOST_DEEP" 12) rfl), ?_⟩
  refine List.forall_mem_cons.mpr ⟨name_int X M (c.fact 34 (f := .int "MOST_SIGNS" 2000) rfl), ?_⟩
  refine List.forall_mem_cons.mpr ⟨name_int X M (c.fact 35 (f := .int "BOUND" 1000000000000000000000000000000000000000000000000000000000000) rfl), ?_⟩
  refine List.forall_mem_cons.mpr ⟨name_blt X M (c.fact 36 (f := .free "abs") rfl), ?_⟩
  refine List.forall_mem_cons.mpr ⟨name_blt X M (c.fact 37 (f := .free "all") rfl), ?_⟩
  refine List.forall_mem_cons.mpr ⟨name_blt X M (c.fact 38 (f := .free "bool") rfl), ?_⟩
  refine List.forall_mem_cons.mpr ⟨name_blt X M (c.fact 39 (f := .free "dict") rfl), ?_⟩
  exact List.forall_mem_nil _
theorem names2 (X : K.In h) (M : h.Ns mainGlobals mg) (c : He.SaysD fa fn K) : ∀ p ∈ tab2, NameOk K mg (Gf K) fs tab p.1 p.2 := by
  unfold tab2
  refine List.forall_mem_cons.mpr ⟨name_blt X M (c.fact 40 (f := .free "int") rfl), ?_⟩
  refine List.forall_mem_cons.mpr ⟨name_blt X M (c.fact 41 (f := .free "isinstance") rfl), ?_⟩
  refine List.forall_mem_cons.mpr ⟨name_blt X M (c.fact 42 (f := .free "len") rfl), ?_⟩
  refine List.forall_mem_cons.mpr ⟨name_blt X M (c.fact 43 (f := .free "list") rfl), ?_⟩
  refine List.forall_mem_cons.mpr ⟨name_blt X M (c.fact 44 (f := .free "max") rfl), ?_⟩
  refine List.forall_mem_cons.mpr ⟨name_blt X M (c.fact 45 (f := .free "range") rfl), ?_⟩
  refine List.forall_mem_cons.mpr ⟨name_blt X M (c.fact 46 (f := .free "repr") rfl), ?_⟩
  refine List.forall_mem_cons.mpr ⟨name_blt X M (c.fact 47 (f := .free "sorted") rfl), ?_⟩
  refine List.forall_mem_cons.mpr ⟨name_blt X M (c.fact 48 (f := .free "str") rfl), ?_⟩
  refine List.forall_mem_cons.mpr ⟨name_blt X M (c.fact 49 (f := .free "tuple") rfl), ?_⟩
  refine List.forall_mem_cons.mpr ⟨name_blt X M (c.fact 50 (f := .free "zip") rfl), ?_⟩
  refine List.forall_mem_cons.mpr ⟨?_, ?_⟩
  · obtain ⟨fd, F⟩ := c.def_ 9 (d := dd "is_alike" (topS 24)) rfl
    exact name_kw [1, 0] rfl (d_is_alike X M c F) (k_0 F)
  refine List.forall_mem_cons.mpr ⟨?_, ?_⟩
  · obtain ⟨fd, F⟩ := c.def_ 7 (d := dd "is_document" (topS 22)) rfl
    exact name_kw [0] rfl (d_is_document X M c F) (k_1 F)
  refine List.forall_mem_cons.mpr ⟨?_, ?_⟩
  · obtain ⟨fd, F⟩ := c.def_ 8 (d := dd "told" (topS 23)) rfl
    exact name_kw [0] rfl (d_told X M c F) (k_2 F)
  exact List.forall_mem_nil _
theorem names (X : K.In h) (M : h.Ns mainGlobals mg) (c : He.SaysD fa fn K) : ∀ x g, (x, g) ∈ tab → NameOk K mg (Gf K) fs tab x g := by
  intro x g hx
  unfold tab at hx
  simp only [List.mem_append] at hx
  rcases hx with (h0 | h1) | h2
  · exact names0 X M c (x, g) h0
  · exact names1 X M c (x, g) h1
  · exact names2 X M c (x, g) h2
end
end Kf

set_option Elab.async false
set_option linter.all false
set_option maxRecDepth 100000
set_option maxHeartbeats 4000000
/-! K01P1: the law's own law, in plain Lean: the simple defs. -/
namespace K1
open PI PL Kf
section
variable {W n : Nat}
theorem op {f : Nat} {vs : List IV} {d : Fn} (h : fs f = some d) (hl : vs.length = d.args) (hn : 1 ≤ n) : callF fs W n f vs = (xss (callF fs W (n - 1)) W d.body (enter d vs)).bind finF := by
  obtain ⟨m, rfl⟩ : ∃ m, n = m + 1 := ⟨n - 1, by omega⟩
  exact call_open h hl
def letters : List Nat := [97, 98, 99, 100, 101, 102, 103, 104, 105, 106, 107, 108, 109, 110, 111, 112, 113, 114, 115, 116, 117, 118, 119, 120, 121, 122]
def nameB : IV → Bool
  | .str s => decide (1 ≤ s.length) && (decide (s.length ≤ 8) && s.all fun c => decide (c ∈ letters))
  | _ => false
def intB : IV → Bool
  | .int _ => true
  | _ => false
def seqB : IV → Bool
  | .lst _ => true
  | .tup _ => true
  | _ => false
theorem is_integer (x : IV) (h : (ownT x).isSome = true) (hn : 1 ≤ n) : callF fs W n 0 [x] = M.pure (.bl (intB x)) := by
  rw [op (d := f_is_integer) rfl rfl hn]
  simp [f_is_integer, enter, p_isi h]
  cases x <;> simp [isT, ownT, intB] at *
theorem is_listed (x : IV) (h : (ownT x).isSome = true) (hn : 1 ≤ n) : callF fs W n 1 [x] = M.pure (.bl (seqB x)) := by
  rw [op (d := f_is_listed) rfl rfl hn]
  simp [f_is_listed, enter, p_isi h]
  cases x <;> simp [isT, ownT, seqB] at *
theorem szl_big {k : Nat} (h : k ≤ 16777216) : k ≤ szl := h
def inL : IV → IV
  | .str [c] => .bl (decide (c ∈ letters))
  | x => x
theorem is_name (x : IV) (h : (ownT x).isSome = true) (hs : ∀ s, x = .str s → s.length ≤ 3000) (hn : 1 ≤ n) : callF fs W n 2 [x] = M.pure (.bl (nameB x)) := by
  rw [op (d := f_is_name) rfl rfl hn]
  simp [f_is_name, enter, p_isi h]
  cases x <;> simp [isT, ownT, nameB] at *
  rename_i s
  have hz : s.length ≤ szl := szl_big (by omega)
  rw [p_len_str hz]
  have hw : walk .val [.str s] = some (s.map fun c => IV.str [c]) := rfl
  have h1 : ((1 : Int) ≤ s.length) ↔ 1 ≤ s.length := by omega
  have h2 : ((s.length : Int) ≤ 8) ↔ s.length ≤ 8 := by omega
  simp [hw]
  rw [each_map (g := inL) ?_]
  · have hl : List.map (inL ∘ fun c => IV.str [c]) s = s.map fun c => IV.bl (decide (c ∈ letters)) := rfl
    simp only [List.map_map, hl]
    simp [hz, p_all]
    by_cases h1 : 1 ≤ s.length <;> by_cases h2 : s.length ≤ 8 <;> simp [h1, h2, Nat.not_le.mp]
    all_goals first | omega | (simp [show (1:Int) ≤ s.length by omega]; done) | (simp [show ¬ ((s.length:Int) ≤ 8) by omega]; done) | (simp [show (1:Int) ≤ s.length by omega, show (s.length:Int) ≤ 8 by omega]; done) | (simp [show ¬ (1:Int) ≤ s.length by omega]; done) | skip
  · intro x hx
    obtain ⟨c, hc, rfl⟩ := List.mem_map.mp hx
    simp [letters, inL]
def sNull : IV := .str [110, 117, 108, 108]
def sTruth : IV := .str [116, 114, 117, 116, 104]
def sNumber : IV := .str [110, 117, 109, 98, 101, 114]
def sText : IV := .str [116, 101, 120, 116]
def sList : IV := .str [108, 105, 115, 116]
def sRecord : IV := .str [114, 101, 99, 111, 114, 100]
def bound : Int := 1000000000000000000000000000000000000000000000000000000000000
def sortM : IV → IV
  | .non => sNull
  | .bl _ => sTruth
  | .int i => if (if i < 0 then -i else i) < bound then sNumber else .non
  | .str s => if s.length ≤ 2000 then sText else .non
  | .lst _ => sList
  | .tup _ => sList
  | .dct kvs => if (kvs.map fun p => kyV p.1).all nameB then sRecord else .non
  | _ => .non
theorem keys_ok {w l : Bool} {d : Nat} {kvs : List (Ky × IV)} (h : Cl w l d (.dct kvs)) : kvs.length ≤ 20 ∧ ∀ k ∈ kvs.map fun p => kyV p.1, (ownT k).isSome = true ∧ ∀ s, k = .str s → s.length ≤ 3000 := by
  cases d with
  | zero => exact h.elim
  | succ d =>
    rcases h with ⟨ps, rfl, k, _⟩ | ⟨_, i, v, rfl⟩
    · refine ⟨by simpa [kv] using k.few, fun x hx => ?_⟩
      simp only [kv, List.map_map, List.mem_map, Function.comp] at hx
      obtain ⟨p, hp, rfl⟩ := hx
      refine ⟨rfl, fun s e => ?_⟩
      cases e
      have := k.short p hp
      omega
    · refine ⟨by simp, fun x hx => ?_⟩
      simp at hx
      subst hx
      exact ⟨rfl, fun s e => by cases e⟩
theorem names_all (ks : List IV) (hk : ∀ k ∈ ks, (ownT k).isSome = true ∧ ∀ s, k = .str s → s.length ≤ 3000) (hl : ks.length ≤ 3000) (hn : 1 ≤ n) (fr : Fr) (a : IV) :
    ((M.calm (each (fun x => (M.opt (store (.one 1) x [SV.val a, SV.non])).bind fun fr1 => (evif (callF fs W n) [] fr1).bind fun t => if t then (ev (callF fs W n) (.call 2 [.slot 1]) fr1).bind fun v => M.pure [v] else M.pure []) ks)).bind fun l => M.opt (if l.length ≤ szl then some (IV.lst l) else none)) = M.pure (.lst (ks.map fun k => .bl (nameB k))) := by
  rw [each_map (g := fun k => .bl (nameB k)) ?_]
  · simp [szl_big (show ks.length ≤ 16777216 by omega)]
  · intro x hx
    simp [is_name x (hk x hx).1 (hk x hx).2 hn]
theorem sort_of {x : IV} {w l : Bool} {d : Nat} (h : Cl w l d x) (hn : 2 ≤ n) : callF fs W n 5 [x] = M.pure (sortM x) := by
  rw [op (d := f_sort_of) rfl rfl (by omega)]
  have h1 := is_integer (n := n - 1) (W := W) x h.own (by omega)
  have h2 := is_listed (n := n - 1) (W := W) x h.own (by omega)
  have d0 := h
  cases d with
  | zero => exact h.elim
  | succ d =>
    cases x with
    | non => simp [f_sort_of, enter, isNon, sortM, sNull]
    | bl b => simp [f_sort_of, enter, isNon, p_isi h.own, isT, sortM, sTruth]
    | int i => simp [f_sort_of, enter, isNon, p_isi h.own, isT, h1, intB, sortM, sNumber, bound]; congr
    | str s =>
      have hs : s.length ≤ 3000 := h
      have h3 : ((s.length : Int) ≤ 2000) ↔ s.length ≤ 2000 := by omega
      simp [f_sort_of, enter, isNon, p_isi d0.own, isT, h1, intB, sortM, sText, p_len_str (szl_big (show s.length ≤ 16777216 by omega)), h3]
    | tup xs => simp [f_sort_of, enter, isNon, p_isi d0.own, isT, h1, h2, seqB, intB, sortM, sList]
    | lst xs => simp [f_sort_of, enter, isNon, p_isi d0.own, isT, h1, h2, seqB, intB, sortM, sList]
    | dct kvs =>
      obtain ⟨k1, k2⟩ := keys_ok d0
      obtain ⟨ks, hks⟩ : ∃ ks, ks = kvs.map fun p => kyV p.1 := ⟨_, rfl⟩
      have hw : walk .val [.dct kvs] = some ks := by rw [hks]; rfl
      have hl : ks.length ≤ 3000 := by rw [hks]; simp; omega
      rw [← hks] at k2
      have ha := names_all (n := n - 1) (W := W) ks k2 hl (by omega) [] (.dct kvs)
      simp at ha
      simp [f_sort_of, enter, isNon, p_isi d0.own, isT, h1, h2, seqB, intB, sortM, hw, ha, p_all, ← hks]
      by_cases hc : ks.all nameB = true <;> simp [hc, sRecord]
      all_goals (simp at hc; simp [hc]; try rfl)
    | odd k =>
      have hw : walk .val [.odd k] = some [oddK k] := rfl
      have hk : (ownT (oddK k)).isSome = true ∧ ∀ s, oddK k = .str s → s.length ≤ 3000 := by
        unfold oddK
        split <;> exact ⟨rfl, fun s e => by cases e⟩
      have hb : nameB (oddK k) = false := by
        unfold oddK
        split <;> rfl
      have ha := names_all (n := n - 1) (W := W) [oddK k] (by simpa using hk) (by simp) (by omega) [] (.odd k)
      simp [hb] at ha
      have hp : prM .all [.lst [.bl false]] = M.pure (.bl false) := rfl
      simp [f_sort_of, enter, isNon, p_isi d0.own, isT, h1, h2, seqB, intB, sortM, hw, ha, hp]
    | _ => exact h.elim
end
end K1

set_option Elab.async false
set_option linter.all false
set_option maxRecDepth 100000
set_option maxHeartbeats 4000000
/-! K01P2: walks over data. -/
namespace K1
open PI PL Kf
/-- data with its rows made anew -/
def mp (c : List IV → IV) : Nat → IV → IV
  | 0, x => x
  | d + 1, x => match x with
    | .tup xs => c (xs.map (mp c d))
    | .lst xs => c (xs.map (mp c d))
    | .dct kvs => .dct (kvs.map fun p => (p.1, mp c d p.2))
    | x => x
def mpp (c : List IV → IV) (d : Nat) (ps : List (List Nat × IV)) : List (List Nat × IV) := ps.map fun p => (p.1, mp c d p.2)
theorem mp_kv (c : List IV → IV) (d : Nat) (ps : List (List Nat × IV)) : mp c (d + 1) (.dct (kv ps)) = .dct (kv (mpp c d ps)) := by
  simp [mp, kv, mpp, Function.comp_def]
theorem mpp_keys (c : List IV → IV) (d : Nat) (ps : List (List Nat × IV)) : (mpp c d ps).map (·.1) = ps.map (·.1) := by simp [mpp, Function.comp_def]
theorem mpp_ok {c : List IV → IV} {d : Nat} {ps : List (List Nat × IV)} (h : KOk ps) : KOk (mpp c d ps) :=
  ⟨by rw [mpp_keys]; exact h.asc, by rw [mpp_keys]; exact h.nd, by simpa [mpp] using h.few, fun p hp => by
    obtain ⟨q, hq, rfl⟩ := List.mem_map.mp hp
    exact h.short q hq⟩
theorem mp_tup : ∀ {d : Nat} {x : IV}, Cl false false d x → mp .tup d x = x
  | 0, _, h => h.elim
  | d + 1, x, h => by
    cases x with
    | tup xs =>
      show IV.tup (xs.map (mp .tup d)) = _
      congr 1
      have : ∀ y ∈ xs, mp .tup d y = y := fun y hy => mp_tup (h.2 y hy)
      rw [List.map_congr_left this]
      simp
    | lst xs => exact absurd h.1 (by simp)
    | dct kvs =>
      rcases h with ⟨ps, rfl, k, q⟩ | h
      · rw [mp_kv]
        have : ∀ p ∈ ps, (p.1, mp .tup d p.2) = p := fun p hp => by rw [mp_tup (q p hp)]
        unfold mpp
        rw [List.map_congr_left this]
        simp
      · exact absurd h.1 (by simp)
    | _ => rfl
theorem mp_lst_cl : ∀ {d : Nat} {x : IV}, Cl false false d x → Cl false true d (mp .lst d x) ∧ mp .tup d (mp .lst d x) = x
  | 0, _, h => h.elim
  | d + 1, x, h => by
    cases x with
    | tup xs =>
      refine ⟨⟨rfl, by simpa using h.1, fun y hy => ?_⟩, ?_⟩
      · obtain ⟨z, hz, rfl⟩ := List.mem_map.mp hy
        exact (mp_lst_cl (h.2 z hz)).1
      · show IV.tup ((xs.map (mp .lst d)).map (mp .tup d)) = _
        rw [List.map_map]
        have : ∀ y ∈ xs, (mp .tup d ∘ mp .lst d) y = y := fun y hy => (mp_lst_cl (h.2 y hy)).2
        rw [List.map_congr_left this]
        simp
    | lst xs => exact absurd h.1 (by simp)
    | dct kvs =>
      rcases h with ⟨ps, rfl, k, q⟩ | h
      · rw [mp_kv]
        refine ⟨.inl ⟨_, rfl, mpp_ok k, fun p hp => ?_⟩, ?_⟩
        · obtain ⟨z, hz, rfl⟩ := List.mem_map.mp hp
          exact (mp_lst_cl (q z hz)).1
        · rw [mp_kv]
          have : ∀ p ∈ ps, ((fun p : List Nat × IV => (p.1, mp .tup d p.2)) ∘ fun p : List Nat × IV => (p.1, mp .lst d p.2)) p = p := fun p hp => by
            simp only [Function.comp]
            rw [(mp_lst_cl (q p hp)).2]
          unfold mpp
          rw [List.map_map, List.map_congr_left this]
          simp
      · exact absurd h.1 (by simp)
    | non => exact ⟨trivial, rfl⟩
    | bl b => exact ⟨trivial, rfl⟩
    | int b => exact ⟨trivial, rfl⟩
    | str b => exact ⟨h, rfl⟩
    | odd k => exact absurd (show false = true from h) (by simp)
    | _ => exact h.elim
section
variable {W n : Nat}
theorem dcomp_out {ps qs : List (List Nat × IV)} (hk : KOk qs) : (if (kv qs).length ≤ szl then some (IV.dct (dputs (kv qs) [])) else none) = some (.dct (kv qs)) := by
  rw [if_pos (szl_big (by have := hk.few; simp [kv]; omega)), dputs_kv hk.nd]
theorem fixed {l : Bool} : ∀ {d n : Nat} {x : IV}, Cl false l d x → d ≤ n → callF fs W n 3 [x] = M.pure (mp .tup d x)
  | 0, _, _, h, _ => h.elim
  | d + 1, n, x, h, hn => by
    rw [op (d := f_fixed) rfl rfl (by omega)]
    have sq : ∀ xs : List IV, xs.length ≤ 3000 → (∀ y ∈ xs, Cl false l d y) → ∀ f, f = (fun x => (callF fs W (n - 1) 3 [x]).bind fun v => M.pure [v]) → each f xs = M.pure (xs.map (mp .tup d)) := fun xs _ q f e => by
      refine each_map fun y hy => ?_
      rw [e]
      simp only [fixed (q y hy) (show d ≤ n - 1 by omega), bind_pure]
    cases x with
    | tup xs =>
      have hw : walk .val [.tup xs] = some xs := rfl
      have hz : xs.length ≤ szl := szl_big (by have := h.1; omega)
      simp [f_fixed, enter, p_isi h.own, isT, hw, sq xs h.1 h.2 _ rfl, hz, mp]
    | lst xs =>
      have hw : walk .val [.lst xs] = some xs := rfl
      have hz : xs.length ≤ szl := szl_big (by have := h.2.1; omega)
      simp [f_fixed, enter, p_isi h.own, isT, hw, sq xs h.2.1 h.2.2 _ rfl, hz, mp]
    | dct kvs =>
      have h0 := h
      rcases h with ⟨ps, rfl, k, q⟩ | h
      · rw [mp_kv]
        simp [f_fixed, enter, p_isi h0.own, isT, items_kv]
        rw [each_mapp (b := fun p : List Nat × IV => (Ky.str p.1, mp .tup d p.2)) ?_]
        · have e : (ps.map fun p : List Nat × IV => (Ky.str p.1, mp .tup d p.2)) = kv (mpp .tup d ps) := by simp [kv, mpp, Function.comp_def]
          rw [e]
          simp [dcomp_out (ps := ps) (mpp_ok k)]
        · intro p hp
          simp [keyOf, fixed (q p hp) (show d ≤ n - 1 by omega)]
      · exact absurd h.1 (by simp)
    | non => simp [f_fixed, enter, p_isi h.own, isT, mp]
    | bl b => simp [f_fixed, enter, p_isi h.own, isT, mp]
    | int b => simp [f_fixed, enter, p_isi h.own, isT, mp]
    | str b => simp [f_fixed, enter, p_isi h.own, isT, mp]
    | odd k => exact absurd (show false = true from h) (by simp)
    | _ => exact h.elim
end
end K1

set_option Elab.async false
set_option linter.all false
set_option maxRecDepth 100000
set_option maxHeartbeats 4000000
/-! K01P3: told, listed, same, alike, parts. -/
namespace K1
open PI PL Kf
section
variable {W n : Nat}
theorem kv_len (ps : List (List Nat × IV)) : (kv ps).length = ps.length := by simp [kv]
theorem told {l : Bool} : ∀ {d n : Nat} {x : IV}, Cl false l d x → d + 1 ≤ n → callF fs W n 8 [x] = M.pure (mp .tup d x)
  | 0, _, _, h, _ => h.elim
  | d + 1, n, x, h, hn => by
    rw [op (d := f_told) rfl rfl (by omega)]
    have h2 := is_listed (n := n - 1) (W := W) x h.own (by omega)
    have sq : ∀ xs : List IV, xs.length ≤ 3000 → (∀ y ∈ xs, Cl false l d y) → ∀ f, f = (fun x => (callF fs W (n - 1) 8 [x]).bind fun v => M.pure [v]) → each f xs = M.pure (xs.map (mp .tup d)) := fun xs _ q f e => by
      refine each_map fun y hy => ?_
      rw [e]
      simp only [told (q y hy) (show d + 1 ≤ n - 1 by omega), bind_pure]
    cases x with
    | tup xs =>
      have hw : walk .val [.tup xs] = some xs := rfl
      have hz : xs.length ≤ szl := szl_big (by have := h.1; omega)
      simp [f_told, enter, h2, seqB, hw, sq xs h.1 h.2 _ rfl, hz, mp]
    | lst xs =>
      have hw : walk .val [.lst xs] = some xs := rfl
      have hz : xs.length ≤ szl := szl_big (by have := h.2.1; omega)
      simp [f_told, enter, h2, seqB, hw, sq xs h.2.1 h.2.2 _ rfl, hz, mp]
    | dct kvs =>
      have h0 := h
      rcases h with ⟨ps, rfl, k, q⟩ | h
      · rw [mp_kv]
        have hw : walk .val [.lst (ps.map fun p => IV.str p.1)] = some (ps.map fun p => IV.str p.1) := rfl
        simp [f_told, enter, h2, seqB, p_isi h0.own, isT, p_sorted_kv k, hw]
        rw [each_mapp (b := fun p : List Nat × IV => (Ky.str p.1, mp .tup d p.2)) ?_]
        · have e : (ps.map fun p : List Nat × IV => (Ky.str p.1, mp .tup d p.2)) = kv (mpp .tup d ps) := by simp [kv, mpp, Function.comp_def]
          rw [e]
          simp [dcomp_out (ps := ps) (mpp_ok k)]
        · intro p hp
          simp [keyOf, p_item_dct (dget_kv k.nd hp), told (q p hp) (show d + 1 ≤ n - 1 by omega)]
      · exact absurd h.1 (by simp)
    | non => simp [f_told, enter, h2, seqB, p_isi h.own, isT, mp]
    | bl b => simp [f_told, enter, h2, seqB, p_isi h.own, isT, mp]
    | int b => simp [f_told, enter, h2, seqB, p_isi h.own, isT, mp]
    | str b => simp [f_told, enter, h2, seqB, p_isi h.own, isT, mp]
    | odd k => exact absurd (show false = true from h) (by simp)
    | _ => exact h.elim
theorem listed {l : Bool} : ∀ {d n : Nat} {x : IV}, Cl false l d x → d ≤ n → callF fs W n 18 [x] = M.pure (mp .lst d x)
  | 0, _, _, h, _ => h.elim
  | d + 1, n, x, h, hn => by
    rw [op (d := f__law_listed) rfl rfl (by omega)]
    have sq : ∀ xs : List IV, xs.length ≤ 3000 → (∀ y ∈ xs, Cl false l d y) → ∀ f, f = (fun x => (callF fs W (n - 1) 18 [x]).bind fun v => M.pure [v]) → each f xs = M.pure (xs.map (mp .lst d)) := fun xs _ q f e => by
      refine each_map fun y hy => ?_
      rw [e]
      simp only [listed (q y hy) (show d ≤ n - 1 by omega), bind_pure]
    cases x with
    | tup xs =>
      have hw : walk .val [.tup xs] = some xs := rfl
      have hz : xs.length ≤ szl := szl_big (by have := h.1; omega)
      simp [f__law_listed, enter, p_isi h.own, isT, hw, sq xs h.1 h.2 _ rfl, hz, mp]
    | lst xs =>
      have hw : walk .val [.lst xs] = some xs := rfl
      have hz : xs.length ≤ szl := szl_big (by have := h.2.1; omega)
      simp [f__law_listed, enter, p_isi h.own, isT, hw, sq xs h.2.1 h.2.2 _ rfl, hz, mp]
    | dct kvs =>
      have h0 := h
      rcases h with ⟨ps, rfl, k, q⟩ | h
      · rw [mp_kv]
        have hz : ps.length ≤ szl := szl_big (by have := k.few; omega)
        simp [f__law_listed, enter, p_isi h0.own, isT, walk_kv]
        rw [each_mapp (b := fun p : List Nat × IV => IV.tup [.str p.1, mp .lst d p.2]) ?_]
        · have e : (ps.map fun p : List Nat × IV => IV.tup [.str p.1, mp .lst d p.2]) = (mpp .lst d ps).map fun p => IV.tup [.str p.1, p.2] := by simp [mpp, Function.comp_def]
          simp [hz]
          rw [e, p_dictl_kv (mpp_ok k).nd]
          simp
        · intro p hp
          have h2z : (2 : Nat) ≤ szl := by decide
          simp [p_item_dct (dget_kv k.nd hp), listed (q p hp) (show d ≤ n - 1 by omega), h2z]
      · exact absurd h.1 (by simp)
    | non => simp [f__law_listed, enter, p_isi h.own, isT, mp]
    | bl b => simp [f__law_listed, enter, p_isi h.own, isT, mp]
    | int b => simp [f__law_listed, enter, p_isi h.own, isT, mp]
    | str b => simp [f__law_listed, enter, p_isi h.own, isT, mp]
    | odd k => exact absurd (show false = true from h) (by simp)
    | _ => exact h.elim
/-- == of what is no row -/
def scal : IV → IV → Bool
  | .non, .non => true
  | .bl a, .bl b => a == b
  | .int i, .int j => decide (i = j)
  | .str s, .str t => decide (s = t)
  | _, _ => false
def same : Nat → IV → IV → Bool
  | 0, _, _ => false
  | d + 1, x, y => match x, y with
    | .tup xs, .tup ys => decide (xs.length = ys.length) && (xs.zip ys).all fun p => same d p.1 p.2
    | .dct ks, .dct ls => decide (kstrL ks = kstrL ls) && (ks.zip ls).all fun p => same d p.1.2 p.2.2
    | x, y => scal x y
theorem scal_comm (x y : IV) : scal x y = scal y x := by
  cases x <;> cases y <;> simp [scal]
  all_goals first | (exact Bool.beq_comm) | (simp [eq_comm])
theorem all_swap {α β : Type} {f : α × β → Bool} {g : β × α → Bool} (h : ∀ a b, f (a, b) = g (b, a)) : ∀ (xs : List α) (ys : List β), (xs.zip ys).all f = (ys.zip xs).all g
  | [], _ => by simp
  | _ :: _, [] => by simp
  | x :: xs, y :: ys => by simp [h x y, all_swap h xs ys]
theorem same_comm : ∀ (d : Nat) (x y : IV), same d x y = same d y x
  | 0, _, _ => rfl
  | d + 1, x, y => by
    cases x <;> cases y <;> simp only [same] <;> try (exact scal_comm _ _)
    · rw [all_swap (f := fun p : IV × IV => same d p.1 p.2) (g := fun p : IV × IV => same d p.1 p.2) fun a b => same_comm d a b]
      congr 1
      simp only [eq_comm]
    · rw [all_swap (f := fun p : (Ky × IV) × (Ky × IV) => same d p.1.2 p.2.2) (g := fun p : (Ky × IV) × (Ky × IV) => same d p.1.2 p.2.2) fun a b => same_comm d a.2 b.2]
      congr 1
      simp only [eq_comm]
end
end K1

set_option Elab.async false
set_option linter.all false
set_option maxRecDepth 100000
set_option maxHeartbeats 4000000
/-! K01P4: is_same, is_alike, the law's alike and sort. -/
namespace K1
open PI PL Kf
theorem eqo_ne {x y : IV} (h : kdNe x y = true) : eqo x y = some false := by
  unfold eqo
  split
  · cases x <;> cases y <;> simp [eqv, kdNe, kd] at *
  · simp [h]
theorem plns_strs : ∀ (a : List (List Nat)) (n : Nat), plns (a.map IV.str) n = true
  | [], n => by simp [plns]
  | x :: r, n => by simp [plns, pln, plns_strs r n]
theorem eqvs_strs : ∀ a b : List (List Nat), eqvs (a.map IV.str) (b.map IV.str) = decide (a = b)
  | [], [] => rfl
  | [], _ :: _ => rfl
  | _ :: _, [] => rfl
  | x :: r, y :: s => by
    simp [eqvs, eqv, eqvs_strs r s]
theorem p_eq_strs (a b : List (List Nat)) : prM .eq [.lst (a.map .str), .lst (b.map .str)] = M.pure (.bl (decide (a = b))) :=
  p_eqn (by
    rw [eqo_pln (by simp [pln, deepEq, plns_strs]) (by simp [pln, deepEq, plns_strs])]
    simp [eqv, eqvs_strs])
theorem zip_keys : ∀ {ps qs : List (List Nat × IV)}, ps.map (·.1) = qs.map (·.1) → (ps.zip qs).map (fun z => IV.str z.1.1) = ps.map (fun p => IV.str p.1) ∧ ∀ z ∈ ps.zip qs, z.1 ∈ ps ∧ z.2 ∈ qs ∧ z.1.1 = z.2.1
  | [], [], _ => ⟨rfl, by simp⟩
  | [], _ :: _, h => by simp at h
  | _ :: _, [], h => by simp at h
  | p :: ps, q :: qs, h => by
    have h2 : p.1 = q.1 ∧ ps.map (·.1) = qs.map (·.1) := by simpa using h
    obtain ⟨a, b⟩ := zip_keys h2.2
    refine ⟨by simp [a], fun z hz => ?_⟩
    rcases List.mem_cons.mp (by simpa using hz) with rfl | hz
    · exact ⟨by simp, by simp, h2.1⟩
    · obtain ⟨c, d, e⟩ := b z hz
      exact ⟨List.mem_cons_of_mem _ c, List.mem_cons_of_mem _ d, e⟩
theorem same_kv (d : Nat) (ps qs : List (List Nat × IV)) : same (d + 1) (.dct (kv ps)) (.dct (kv qs)) = (decide (ps.map (·.1) = qs.map (·.1)) && (ps.zip qs).all fun z => same d z.1.2 z.2.2) := by
  simp only [same, kstrL_kv, Option.some.injEq]
  congr 1
  simp [kv, List.zip_map, Function.comp_def]
section
variable {W n : Nat}
/-- what is no pair of rows -/
def apart : IV → IV → Bool
  | .tup _, .tup _ => false
  | .dct _, .dct _ => false
  | _, _ => true
theorem kd_cl {d : Nat} {x : IV} (h : Cl false false d x) : kd x ≠ 0 ∧ kd x ≠ 6 := by
  cases d with
  | zero => exact h.elim
  | succ d => cases x <;> simp [Cl, kd] at *
theorem eq_scal {d e : Nat} {x y : IV} (hx : Cl false false d x) (hy : Cl false false e y) (ha : apart x y = true) (hb : isT x .bool = isT y .bool) : prM .eq [x, y] = M.pure (.bl (scal x y)) := by
  refine p_eqn ?_
  have kx := kd_cl hx
  have ky := kd_cl hy
  cases x <;> first | (simp [kd] at kx; done) | skip
  all_goals (cases y <;> first | (simp [kd] at ky; done) | skip)
  all_goals first
    | (simp [apart] at ha; done)
    | (simp [isT] at hb; done)
    | exact eqo_ne rfl
    | (rw [eqo_pln rfl rfl]; rfl)
    | (rw [eqo_pln rfl rfl]; simp [eqv, scal]; done)
theorem is_same : ∀ {d n : Nat} {x y : IV}, Cl false false d x → Cl false false d y → d ≤ n → callF fs W n 4 [x, y] = M.pure (.bl (same d x y))
  | 0, _, _, _, h, _, _ => h.elim
  | d + 1, n, x, y, hx, hy, hn => by
    have x0 := hx
    have y0 := hy
    have hot : apart x y = true → callF fs W n 4 [x, y] = M.pure (.bl (same (d + 1) x y)) := fun ha => by
      have hs : same (d + 1) x y = scal x y := by
        cases x <;> cases y <;> first | rfl | (simp [apart] at ha; done)
      rw [op (d := f_is_same) rfl rfl (by omega), hs]
      have h1 : (isT x .tuple && isT y .tuple) = false := by cases x <;> cases y <;> first | rfl | (simp [apart] at ha; done)
      have kx := kd_cl hx
      have ky := kd_cl hy
      have h2 : (isT x .dict && isT y .dict) = false := by
        cases x <;> cases y <;> first | rfl | (simp [apart] at ha; done) | (simp [kd] at kx; done) | (simp [kd] at ky; done)
      have i0 : ∀ (z : IV) (t : TyC), (ownT z).isSome = true → prM (.isi [t]) [z] = M.pure (.bl (isT z t)) := fun z t hz => by rw [p_isi hz]; simp
      have i1 := i0 x .tuple hx.own
      have i2 := i0 y .tuple hy.own
      have i3 := i0 x .dict hx.own
      have i4 := i0 y .dict hy.own
      have i5 := i0 x .bool hx.own
      have i6 := i0 y .bool hy.own
      have main : prM .eq [.bl (isT x .bool), .bl (isT y .bool)] = M.pure (.bl (isT x .bool == isT y .bool)) := p_eq_bl
      have h3 : isT x .bool = isT y .bool → prM .eq [x, y] = M.pure (.bl (scal x y)) := eq_scal hx hy ha
      have h4 : isT x .bool ≠ isT y .bool → scal x y = false := fun hb => by
        cases x <;> cases y <;> simp [isT, scal] at *
      generalize isT x .tuple = t1 at *
      generalize isT y .tuple = t2 at *
      generalize isT x .dict = t3 at *
      generalize isT y .dict = t4 at *
      generalize isT x .bool = t5 at *
      generalize isT y .bool = t6 at *
      by_cases hb : t5 = t6
      · have h3 := h3 hb
        subst hb
        cases t1 <;> cases t2 <;> cases t3 <;> cases t4 <;> first | (exact absurd h1 (by decide)) | (exact absurd h2 (by decide)) | simp [f_is_same, enter, i1, i2, i3, i4, i5, i6, h3]
      · have h4 := h4 hb
        cases t1 <;> cases t2 <;> cases t3 <;> cases t4 <;> first | (exact absurd h1 (by decide)) | (exact absurd h2 (by decide)) | (cases t5 <;> cases t6 <;> first | (exact absurd rfl hb) | simp [f_is_same, enter, i1, i2, i3, i4, i5, i6, h4])
    cases hxy : apart x y with
    | true => exact hot hxy
    | false =>
      cases x <;> cases y <;> first | (simp [apart] at hxy; done) | skip
      · rename_i xs ys
        rw [op (d := f_is_same) rfl rfl (by omega)]
        have hz : (xs.zip ys).length ≤ szl := szl_big (by have := hx.1; simp; omega)
        have hw : walk .zip [.tup xs, .tup ys] = some ((xs.zip ys).map fun p => IV.tup [p.1, p.2]) := by
          show some (xs.zipWith (fun a b => IV.tup [a, b]) ys) = _
          rw [List.map_zip_eq_zipWith]; rfl
        have he : each (fun x => (M.opt (store (.many [3, 4]) x [SV.val (.tup xs), SV.val (.tup ys), SV.non, SV.non, SV.non])).bind fun fr1 => (evif (callF fs W (n - 1)) [] fr1).bind fun t => if t then (ev (callF fs W (n - 1)) (.call 4 [.slot 3, .slot 4]) fr1).bind fun v => M.pure [v] else M.pure []) ((xs.zip ys).map fun p => IV.tup [p.1, p.2]) = M.pure ((xs.zip ys).map fun p => IV.bl (same d p.1 p.2)) := by
          refine each_mapp fun p hp => ?_
          have hp1 := hx.2 p.1 (List.of_mem_zip hp).1
          have hp2 := hy.2 p.2 (List.of_mem_zip hp).2
          simp [is_same hp1 hp2 (show d ≤ n - 1 by omega)]
        simp at he
        simp [f_is_same, enter, p_isi hx.own, p_isi hy.own, isT, hw, he]
        have hl : ((xs.length : Int) = ys.length) ↔ xs.length = ys.length := by omega
        have hz2 : min xs.length ys.length ≤ szl := by simpa using hz
        by_cases hc : xs.length = ys.length
        · simp [hc, p_all, same, hz2, show ys.length ≤ szl from szl_big (by have := hy.1; omega)]
        · simp [hc, same, hl]
      · rename_i ks ls
        rcases hx with ⟨ps, rfl, k, q⟩ | h
        · rcases hy with ⟨qs, rfl, k2, q2⟩ | h
          · rw [op (d := f_is_same) rfl rfl (by omega), same_kv]
            have e1 : (ps.map fun p => IV.str p.1) = (ps.map (·.1)).map IV.str := by simp [Function.comp_def]
            have e2 : (qs.map fun p => IV.str p.1) = (qs.map (·.1)).map IV.str := by simp [Function.comp_def]
            simp [f_is_same, enter, p_isi x0.own, p_isi y0.own, isT, p_sorted_kv k, p_sorted_kv k2]
            rw [e1, e2, p_eq_strs]
            by_cases hc : ps.map (·.1) = qs.map (·.1)
            · obtain ⟨z1, z2⟩ := zip_keys hc
              have hlen : ps.length = qs.length := by simpa using congrArg List.length hc
              simp [hc, walk_kv]
              rw [← z1, each_mapp (b := fun z : (List Nat × IV) × (List Nat × IV) => IV.bl (same d z.1.2 z.2.2)) ?_]
              · simp [p_all, szl_big (show min ps.length qs.length ≤ 16777216 by have := k.few; omega)]
              · intro z hz
                obtain ⟨a, b, c⟩ := z2 z hz
                have g1 := p_item_dct (dget_kv k.nd a)
                have g2 := p_item_dct (dget_kv k2.nd b)
                rw [← c] at g2
                simp [g1, g2, is_same (q z.1 a) (q2 z.2 b) (show d ≤ n - 1 by omega)]
            · simp [hc]
          · exact absurd h.1 (by simp)
        · exact absurd h.1 (by simp)
end
end K1

set_option Elab.async false
set_option linter.all false
set_option maxRecDepth 100000
set_option maxHeartbeats 4000000
/-! K01P5: the law's alike, sort, parts. -/
namespace K1
open PI PL Kf
section
variable {W n : Nat}
theorem i0 {z : IV} (hz : (ownT z).isSome = true) (t : TyC) : prM (.isi [t]) [z] = M.pure (.bl (isT z t)) := by rw [p_isi hz]; simp
theorem is_alike {l1 l2 : Bool} {d n : Nat} {x y x2 y2 : IV} (hx : Cl false l1 d x) (hy : Cl false l2 d y) (ex : mp .tup d x = x2) (ey : mp .tup d y = y2) (hx2 : Cl false false d x2) (hy2 : Cl false false d y2) (hn : d + 1 ≤ n) : callF fs W n 9 [x, y] = M.pure (.bl (same d x2 y2)) := by
  rw [op (d := f_is_alike) rfl rfl (by omega)]
  simp [f_is_alike, enter, fixed hx (show d ≤ n - 1 by omega), fixed hy (show d ≤ n - 1 by omega), ex, ey, is_same hx2 hy2 (show d ≤ n - 1 by omega)]
def sortL : IV → IV
  | .non => sNull
  | .bl _ => sTruth
  | .int _ => sNumber
  | .str _ => sText
  | .lst _ => sList
  | .tup _ => sList
  | _ => sRecord
theorem law_sort {x : IV} (h : (ownT x).isSome = true) (hn : 1 ≤ n) : callF fs W n 19 [x] = M.pure (sortL x) := by
  rw [op (d := f__law_sort) rfl rfl hn]
  cases x <;> first | (simp [ownT] at h; done) | simp [f__law_sort, enter, p_isi h, isT, isNon, sortL, sNull, sTruth, sNumber, sText, sList, sRecord]
def kids : IV → List IV
  | .tup xs => xs
  | .lst xs => xs
  | .dct kvs => kvs.map (·.2)
  | _ => []
theorem parts_of {w l : Bool} {d : Nat} {x : IV} (h : Cl w l d x) (hs : isNon (sortM x) = false) (hn : 2 ≤ n) : callF fs W n 6 [x] = M.pure (.lst (kids x)) := by
  rw [op (d := f_parts_of) rfl rfl (by omega)]
  have h2 := is_listed (n := n - 1) (W := W) x h.own (by omega)
  cases d with
  | zero => exact h.elim
  | succ d =>
    have h0 := h
    cases x with
    | dct kvs =>
      rcases h with ⟨ps, rfl, k, q⟩ | h
      · have hw : walk .val [.lst (ps.map fun p => IV.str p.1)] = some (ps.map fun p => IV.str p.1) := rfl
        have hz : ps.length ≤ szl := szl_big (by have := k.few; omega)
        simp [f_parts_of, enter, h2, seqB, p_isi h0.own, isT, p_sorted_kv k, hw]
        rw [each_mapp (b := fun p : List Nat × IV => p.2) ?_]
        · simp [hz, kids, kv, Function.comp_def]
        · intro p hp
          simp [p_item_dct (dget_kv k.nd hp)]
      · obtain ⟨_, i, v, rfl⟩ := h
        simp [sortM, isNon, kyV, nameB] at hs
    | tup xs => simp [f_parts_of, enter, h2, seqB, kids]
    | lst xs => simp [f_parts_of, enter, h2, seqB, kids]
    | non => simp [f_parts_of, enter, h2, seqB, p_isi h0.own, isT, kids]
    | bl b => simp [f_parts_of, enter, h2, seqB, p_isi h0.own, isT, kids]
    | int b => simp [f_parts_of, enter, h2, seqB, p_isi h0.own, isT, kids]
    | str b => simp [f_parts_of, enter, h2, seqB, p_isi h0.own, isT, kids]
    | odd k => simp [sortM, isNon] at hs
    | _ => exact h.elim
theorem alike : ∀ {d n : Nat} {x y : IV}, Cl false false d x → Cl false false d y → d ≤ n → callF fs W n 17 [x, y] = M.pure (.bl (same d x y))
  | 0, _, _, _, h, _, _ => h.elim
  | d + 1, n, x, y, hx, hy, hn => by
    have x0 := hx
    have y0 := hy
    have kx := kd_cl hx
    have ky := kd_cl hy
    have i7 : prM (.isi [.list, .tuple, .dict]) [x] = M.pure (.bl (isT x .list || (isT x .tuple || isT x .dict))) := by rw [p_isi hx.own]; simp
    have i8 : prM (.isi [.list, .tuple, .dict]) [y] = M.pure (.bl (isT y .list || (isT y .tuple || isT y .dict))) := by rw [p_isi hy.own]; simp
    have i9 : prM (.isi [.list, .tuple]) [x] = M.pure (.bl (isT x .list || isT x .tuple)) := by rw [p_isi hx.own]; simp
    have i10 : prM (.isi [.list, .tuple]) [y] = M.pure (.bl (isT y .list || isT y .tuple)) := by rw [p_isi hy.own]; simp
    rw [op (d := f__law_alike) rfl rfl (by omega)]
    have hot : apart x y = true → (xss (callF fs W (n - 1)) W f__law_alike.body (enter f__law_alike [x, y])).bind finF = M.pure (.bl (same (d + 1) x y)) := fun ha => by
      have h3 : isT x .bool = isT y .bool → prM .eq [x, y] = M.pure (.bl (scal x y)) := eq_scal hx hy ha
      cases x <;> first | (simp [kd] at kx; done) | skip
      all_goals (cases y <;> first | (simp [kd] at ky; done) | (simp [apart] at ha; done) | skip)
      all_goals first | (simp [f__law_alike, enter, i0 x0.own, i0 y0.own, i7, i8, i9, i10, isT, same, scal]; done) | (have h4 := h3 rfl; simp [scal] at h4; simp [f__law_alike, enter, i0 x0.own, i0 y0.own, i7, i8, i9, i10, isT, same, scal, h4]; done)
    cases hxy : apart x y with
    | true => exact hot hxy
    | false =>
      cases x <;> cases y <;> first | (simp [apart] at hxy; done) | skip
      · rename_i xs ys
        have hw : walk .zip [.tup xs, .tup ys] = some ((xs.zip ys).map fun p => IV.tup [p.1, p.2]) := by
          show some (xs.zipWith (fun a b => IV.tup [a, b]) ys) = _
          rw [List.map_zip_eq_zipWith]; rfl
        have he : ∃ l, each (fun x => (M.opt (store (.many [3, 4]) x [SV.val (.tup xs), SV.val (.tup ys), SV.non, SV.non, SV.non])).bind fun fr1 => (evif (callF fs W (n - 1)) [.not (.call 17 [.slot 3, .slot 4])] fr1).bind fun t => if t then (ev (callF fs W (n - 1)) (.c (.int 1)) fr1).bind fun v => M.pure [v] else M.pure []) ((xs.zip ys).map fun p => IV.tup [p.1, p.2]) = M.pure l ∧ (l = [] ↔ (xs.zip ys).all (fun p => same d p.1 p.2) = true) ∧ l.length ≤ (xs.zip ys).length := by
          refine each_if (v := IV.int 1) fun p hp => ?_
          have hp1 := hx.2 p.1 (List.of_mem_zip hp).1
          have hp2 := hy.2 p.2 (List.of_mem_zip hp).2
          simp [alike hp1 hp2 (show d ≤ n - 1 by omega)]
          cases same d p.1 p.2 <;> simp
        obtain ⟨l, e1, e2, e3⟩ := he
        have hz : l.length ≤ szl := szl_big (by have := hx.1; simp at e3; omega)
        simp at e1
        have hl : ((xs.length : Int) = ys.length) ↔ xs.length = ys.length := by omega
        simp [f__law_alike, enter, i9, i10, isT, hw, e1, hl, hz, same]
        by_cases hc : xs.length = ys.length
        · simp [hc]
          by_cases hl2 : l = []
          · have t := e2.mp hl2
            simp only [hl2]
            rw [t]
            simp
          · have t : (xs.zip ys).all (fun p => same d p.1 p.2) = false := Bool.eq_false_iff.mpr fun z => hl2 (e2.mpr z)
            rw [t]
            simp [hl2]
        · simp [hc]
      · rename_i ks ls
        rcases hx with ⟨ps, rfl, k, q⟩ | h
        · rcases hy with ⟨qs, rfl, k2, q2⟩ | h
          · rw [same_kv]
            have e1 : (ps.map fun p => IV.str p.1) = (ps.map (·.1)).map IV.str := by simp [Function.comp_def]
            have e2 : (qs.map fun p => IV.str p.1) = (qs.map (·.1)).map IV.str := by simp [Function.comp_def]
            simp [f__law_alike, enter, i9, i10, i0 x0.own, i0 y0.own, isT, p_sorted_kv k, p_sorted_kv k2]
            rw [e1, e2, p_eq_strs]
            by_cases hc : ps.map (·.1) = qs.map (·.1)
            · obtain ⟨z1, z2⟩ := zip_keys hc
              have he : ∃ l, each (fun x => (M.opt (store (.one 2) x [SV.val (.dct (kv ps)), SV.val (.dct (kv qs)), SV.non, SV.non, SV.non])).bind fun fr1 => (evif (callF fs W (n - 1)) [.not (.call 17 [.pr .item [.slot 0, .slot 2], .pr .item [.slot 1, .slot 2]])] fr1).bind fun t => if t then (ev (callF fs W (n - 1)) (.c (.int 1)) fr1).bind fun v => M.pure [v] else M.pure []) ((ps.zip qs).map fun z => IV.str z.1.1) = M.pure l ∧ (l = [] ↔ (ps.zip qs).all (fun z => same d z.1.2 z.2.2) = true) ∧ l.length ≤ (ps.zip qs).length := by
                refine each_if (v := IV.int 1) fun z hz => ?_
                obtain ⟨a, b, c⟩ := z2 z hz
                have g1 := p_item_dct (dget_kv k.nd a)
                have g2 := p_item_dct (dget_kv k2.nd b)
                rw [← c] at g2
                simp [g1, g2, alike (q z.1 a) (q2 z.2 b) (show d ≤ n - 1 by omega)]
                cases same d z.1.2 z.2.2 <;> simp
              obtain ⟨l, g1, g2, g3⟩ := he
              rw [z1] at g1
              have hz : l.length ≤ szl := szl_big (by have := k.few; simp at g3; omega)
              simp at g1
              simp [hc, walk_kv, g1, hz]
              by_cases hl2 : l = []
              · have t := g2.mp hl2
                rw [t]
                simp [hl2]
              · have t : (ps.zip qs).all (fun z => same d z.1.2 z.2.2) = false := Bool.eq_false_iff.mpr fun z => hl2 (g2.mpr z)
                rw [t]
                simp [hl2]
            · simp [hc]
          · exact absurd h.1 (by simp)
        · exact absurd h.1 (by simp)
end
end K1

set_option Elab.async false
set_option linter.all false
set_option maxRecDepth 100000
set_option maxHeartbeats 4000000
/-! K01P6: is_document. -/
namespace K1
open PI PL Kf
theorem xs1_pop {Φ : Nat → List IV → M IV} {W : Nat} {fr : Fr} {tg : Tg} {i : Nat} {xs : List IV} {x : IV} (h : fr[i]? = some (.own (xs ++ [x]))) : xs1 Φ W (.pop tg i) fr = (M.opt (store tg x (fr.set i (.own xs)))).bind fun fr => M.pure (.nx fr) := by
  simp only [xs1, h]
  simp
theorem xs1_ext {Φ : Nat → List IV → M IV} {W : Nat} {fr : Fr} {i : Nat} {xs ys : List IV} {e : E} (h : fr[i]? = some (.own xs)) (he : ev Φ e fr = M.pure (.lst ys)) (hz : xs.length + ys.length ≤ szl) : xs1 Φ W (.ext i e) fr = M.pure (.nx (fr.set i (.own (xs ++ ys)))) := by
  simp only [xs1, h, he]
  simp [ownOf, hz]
/-- how many nodes -/
def nd : Nat → IV → Nat
  | 0, _ => 1
  | d + 1, x => 1 + ((kids x).map (nd d)).sum
/-- each part of a sort, not too deep -/
def fine : Nat → IV → Nat → Bool
  | 0, _, _ => false
  | d + 1, x, l => !isNon (sortM x) && (decide (l ≤ 12) && (kids x).all fun c => fine d c (l + 1))
structure It where
  x : IV
  l : Nat
  d : Nat
def enc (t : It) : IV := .tup [t.x, .int t.l]
def kidsI (t : It) : List It := (kids t.x).map fun c => ⟨c, t.l + 1, t.d - 1⟩
def Fr7 (v : IV) (L : List It) (m : Nat) (a b c e : SV) : Fr := [.val v, .own (L.map enc), .val (.int m), a, b, c, e]
def body : List S := [.pop (.many [3, 4]) 1, .par 5 2 false false (.call 5 [(.slot 3)]) (.pr .add [(.slot 2), (.c (.int 1))]), .ife (.or (.pr .isnon [(.slot 5)]) (.or (.pr .gt [(.slot 2), (.c (.int 2000))]) (.pr .gt [(.slot 4), (.c (.int 12))]))) [.ret (.c (.bl false))] [], .ife (.pr .inn [(.slot 5), (.tup [(.c (.str [108, 105, 115, 116])), (.c (.str [114, 101, 99, 111, 114, 100]))])]) [.ife (.pr .gt [(.pr .add [(.pr .add [(.slot 2), (.pr .len [(.slot 3)])]), (.pr .len [(.own 1)])]), (.c (.int 2000))]) [.ret (.c (.bl false))] [], .ext 1 (.comp (.one 6) .val [(.call 6 [(.slot 3)])] [] (.tup [(.slot 6), (.pr .add [(.slot 4), (.c (.int 1))])]))] []]
def isCont (x : IV) : Bool := match x with
  | .tup _ => true
  | .lst _ => true
  | .dct _ => true
  | _ => false
section
variable {W n : Nat}
theorem sort_in {x : IV} {w l : Bool} {d : Nat} (h : Cl w l d x) (hs : isNon (sortM x) = false) : prM .inn [sortM x, .tup [.str [108, 105, 115, 116], .str [114, 101, 99, 111, 114, 100]]] = M.pure (.bl (isCont x)) := by
  have e : ∀ s : List Nat, prM .inn [.str s, .tup [.str [108, 105, 115, 116], .str [114, 101, 99, 111, 114, 100]]] = M.pure (.bl (decide (s = [108, 105, 115, 116]) || (decide (s = [114, 101, 99, 111, 114, 100]) || false))) := fun s => by
    funext c
    show M.opt (if (pln (.str s) deepEq && plns [IV.str [108, 105, 115, 116], .str [114, 101, 99, 111, 114, 100]] 58) = true then some (IV.bl (inList (.str s) [.str [108, 105, 115, 116], .str [114, 101, 99, 111, 114, 100]] != false)) else none) c = _
    rw [if_pos (by simp [pln, plns])]
    simp [inList, eqv, eq_comm]
  cases d with
  | zero => exact h.elim
  | succ d =>
    cases x with
    | int i =>
      have : sortM (.int i) = sNumber := by
        simp only [sortM] at hs ⊢
        by_cases hc : (if i < 0 then -i else i) < bound
        · rw [if_pos hc]
        · rw [if_neg hc] at hs; simp [isNon] at hs
      rw [this, sNumber, e]; rfl
    | str s =>
      have : sortM (.str s) = sText := by
        simp only [sortM] at hs ⊢
        split
        · rfl
        · rename_i hc; rw [if_neg hc] at hs; simp [isNon] at hs
      rw [this, sText, e]; rfl
    | dct kvs =>
      have : sortM (.dct kvs) = sRecord := by
        simp only [sortM] at hs ⊢
        split
        · rfl
        · rename_i hc; rw [if_neg hc] at hs; simp [isNon] at hs
      rw [this, sRecord, e]; rfl
    | non => rw [show sortM .non = sNull from rfl, sNull, e]; rfl
    | bl b => rw [show sortM (.bl b) = sTruth from rfl, sTruth, e]; rfl
    | tup b => rw [show sortM (.tup b) = sList from rfl, sList, e]; rfl
    | lst b => rw [show sortM (.lst b) = sList from rfl, sList, e]; rfl
    | odd k => simp [sortM, isNon] at hs
    | _ => exact h.elim
theorem len_kids {x : IV} (h : isCont x = true) : prM .len [x] = M.pure (.int (kids x).length) := by
  cases x <;> first | (simp [isCont] at h; done) | rfl | (simp [kids]; done)
theorem kids_few {w l : Bool} {d : Nat} {x : IV} (h : Cl w l d x) : (kids x).length ≤ 3000 := by
  cases d with
  | zero => exact h.elim
  | succ d =>
    cases x with
    | tup xs => exact h.1
    | lst xs => exact h.2.1
    | dct kvs =>
      have := (keys_ok h).1
      simp [kids]; omega
    | _ => simp [kids]
theorem step (v : IV) (L : List It) (it : It) (m : Nat) (a b c e : SV) (hc : Cl true true it.d it.x) (hm : m ≤ 2000) (hn : 3 ≤ n) :
    xss (callF fs W n) W body (Fr7 v (L ++ [it]) m a b c e) = M.pure (if isNon (sortM it.x) = true ∨ 2000 < m + 1 ∨ 12 < it.l then .ret (.bl false)
      else if isCont it.x = true ∧ 2000 < m + 1 + (kids it.x).length + L.length then .ret (.bl false)
      else .nx (Fr7 v (L ++ kidsI it) (m + 1) (.val it.x) (.val (.int it.l)) (.val (sortM it.x)) e)) := by
  have hs := sort_of (W := W) hc (show 2 ≤ n by omega)
  have hp : ∀ w : IV, (Fr7 v (L ++ [it]) m a b c e)[1]? = some (.own (L.map enc ++ [enc it])) := fun _ => by simp [Fr7]
  unfold body
  rw [xss_cons, xs1_pop (hp .non)]
  have e1 : ((m : Int) + 1) = ((m + 1 : Nat) : Int) := by omega
  simp [Fr7, enc, hs]
  by_cases h1 : isNon (sortM it.x) = true
  · simp [h1]
  have h1 : isNon (sortM it.x) = false := by simpa using h1
  have q1 : ((2000 : Int) < m + 1) ↔ 2000 < m + 1 := by omega
  have q2 : ((12 : Int) < it.l) ↔ 12 < it.l := by omega
  simp [h1, q1, q2]
  by_cases h2 : 2000 < m + 1
  · simp [h2]
  by_cases h3 : 12 < it.l
  · simp [h2, h3]
  have hin := sort_in hc h1
  have hz2 : (2 : Nat) ≤ szl := by decide
  simp [h2, h3, hin, hz2]
  cases h4 : isCont it.x with
  | false =>
    have hk : kidsI it = [] := by
      unfold kidsI
      cases hx : it.x <;> rw [hx] at h4 <;> first | (simp [isCont] at h4; done) | simp [kids]
    simp [hk]
  | true =>
    have q3 : ((2000 : Int) < m + 1 + (kids it.x).length + L.length) ↔ 2000 < m + 1 + (kids it.x).length + L.length := by omega
    simp [len_kids h4, q3]
    by_cases h5 : 2000 < m + 1 + (kids it.x).length + L.length
    · simp [h5]
    have hpa := parts_of (W := W) hc h1 (show 2 ≤ n by omega)
    have hkl := kids_few hc
    have he : ev (callF fs W n) (.comp (.one 6) .val [(.call 6 [(.slot 3)])] [] (.tup [(.slot 6), (.pr .add [(.slot 4), (.c (.int 1))])])) [SV.val v, SV.own (L.map enc), SV.val (.int (m + 1)), SV.val it.x, SV.val (.int it.l), SV.val (sortM it.x), e] = M.pure (.lst ((kidsI it).map enc)) := by
      have hw : walk .val [.lst (kids it.x)] = some (kids it.x) := rfl
      have hz : (kids it.x).length ≤ szl := szl_big (by omega)
      simp [hpa, hw]
      rw [each_map (g := fun c => IV.tup [c, .int (it.l + 1)]) ?_]
      · simp [hz, kidsI, enc, Function.comp_def]
      · intro x hx
        simp [hz2]
    have he2 : xs1 (callF fs W n) W (.ext 1 (.comp (.one 6) .val [(.call 6 [(.slot 3)])] [] (.tup [(.slot 6), (.pr .add [(.slot 4), (.c (.int 1))])]))) [SV.val v, SV.own (L.map enc), SV.val (.int (m + 1)), SV.val it.x, SV.val (.int it.l), SV.val (sortM it.x), e] = M.pure (.nx [SV.val v, SV.own (L.map enc ++ (kidsI it).map enc), SV.val (.int (m + 1)), SV.val it.x, SV.val (.int it.l), SV.val (sortM it.x), e]) := by
      refine (xs1_ext rfl he ?_).trans rfl
      refine szl_big ?_
      simp [kidsI]
      omega
    simp [h5, he2]
def tot (L : List It) : Nat := (L.map fun t => nd t.d t.x).sum
def allF (L : List It) : Bool := L.all fun t => fine t.d t.x t.l
theorem nd_pos (d : Nat) (x : IV) : 1 ≤ nd d x := by cases d <;> simp [nd]
theorem tot_len : ∀ L : List It, L.length ≤ tot L
  | [] => by simp [tot]
  | t :: r => by
    have := tot_len r
    have h2 := nd_pos t.d t.x
    simp [tot] at this ⊢
    omega
theorem tot_app (L K : List It) : tot (L ++ K) = tot L + tot K := by simp [tot]
theorem allF_app (L K : List It) : allF (L ++ K) = (allF L && allF K) := by simp [allF]
theorem kids_tot (t : It) (h : 0 < t.d) : nd t.d t.x = 1 + tot (kidsI t) := by
  obtain ⟨x, l, d⟩ := t
  cases d with
  | zero => simp at h
  | succ d => simp [nd, tot, kidsI, Function.comp_def]
theorem kids_fine (t : It) (h : 0 < t.d) : fine t.d t.x t.l = (!isNon (sortM t.x) && (decide (t.l ≤ 12) && allF (kidsI t))) := by
  obtain ⟨x, l, d⟩ := t
  cases d with
  | zero => simp at h
  | succ d => simp [fine, allF, kidsI, Function.comp_def]
theorem kids_cl {w l : Bool} {t : It} (h : Cl w l t.d t.x) (hs : isNon (sortM t.x) = false) : ∀ k ∈ kidsI t, Cl w l k.d k.x := by
  obtain ⟨x, lv, d⟩ := t
  intro k hk
  cases d with
  | zero => exact h.elim
  | succ d =>
    unfold kidsI at hk
    obtain ⟨c, hc, rfl⟩ := List.mem_map.mp hk
    show Cl w l d c
    cases x with
    | tup xs => exact h.2 c hc
    | lst xs => exact h.2.2 c hc
    | dct kvs =>
      rcases h with ⟨ps, rfl, k, q⟩ | ⟨_, i, v, rfl⟩
      · simp [kids, kv] at hc
        obtain ⟨s, hs2⟩ := hc
        exact q _ hs2
      · simp [sortM, isNon, kyV, nameB] at hs
    | _ => simp [kids] at hc
theorem turns (v : IV) (hn : 3 ≤ n) : ∀ (k : Nat) (L : List It) (m : Nat) (a b c e : SV), (∀ t ∈ L, Cl true true t.d t.x) → m ≤ 2000 → 2001 ≤ m + k →
    ∃ r, loop (fun fr => M.test (ev (callF fs W n) (.pr .ne [(.own 1), (.lst [])]) fr)) (fun fr => xss (callF fs W n) W body fr) k (Fr7 v L m a b c e) = M.pure r ∧
      ((allF L && decide (m + tot L ≤ 2000)) = true → ∃ fr, r = .nx fr) ∧ ((allF L && decide (m + tot L ≤ 2000)) = false → r = .ret (.bl false))
  | 0, L, m, a, b, c, e, _, h1, h2 => by omega
  | k + 1, L, m, a, b, c, e, hL, h1, h2 => by
    have ht : M.test (ev (callF fs W n) (.pr .ne [(.own 1), (.lst [])]) (Fr7 v L m a b c e)) = M.pure (!decide (L = [])) := by
      simp [Fr7]
    rcases List.eq_nil_or_concat L with rfl | ⟨L0, it, rfl⟩
    · refine ⟨.nx (Fr7 v [] m a b c e), ?_, fun _ => ⟨_, rfl⟩, fun h => ?_⟩
      · show (M.test _).bind _ = _
        rw [ht]
        simp
      · simp [allF, tot] at h
        omega
    · have hit : Cl true true it.d it.x := hL it (by simp)
      have hd : 0 < it.d := by
        cases hz : it.d with
        | zero => rw [hz] at hit; exact hit.elim
        | succ d => omega
      have st := step (W := W) v L0 it m a b c e hit h1 hn
      have e0 : loop (fun fr => M.test (ev (callF fs W n) (.pr .ne [(.own 1), (.lst [])]) fr)) (fun fr => xss (callF fs W n) W body fr) (k + 1) (Fr7 v (L0.concat it) m a b c e)
          = (xss (callF fs W n) W body (Fr7 v (L0 ++ [it]) m a b c e)).bind (loopF fun fr => loop (fun fr => M.test (ev (callF fs W n) (.pr .ne [(.own 1), (.lst [])]) fr)) (fun fr => xss (callF fs W n) W body fr) k fr) := by
        show (M.test _).bind _ = _
        rw [ht]
        simp
      rw [e0, st]
      have f1 : allF (L0.concat it) = (allF L0 && fine it.d it.x it.l) := by simp [allF]
      have f2 : tot (L0.concat it) = tot L0 + nd it.d it.x := by simp [tot]
      rw [f1, f2, kids_tot it hd, kids_fine it hd]
      by_cases c1 : isNon (sortM it.x) = true ∨ 2000 < m + 1 ∨ 12 < it.l
      · rw [if_pos c1]
        refine ⟨.ret (.bl false), rfl, fun h => ?_, fun _ => rfl⟩
        exfalso
        simp only [Bool.and_eq_true, Bool.not_eq_true', decide_eq_true_eq] at h
        obtain ⟨⟨_, g1, g2, _⟩, g3⟩ := h
        rcases c1 with c1 | c1 | c1
        · rw [g1] at c1; cases c1
        · omega
        · omega
      · rw [if_neg c1]
        have g1 : isNon (sortM it.x) = false := by
          cases z : isNon (sortM it.x) with
          | false => rfl
          | true => exact absurd (.inl z) c1
        have g2 : ¬ 2000 < m + 1 := fun z => c1 (.inr (.inl z))
        have g3 : ¬ 12 < it.l := fun z => c1 (.inr (.inr z))
        by_cases c2 : isCont it.x = true ∧ 2000 < m + 1 + (kids it.x).length + L0.length
        · rw [if_pos c2]
          refine ⟨.ret (.bl false), rfl, fun h => ?_, fun _ => rfl⟩
          exfalso
          simp only [Bool.and_eq_true, decide_eq_true_eq] at h
          have t1 := tot_len L0
          have t2 := tot_len (kidsI it)
          have t3 : (kidsI it).length = (kids it.x).length := by simp [kidsI]
          omega
        · rw [if_neg c2]
          have hk := kids_cl hit g1
          obtain ⟨r, r1, r2, r3⟩ := turns v hn k (L0 ++ kidsI it) (m + 1) (.val it.x) (.val (.int it.l)) (.val (sortM it.x)) e (fun t ht => by
            rcases List.mem_append.mp ht with q | q
            · exact hL t (by simp [q])
            · exact hk t q) (by omega) (by omega)
          refine ⟨r, r1, ?_, ?_⟩
          · intro h
            apply r2
            rw [allF_app, tot_app]
            simp only [Bool.and_eq_true, Bool.not_eq_true', decide_eq_true_eq] at h ⊢
            exact ⟨⟨h.1.1, h.1.2.2.2⟩, by omega⟩
          · intro h
            apply r3
            rw [allF_app, tot_app]
            have e1 : (m + 1 + (tot L0 + tot (kidsI it)) ≤ 2000) ↔ (m + (tot L0 + (1 + tot (kidsI it))) ≤ 2000) := by omega
            have g4 : decide (it.l ≤ 12) = true := by simp; omega
            simp only [g1, g4, Bool.not_false, Bool.true_and] at h
            simp only [e1]
            exact h
theorem is_document {x : IV} {d : Nat} (h : Cl true true d x) (hn : 4 ≤ n) (hW : 2001 ≤ W) : callF fs W n 7 [x] = M.pure (.bl (fine d x 1 && decide (nd d x ≤ 2000))) := by
  rw [op (d := f_is_document) rfl rfl (by omega)]
  have hz2 : (2 : Nat) ≤ szl := by decide
  have hz1 : (1 : Nat) ≤ szl := by decide
  obtain ⟨r, r1, r2, r3⟩ := turns (W := W) (n := n - 1) x (by omega) W [⟨x, 1, d⟩] 0 .non .non .non .non (by simpa using h) (by omega) (by omega)
  have e1 : allF [⟨x, 1, d⟩] = fine d x 1 := by simp [allF]
  have e2 : tot [⟨x, 1, d⟩] = nd d x := by simp [tot]
  rw [e1, e2, Nat.zero_add] at r2 r3
  have e3 : Fr7 x [⟨x, 1, d⟩] 0 .non .non .non .non = [SV.val x, SV.own [.tup [x, .int 1]], SV.val (.int 0), .non, .non, .non, .non] := rfl
  rw [e3] at r1
  have e4 : f_is_document.body = [.par 1 2 true false (.lst [(.tup [(.slot 0), (.c (.int 1))])]) (.c (.int 0)), .while (.pr .ne [(.own 1), (.lst [])]) body, .ret (.c (.bl true))] := rfl
  have e5 : enter f_is_document [x] = [SV.val x, .non, .non, .non, .non, .non, .non] := rfl
  rw [e4, e5]
  simp only [xss_cons, xs1_par, xs1_while]
  have e6 : (ev (callF fs W (n - 1)) (.lst [(.tup [(.slot 0), (.c (.int 1))])]) [SV.val x, .non, .non, .non, .non, .non, .non]) = M.pure (.lst [.tup [x, .int 1]]) := by simp [hz1, hz2]
  rw [e6]
  simp only [ev_c, bind_pure, ownOf, Option.map_some, if_true, opt_some, List.set_cons_succ, List.set_cons_zero, seqF_nx, Bool.false_eq_true, if_false]
  rw [r1]
  cases hc : (fine d x 1 && decide (nd d x ≤ 2000)) with
  | true =>
    obtain ⟨fr, rfl⟩ := r2 hc
    simp
  | false =>
    rw [r3 hc]
    simp
end
end K1

set_option Elab.async false
set_option linter.all false
set_option maxRecDepth 100000
set_option maxHeartbeats 4000000
/-! K01P7: what the law draws. -/
namespace K1
open PI PL Kf
@[simp] theorem bind_id2 {α : Type} (m : M α) : (M.bind m fun v => M.pure v) = m := bind_id m
section
variable {W n : Nat}
theorem draw (hn : 1 ≤ n) {many : Int} (hm : 1 ≤ many) (hm2 : many < 4611686018427387904) : Dr 1 (callF fs W n 11 [.cell 0, .int many]) fun v => ∃ d, v = .int d ∧ 0 ≤ d ∧ d < many :=
  draw_run (k1 := 50095) (k2 := 6033) (k3 := 23061) (k4 := 5322) rfl (by omega) (by omega) (by omega) (by omega) hn hm hm2
theorem pick (hn : 2 ≤ n) {xs : List IV} (h0 : 1 ≤ xs.length) (h1 : xs.length ≤ 3000) : Dr 1 (callF fs W n 12 [.cell 0, .lst xs]) fun v => v ∈ xs := by
  rw [op (d := f__law_pick) rfl rfl (by omega)]
  simp [f__law_pick, enter, PL.bind_assoc]
  refine (draw (show 1 ≤ n - 1 by omega) (show (1 : Int) ≤ xs.length by omega) (by omega)).bind (by omega) ?_
  rintro _ ⟨d, rfl, h0, h1⟩
  obtain ⟨v, hv, _, hat⟩ := at_int h0 h1
  simp [p_item_lst hat]
  exact .pure hv
theorem pick_str (hn : 2 ≤ n) {s : List Nat} (h0 : 1 ≤ s.length) (h1 : s.length ≤ 3000) : Dr 1 (callF fs W n 12 [.cell 0, .str s]) fun v => ∃ c ∈ s, v = .str [c] := by
  rw [op (d := f__law_pick) rfl rfl (by omega)]
  have hz : s.length ≤ szl := szl_big (by omega)
  simp [f__law_pick, enter, PL.bind_assoc, p_len_str hz]
  refine (draw (show 1 ≤ n - 1 by omega) (show (1 : Int) ≤ s.length by omega) (by omega)).bind (by omega) ?_
  rintro _ ⟨d, rfl, h0, h1⟩
  obtain ⟨v, hv, _, hat⟩ := at_int (xs := chars s) h0 (by simpa [chars] using h1)
  simp [p_item_str hz hat]
  obtain ⟨c, hc, rfl⟩ := List.mem_map.mp hv
  exact .pure ⟨c, hc, rfl⟩
def nmOk (ss : List (List Nat)) : Bool := ascB ss && (decide ss.Nodup && (ss.all (fun s => nameB (.str s)) && decide (ss.length ≤ 3)))
def nm (start hop : Nat) (ends : List Nat) (i : Nat) : List Nat := letters.getD ((start + hop * i) % 26) 0 :: ends
def ends3 : List (List Nat) := [[], [113], [122, 122, 122, 122, 122, 122, 122]]
theorem nm_all : ∀ many ∈ [1, 2, 3], ∀ hop ∈ [1, 3, 5, 7, 9, 11], ∀ ends ∈ ends3, ∀ start ∈ List.range 26, nmOk (sortS ((List.range many).map (nm start hop ends))) = true := by decide +kernel
theorem strL_map : ∀ l : List (List Nat), strL (l.map .str) = some l
  | [] => rfl
  | s :: r => by
    show (strL (r.map IV.str)).map _ = _
    rw [strL_map r]
    rfl
theorem p_sorted_strs {l : List (List Nat)} (h : l.length < 64) : prM .sorted [.lst (l.map .str)] = M.pure (.lst ((sortS l).map .str)) := by
  funext c
  show M.opt ((strL (l.map IV.str)).bind sortV) c = _
  rw [strL_map]
  show M.opt (sortV l) c = _
  unfold sortV
  rw [if_pos h]
  rfl
theorem names (hn : 3 ≤ n) {many : Int} (h0 : 1 ≤ many) (h1 : many ≤ 3) : Dr 3 (callF fs W n 13 [.cell 0, .int many]) fun v => ∃ ss, v = .lst (ss.map .str) ∧ nmOk ss = true := by
  rw [op (d := f__law_names) rfl rfl (by omega)]
  have hz2 : (2 : Nat) ≤ szl := by decide
  have hz4 : (4 : Nat) ≤ szl := by decide
  have hz6 : (6 : Nat) ≤ szl := by decide
  simp [f__law_names, enter, PL.bind_assoc, hz2, hz4, hz6]
  refine (pick (show 2 ≤ n - 1 by omega) (by simp) (by simp)).bind (by omega) ?_
  intro a ha
  obtain ⟨ends, he, rfl⟩ : ∃ ends, ends ∈ ends3 ∧ a = .str ends := by
    simp at ha
    rcases ha with rfl | rfl | rfl <;> exact ⟨_, by simp [ends3], rfl⟩
  simp
  refine (draw (show 1 ≤ n - 1 by omega) (by omega) (by omega)).bind (by omega) ?_
  rintro _ ⟨start, rfl, s0, s1⟩
  simp
  refine (pick (show 2 ≤ n - 1 by omega) (by simp) (by simp)).bind (by omega) ?_
  intro b hb
  obtain ⟨hop, hh, rfl⟩ : ∃ hop : Nat, hop ∈ [1, 3, 5, 7, 9, 11] ∧ b = .int hop := by
    simp at hb
    rcases hb with rfl | rfl | rfl | rfl | rfl | rfl <;> exact ⟨_, by decide, rfl⟩
  obtain ⟨st, rfl⟩ : ∃ st : Nat, start = st := ⟨start.toNat, by omega⟩
  obtain ⟨mn, rfl⟩ : ∃ mn : Nat, many = mn := ⟨many.toNat, by omega⟩
  have hw : walk .range [.int mn] = some ((List.range mn).map fun (i : Nat) => IV.int i) := by
    show (if (mn : Int).natAbs ≤ szl then some ((List.range (mn : Int).toNat).map fun (i : Nat) => IV.int i) else none) = _
    rw [if_pos (szl_big (by omega))]
    simp
  simp [hw]
  rw [each_mapp (b := fun i => IV.str (nm st hop ends i)) ?_]
  · have hmn : mn ∈ [1, 2, 3] := by
      have : mn = 1 ∨ mn = 2 ∨ mn = 3 := by omega
      rcases this with rfl | rfl | rfl <;> decide
    have ok := nm_all mn hmn hop hh ends he st (List.mem_range.mpr (by omega))
    have e : ((List.range mn).map fun i => IV.str (nm st hop ends i)) = ((List.range mn).map (nm st hop ends)).map .str := by simp [Function.comp_def]
    have hz : mn ≤ szl := szl_big (by omega)
    rw [e]
    simp only [calm_pure, bind_pure, List.length_map, List.length_range, hz, if_true, opt_some]
    rw [p_sorted_strs (by simp; omega)]
    exact .pure ⟨_, rfl, ok⟩
  · intro i hi
    have hi := List.mem_range.mp hi
    have hhop : hop ≤ 11 := by
      simp at hh
      omega
    have hp : prM .mul [.int hop, .int i] = M.pure (.int ((hop : Int) * i)) := p_mul (.inl (by omega))
    have hm : prM .mod [.int ((st : Int) + hop * i), .int 26] = M.pure (.int (((st : Int) + hop * i) % 26)) := p_mod (by omega)
    have hq : ((st : Int) + hop * i) % 26 = (((st + hop * i) % 26 : Nat) : Int) := by simp
    have hl : (st + hop * i) % 26 < 26 := Nat.mod_lt _ (by omega)
    have hit : prM .item [.str [97, 98, 99, 100, 101, 102, 103, 104, 105, 106, 107, 108, 109, 110, 111, 112, 113, 114, 115, 116, 117, 118, 119, 120, 121, 122], .int (((st + hop * i) % 26 : Nat) : Int)] = M.pure (.str [letters.getD ((st + hop * i) % 26) 0]) := by
      refine p_item_str (by decide) (at_of (α := Nat) ?_)
      generalize (st + hop * i) % 26 = q at *
      have : ∀ q ∈ List.range 26, (chars letters)[q]? = some (IV.str [letters.getD q 0]) := by
        intro q hq
        have hq := List.mem_range.mp hq
        simp only [chars, List.getElem?_map]
        rw [List.getElem?_eq_getElem (show q < letters.length from hq)]
        simp [List.getD_eq_getElem?_getD, List.getElem?_eq_getElem (show q < letters.length from hq)]
      exact this q (List.mem_range.mpr hl)
    have hel : ends.length ≤ 7 := by
      simp [ends3] at he
      rcases he with rfl | rfl | rfl <;> simp
    have hadd : prM .add [.str [letters.getD ((st + hop * i) % 26) 0], .str ends] = M.pure (.str (nm st hop ends i)) := by
      rw [p_add_str (szl_big (by simp; omega))]
      rfl
    simp [hp, hm]
    rw [hq, hit]
    simp only [bind_pure]
    rw [hadd]
    rfl
end
end K1

set_option Elab.async false
set_option linter.all false
set_option maxRecDepth 100000
set_option maxHeartbeats 4000000
/-! K01P8: drawn types and documents. -/
namespace K1
open PI PL Kf
def rows (ps : List (List Nat × IV)) : List IV := ps.map fun p => IV.tup [.str p.1, p.2]
/-- a drawn type -/
def Ty : Nat → IV → Prop
  | 0, _ => False
  | d + 1, x => x = .tup [sNull] ∨ x = .tup [sTruth] ∨ x = .tup [sNumber] ∨ x = .tup [sText] ∨ (∃ t, x = .tup [sList, t] ∧ Ty d t) ∨
      ∃ ps : List (List Nat × IV), x = .tup [sRecord, .tup (rows ps)] ∧ nmOk (ps.map (·.1)) = true ∧ ∀ p ∈ ps, Ty d p.2
theorem Ty.up : ∀ {d : Nat} {x : IV}, Ty d x → Ty (d + 1) x
  | 0, _, h => h.elim
  | d + 1, x, h => by
    rcases h with h | h | h | h | ⟨t, e, h⟩ | ⟨ps, e, k, h⟩
    · exact .inl h
    · exact .inr (.inl h)
    · exact .inr (.inr (.inl h))
    · exact .inr (.inr (.inr (.inl h)))
    · exact .inr (.inr (.inr (.inr (.inl ⟨t, e, h.up⟩))))
    · exact .inr (.inr (.inr (.inr (.inr ⟨ps, e, k, fun p hp => (h p hp).up⟩))))
/-- rows side by side -/
theorem all2_rows {R : IV → Prop} {Q : IV → Prop} : ∀ {ps : List (List Nat × IV)} {vs : List IV}, (∀ p ∈ ps, Q p.2) → All2 (fun x b => ∀ s t, x = IV.tup [.str s, t] → Q t → ∃ y, b = IV.tup [.str s, y] ∧ R y) (rows ps) vs → ∃ qs, vs = rows qs ∧ qs.map (·.1) = ps.map (·.1) ∧ ∀ q ∈ qs, R q.2
  | [], _, _, .nil => ⟨[], rfl, rfl, by simp⟩
  | p :: ps, _, hQ, .cons (r := r) a q => by
    obtain ⟨y, rfl, hy⟩ := a p.1 p.2 rfl (hQ p (by simp))
    obtain ⟨qs, rfl, e, k⟩ := all2_rows (R := R) (Q := Q) (fun p hp => hQ p (List.mem_cons_of_mem _ hp)) q
    exact ⟨(p.1, y) :: qs, rfl, by simp [e], fun z hz => by
      rcases List.mem_cons.mp hz with rfl | hz
      · exact hy
      · exact k z hz⟩
theorem all2_strs {R : IV → Prop} : ∀ {ss : List (List Nat)} {vs : List IV}, All2 (fun x b => ∀ s, x = IV.str s → ∃ y, b = IV.tup [.str s, y] ∧ R y) (ss.map .str) vs → ∃ qs, vs = rows qs ∧ qs.map (·.1) = ss ∧ ∀ q ∈ qs, R q.2
  | [], _, .nil => ⟨[], rfl, rfl, by simp⟩
  | s :: ss, _, .cons (r := r) a q => by
    obtain ⟨y, rfl, hy⟩ := a s rfl
    obtain ⟨qs, rfl, e, k⟩ := all2_strs (R := R) q
    exact ⟨(s, y) :: qs, rfl, by simp [e], fun z hz => by
      rcases List.mem_cons.mp hz with rfl | hz
      · exact hy
      · exact k z hz⟩
def bt : Nat → Nat
  | 0 => 4
  | k + 1 => 8 + 3 * bt k
theorem nm_len {ss : List (List Nat)} (h : nmOk ss = true) : ss.length ≤ 3 := by
  unfold nmOk at h
  simp only [Bool.and_eq_true, decide_eq_true_eq] at h
  exact h.2.2.2
section
variable {W : Nat}
theorem law_type : ∀ (k n : Nat) (deep lists : Nat), deep + lists ≤ k → k + 5 ≤ n → Dr (bt k) (callF fs W n 14 [.cell 0, .int deep, .int lists]) fun v => Ty (k + 1) v := by
  intro k
  induction k with
  | zero =>
    intro n deep lists h hn
    obtain ⟨rfl, rfl⟩ : deep = 0 ∧ lists = 0 := by omega
    rw [op (d := f__law_type) rfl rfl (by omega)]
    have hz6 : (6 : Nat) ≤ szl := by decide
    have hz1 : (1 : Nat) ≤ szl := by decide
    simp [f__law_type, enter, PL.bind_assoc, hz6, hz1]
    refine (draw (show 1 ≤ n - 1 by omega) (by omega) (by omega)).bind (by decide) ?_
    rintro _ ⟨way, rfl, w0, w1⟩
    refine (pick (show 2 ≤ n - 1 by omega) (by simp) (by simp)).bind (by decide) ?_
    intro a ha
    refine .pure ?_
    simp at ha
    rcases ha with rfl | rfl | rfl | rfl
    · exact .inr (.inr (.inl rfl))
    · exact .inr (.inr (.inr (.inl rfl)))
    · exact .inr (.inl rfl)
    · exact .inl rfl
  | succ k ih =>
    intro n deep lists h hn
    rw [op (d := f__law_type) rfl rfl (by omega)]
    have hz6 : (6 : Nat) ≤ szl := by decide
    have hz1 : (1 : Nat) ≤ szl := by decide
    have hz2 : (2 : Nat) ≤ szl := by decide
    have hb : bt (k + 1) = 8 + 3 * bt k := rfl
    have hb1 : 4 ≤ bt k := by cases k <;> simp [bt]; omega
    have e1 : ((deep : Int) = 0) ↔ deep = 0 := by omega
    have e2 : ((0 : Int) < lists) ↔ 0 < lists := by omega
    simp [f__law_type, enter, PL.bind_assoc, hz6, hz1, hz2, test_bind]
    refine (draw (show 1 ≤ n - 1 by omega) (by omega) (by omega)).bind (by omega) ?_
    rintro _ ⟨way, rfl, w0, w1⟩
    have plain : ∀ c, 1 ≤ c → ∀ f : IV → M IV, (∀ a, f a = M.pure (.tup [a])) → Dr c ((callF fs W (n - 1) 12 [.cell 0, .lst [.str [110, 117, 109, 98, 101, 114], .str [110, 117, 109, 98, 101, 114], .str [116, 101, 120, 116], .str [116, 101, 120, 116], .str [116, 114, 117, 116, 104], .str [110, 117, 108, 108]]]).bind f) fun v => Ty (k + 1 + 1) v := by
      intro c hc f hf
      refine (pick (show 2 ≤ n - 1 by omega) (by simp) (by simp)).bind (by omega) ?_
      intro a ha
      rw [hf]
      refine .pure ?_
      simp at ha
      rcases ha with rfl | rfl | rfl | rfl
      · exact .inr (.inr (.inl rfl))
      · exact .inr (.inr (.inr (.inl rfl)))
      · exact .inr (.inl rfl)
      · exact .inl rfl
    have isl : ∀ (dp ls c : Nat), dp + ls ≤ k → bt k ≤ c → ∀ f : IV → M IV, (∀ a, f a = M.pure (.tup [sList, a])) → Dr c ((callF fs W (n - 1) 14 [.cell 0, .int dp, .int ls]).bind f) fun v => Ty (k + 1 + 1) v := by
      intro dp ls c h1 h2 f hf
      refine (ih (n - 1) dp ls h1 (by omega)).bind h2 ?_
      intro a ha
      rw [hf]
      exact .pure (.inr (.inr (.inr (.inr (.inl ⟨a, rfl, ha⟩)))))
    have ed : (if 1 < (deep : Int) then (deep : Int) - 1 else 0) = ((deep - 1 : Nat) : Int) := by split <;> omega
    have el : 0 < lists → (lists : Int) - 1 = ((lists - 1 : Nat) : Int) := fun _ => by omega
    have ed2 : 0 < deep → (deep : Int) - 1 = ((deep - 1 : Nat) : Int) := fun _ => by omega
    by_cases c1 : deep = 0 ∨ way < 4
    · have c1' : (if deep = 0 then IV.bl true else IV.bl (decide (way < 4))) = .bl true := by
        by_cases z : deep = 0
        · rw [if_pos z]
        · have : way < 4 := c1.resolve_left z
          rw [if_neg z]; simp [this]
      by_cases c2 : 0 < lists
      · simp [PL.bind_assoc, e1, e2, c1', c2, test_bind]
        refine (draw (show 1 ≤ n - 1 by omega) (by omega) (by omega)).bind (by omega) ?_
        rintro _ ⟨q, rfl, q0, q1⟩
        by_cases c3 : q = 0
        · simp [c3, PL.bind_assoc]
          rw [ed, el c2]
          exact isl _ _ _ (by omega) (by omega) _ fun a => by simp [sList]
        · simp [c3, PL.bind_assoc]
          exact plain _ (by omega) _ fun a => by simp
      · simp [PL.bind_assoc, e1, e2, c1', c2]
        exact plain _ (by omega) _ fun a => by simp
    · have z : deep ≠ 0 := fun z => c1 (.inl z)
      have w4 : ¬ way < 4 := fun z => c1 (.inr z)
      have names_part : ∀ c : Nat, 4 + 3 * bt k ≤ c → Dr c ((callF fs W (n - 1) 11 [.cell 0, .int 3]).bind fun a => (prM .add [.int 1, a]).bind fun a => (callF fs W (n - 1) 13 [.cell 0, a]).bind fun a => (M.opt (walk .val [a])).bind fun l => (M.calm (each (fun x => (callF fs W (n - 1) 14 [.cell 0, .int ((deep - 1 : Nat) : Int), .int lists]).bind fun a => M.pure [IV.tup [x, a]]) l)).bind fun l => (M.opt (if l.length ≤ szl then some (IV.lst l) else none)).bind fun a => (prM .tuple [a]).bind fun a => M.pure (IV.tup [sRecord, a])) fun v => Ty (k + 1 + 1) v := by
        intro c hc
        refine (draw (show 1 ≤ n - 1 by omega) (by omega) (by omega)).bind (by omega) ?_
        rintro _ ⟨q, rfl, q0, q1⟩
        simp only [p_add, bind_pure]
        refine (names (show 3 ≤ n - 1 by omega) (by omega) (by omega)).bind (by omega) ?_
        rintro _ ⟨ss, rfl, hss⟩
        have hl := nm_len hss
        have hw : walk .val [.lst (ss.map IV.str)] = some (ss.map IV.str) := rfl
        rw [hw]
        simp only [opt_some, bind_pure]
        have hd : Dr (bt k * (ss.map IV.str).length) (M.calm (each (fun x => (callF fs W (n - 1) 14 [.cell 0, .int ((deep - 1 : Nat) : Int), .int lists]).bind fun a => M.pure [IV.tup [x, a]]) (ss.map IV.str))) fun vs => All2 (fun x b => ∀ s, x = IV.str s → ∃ y, b = IV.tup [.str s, y] ∧ Ty (k + 1) y) (ss.map IV.str) vs := by
          refine (Dr.each fun x hx => ?_).calm
          refine (ih (n - 1) (deep - 1) lists (by omega) (by omega)).bind (by omega) fun a ha => ?_
          exact .pure ⟨_, rfl, fun s e => ⟨a, by rw [e], ha⟩⟩
        refine (hd.mono (d := 3 * bt k) (by rw [Nat.mul_comm]; exact Nat.mul_le_mul_right _ (by simpa using hl)) fun _ h => h).bind (by omega) ?_
        intro vs hvs
        obtain ⟨qs, rfl, e, hq⟩ := all2_strs hvs
        have hz : (rows qs).length ≤ szl := szl_big (by
          have : qs.length = ss.length := by simpa using congrArg List.length e
          simp [rows]; omega)
        simp only [hz, if_true, opt_some, bind_pure, p_tuple_lst]
        exact .pure (.inr (.inr (.inr (.inr (.inr ⟨qs, rfl, by rw [e]; exact hss, hq⟩)))))
      by_cases w6 : way < 6 ∧ 0 < lists
      · simp [PL.bind_assoc, e1, e2, z, w4, w6.1, w6.2]
        rw [ed2 (by omega), el w6.2]
        exact isl _ _ _ (by omega) (by omega) _ fun a => by simp [sList]
      · have w6' : (if way < 6 then (IV.bl (decide (0 < lists))) else IV.bl false) = .bl false := by
          by_cases a : way < 6
          · have : ¬ 0 < lists := fun b => w6 ⟨a, b⟩
            simp [a, this]
          · simp [a]
        simp [PL.bind_assoc, e1, e2, z, w4, w6']
        rw [ed2 (by omega)]
        exact names_part _ (by omega)
/-- a drawn document -/
def Dc : Nat → IV → Prop
  | 0, _ => False
  | d + 1, x => x = .non ∨ (∃ b, x = .bl b) ∨ (∃ i : Int, x = .int i ∧ -1000000000 ≤ i ∧ i ≤ 1000000000) ∨ (∃ s : List Nat, x = .str s ∧ s.length ≤ 3 ∧ ∀ c ∈ s, c < 128) ∨ (∃ xs : List IV, x = .tup xs ∧ xs.length ≤ 3 ∧ ∀ y ∈ xs, Dc d y) ∨
      ∃ ps : List (List Nat × IV), x = .dct (kv ps) ∧ nmOk (ps.map (·.1)) = true ∧ ∀ p ∈ ps, Dc d p.2
theorem law_word (n : Nat) (hn : 4 ≤ n) {s : List Nat} (h0 : 1 ≤ s.length) (h1 : s.length ≤ 10) (hc : ∀ c ∈ s, c < 128) : Dr 4 (callF fs W n 15 [.cell 0, .str s, .int 3]) fun v => ∃ t : List Nat, v = .str t ∧ t.length ≤ 3 ∧ ∀ c ∈ t, c < 128 := by
  rw [op (d := f__law_word) rfl rfl (by omega)]
  simp [f__law_word, enter, PL.bind_assoc]
  refine (draw (show 1 ≤ n - 1 by omega) (by omega) (by omega)).bind (by omega) ?_
  rintro _ ⟨q, rfl, q0, q1⟩
  obtain ⟨m, rfl⟩ : ∃ m : Nat, q = m := ⟨q.toNat, by omega⟩
  have hw : walk .range [.int m] = some ((List.range m).map fun (i : Nat) => IV.int i) := by
    show (if (m : Int).natAbs ≤ szl then some ((List.range (m : Int).toNat).map fun (i : Nat) => IV.int i) else none) = _
    rw [if_pos (szl_big (by omega))]
    simp
  simp [hw]
  have hd : Dr (1 * ((List.range m).map fun (i : Nat) => IV.int i).length) (M.calm (each (fun x => (callF fs W (n - 1) 12 [.cell 0, .str s]).bind fun a => M.pure [a]) ((List.range m).map fun (i : Nat) => IV.int i))) fun vs => All2 (fun _ b => ∃ c ∈ s, b = .str [c]) ((List.range m).map fun (i : Nat) => IV.int i) vs := by
    refine (Dr.each fun x hx => ?_).calm
    refine (pick_str (show 2 ≤ n - 1 by omega) h0 (by omega)).bind (by omega) fun a ha => ?_
    exact .pure ⟨_, rfl, ha⟩
  refine (hd.mono (d := 3) (by simp; omega) fun _ h => h).bind (by omega) ?_
  intro vs hvs
  have hl : vs.length ≤ 3 := by have := hvs.length; simp at this; omega
  have hm := hvs.all (P := fun b => ∃ c ∈ s, b = .str [c]) fun _ _ b h => h
  have hz : vs.length ≤ szl := szl_big (by omega)
  have key : ∃ t : List Nat, pJoin [.str [], .lst vs] = some (.str t) ∧ t.length ≤ 3 ∧ ∀ c ∈ t, c < 128 := by
    match vs, hl, hm with
    | [], _, _ => exact ⟨[], rfl, by simp, by simp⟩
    | [a], _, hm =>
      obtain ⟨c, k, rfl⟩ := hm a (by simp)
      exact ⟨[c], rfl, by simp, by simpa using hc c k⟩
    | [a, b], _, hm =>
      obtain ⟨c, k, rfl⟩ := hm a (by simp)
      obtain ⟨c2, k2, rfl⟩ := hm b (by simp)
      exact ⟨[c, c2], rfl, by simp, by simpa using ⟨hc c k, hc c2 k2⟩⟩
    | [a, b, e], _, hm =>
      obtain ⟨c, k, rfl⟩ := hm a (by simp)
      obtain ⟨c2, k2, rfl⟩ := hm b (by simp)
      obtain ⟨c3, k3, rfl⟩ := hm e (by simp)
      exact ⟨[c, c2, c3], rfl, by simp, by simpa using ⟨hc c k, hc c2 k2, hc c3 k3⟩⟩
    | _ :: _ :: _ :: _ :: _, h, _ => simp at h
  obtain ⟨t, e, r⟩ := key
  simp [hz, e]
  exact .pure ⟨t, rfl, r⟩
def bd : Nat → Nat
  | 0 => 0
  | d + 1 => 6 + 3 * bd d
theorem p_eq_kind {a b : List Nat} {r : List IV} {f : IV → M Fl} : (M.bind (prM .item [.tup (.str a :: r), .int 0]) f) = f (.str a) := by
  rw [p_item_tup (v := .str a) rfl]
  rfl
theorem item1 {a t : IV} {f : IV → M IV} : prM .item [.tup [a, t], .int 1] = M.pure t := p_item_tup rfl
theorem item0 {a : IV} {r : List IV} : prM .item [.tup (a :: r), .int 0] = M.pure a := p_item_tup rfl
theorem law_document : ∀ (d n : Nat) (kind : IV), Ty d kind → d + 5 ≤ n → Dr (bd d) (callF fs W n 16 [.cell 0, kind, .int 3]) fun v => Dc d v := by
  intro d
  induction d with
  | zero => intro n kind h; exact h.elim
  | succ d ih =>
    intro n kind h hn
    rw [op (d := f__law_document) rfl rfl (by omega)]
    have hz6 : (6 : Nat) ≤ szl := by decide
    have hz3 : (3 : Nat) ≤ szl := by decide
    have hz2 : (2 : Nat) ≤ szl := by decide
    have hb : bd (d + 1) = 6 + 3 * bd d := rfl
    rcases h with rfl | rfl | rfl | rfl | ⟨t, rfl, ht⟩ | ⟨ps, rfl, hk, hp⟩
    · simp [f__law_document, enter, item0, sNull]
      exact .pure (.inl rfl)
    · simp [f__law_document, enter, item0, sTruth, PL.bind_assoc]
      refine (draw (show 1 ≤ n - 1 by omega) (by omega) (by omega)).bind (by omega) ?_
      rintro _ ⟨q, rfl, q0, q1⟩
      simp
      exact .pure (.inr (.inl ⟨_, rfl⟩))
    · have hp : prM .pow [.int 10, .int 9] = M.pure (.int 1000000000) := by rw [p_pow (by omega) (by omega) (by omega)]; rfl
      have hm : prM .mul [.int 2, .int 1000000000] = M.pure (.int 2000000000) := by rw [p_mul (.inl (by decide))]; rfl
      simp [f__law_document, enter, item0, sNumber, PL.bind_assoc, hp, hm, hz6]
      refine (draw (show 1 ≤ n - 1 by omega) (by omega) (by omega)).bind (by omega) ?_
      rintro _ ⟨a, rfl, a0, a1⟩
      simp [PL.bind_assoc]
      refine (draw (show 1 ≤ n - 1 by omega) (by omega) (by omega)).bind (by omega) ?_
      rintro _ ⟨b, rfl, b0, b1⟩
      simp [PL.bind_assoc]
      refine (draw (show 1 ≤ n - 1 by omega) (by omega) (by omega)).bind (by omega) ?_
      rintro _ ⟨c, rfl, c0, c1⟩
      simp [PL.bind_assoc]
      refine (pick (show 2 ≤ n - 1 by omega) (by simp) (by simp)).mono (by omega) ?_
      intro v hv
      refine .inr (.inr (.inl ?_))
      simp at hv
      rcases hv with rfl | rfl | rfl | rfl | rfl | rfl <;> exact ⟨_, rfl, by omega, by omega⟩
    · simp [f__law_document, enter, item0, sText, PL.bind_assoc, hz3]
      refine (pick (show 2 ≤ n - 1 by omega) (by simp) (by simp)).bind (by omega) ?_
      intro a ha
      obtain ⟨s, rfl, s0, s1, s2⟩ : ∃ s : List Nat, a = .str s ∧ 1 ≤ s.length ∧ s.length ≤ 10 ∧ ∀ c ∈ s, c < 128 := by
        simp at ha
        rcases ha with rfl | rfl <;> exact ⟨_, rfl, by simp, by simp, by simp⟩
      refine (law_word (n - 1) (by omega) s0 s1 s2).mono (by omega) ?_
      rintro _ ⟨t, rfl, r⟩
      exact .inr (.inr (.inr (.inl ⟨t, rfl, r⟩)))
    · simp [f__law_document, enter, item0, sList, PL.bind_assoc]
      refine (draw (show 1 ≤ n - 1 by omega) (by omega) (by omega)).bind (by omega) ?_
      rintro _ ⟨q, rfl, q0, q1⟩
      obtain ⟨m, rfl⟩ : ∃ m : Nat, q = m := ⟨q.toNat, by omega⟩
      have hw : walk .range [.int m] = some ((List.range m).map fun (i : Nat) => IV.int i) := by
        show (if (m : Int).natAbs ≤ szl then some ((List.range (m : Int).toNat).map fun (i : Nat) => IV.int i) else none) = _
        rw [if_pos (szl_big (by omega))]
        simp
      have i1 : prM .item [.tup [.str [108, 105, 115, 116], t], .int 1] = M.pure t := p_item_tup rfl
      simp [hw, i1]
      have hd : Dr (bd d * ((List.range m).map fun (i : Nat) => IV.int i).length) (M.calm (each (fun x => (callF fs W (n - 1) 16 [.cell 0, t, .int 3]).bind fun a => M.pure [a]) ((List.range m).map fun (i : Nat) => IV.int i))) fun vs => All2 (fun _ b => Dc d b) ((List.range m).map fun (i : Nat) => IV.int i) vs := by
        refine (Dr.each fun x hx => ?_).calm
        refine (ih (n - 1) t ht (by omega)).bind (by omega) fun a ha => ?_
        exact .pure ⟨_, rfl, ha⟩
      refine (hd.mono (d := 3 * bd d) (by rw [Nat.mul_comm]; exact Nat.mul_le_mul_right _ (by simp; omega)) fun _ h => h).bind (by omega) ?_
      intro vs hvs
      have hl : vs.length ≤ 3 := by have := hvs.length; simp at this; omega
      have hz : vs.length ≤ szl := szl_big (by omega)
      simp [hz]
      exact .pure (.inr (.inr (.inr (.inr (.inl ⟨vs, rfl, hl, hvs.all fun _ _ b h => h⟩)))))
    · have i1 : prM .item [.tup [.str [114, 101, 99, 111, 114, 100], .tup (rows ps)], .int 1] = M.pure (.tup (rows ps)) := p_item_tup rfl
      have hw : walk .val [.tup (rows ps)] = some (rows ps) := rfl
      simp [f__law_document, enter, item0, PL.bind_assoc, sRecord, i1, hw]
      have hd : Dr (bd d * (rows ps).length) (M.calm (each (fun x => (M.opt (store (.many [4, 5]) x [SV.val (.cell 0), SV.val (.tup [.str [114, 101, 99, 111, 114, 100], .tup (rows ps)]), SV.val (.int 3), SV.non, SV.non, SV.non])).bind fun fr1 => (M.opt (slotV fr1 4)).bind fun a => (M.opt (slotV fr1 0)).bind fun a_1 => (M.opt (slotV fr1 5)).bind fun a_2 => (M.opt (slotV fr1 2)).bind fun a_3 => (callF fs W (n - 1) 16 [a_1, a_2, a_3]).bind fun a_4 => (M.opt (if 2 ≤ szl then some (IV.tup [a, a_4]) else none)).bind fun v => M.pure [v]) (rows ps))) fun vs => All2 (fun x b => ∀ s t, x = IV.tup [.str s, t] → Ty d t → ∃ y, b = IV.tup [.str s, y] ∧ Dc d y) (rows ps) vs := by
        refine (Dr.each fun x hx => ?_).calm
        obtain ⟨p, hpm, rfl⟩ := List.mem_map.mp hx
        simp [hz2]
        refine (ih (n - 1) p.2 (hp p hpm) (by omega)).bind (by omega) fun a ha => ?_
        exact .pure ⟨_, rfl, fun _ => ⟨a, rfl, ha⟩⟩
      have hl := nm_len hk
      refine (hd.mono (d := 3 * bd d) (by rw [Nat.mul_comm]; exact Nat.mul_le_mul_right _ (by simpa [rows] using hl)) fun _ h => h).bind (by omega) ?_
      intro vs hvs
      obtain ⟨qs, rfl, e, hq⟩ := all2_rows (R := Dc d) (Q := Ty d) hp hvs
      have hnd : (qs.map (·.1)).Nodup := by
        rw [e]
        unfold nmOk at hk
        simp only [Bool.and_eq_true, decide_eq_true_eq] at hk
        exact hk.2.1
      have hz : (rows qs).length ≤ szl := szl_big (by
        have : qs.length = ps.length := by simpa using congrArg List.length e
        simp at hl
        simp [rows]; omega)
      have hdl : prM .dictl [.lst (rows qs)] = M.pure (.dct (kv qs)) := p_dictl_kv hnd
      simp only [hz, if_true, opt_some, PL.bind_pure, hdl]
      exact .pure (.inr (.inr (.inr (.inr (.inr ⟨qs, rfl, by rw [e]; exact hk, hq⟩)))))
end
end K1

set_option Elab.async false
set_option linter.all false
set_option maxRecDepth 100000
set_option maxHeartbeats 4000000
/-! K01P9: what is so of drawn documents; documents bent. -/
namespace K1
open PI PL Kf
theorem nm_k {ps : List (List Nat × IV)} (h : nmOk (ps.map (·.1)) = true) : KOk ps ∧ ps.length ≤ 3 ∧ ∀ p ∈ ps, nameB (.str p.1) = true := by
  unfold nmOk at h
  simp only [Bool.and_eq_true, decide_eq_true_eq, List.all_eq_true, List.length_map] at h
  obtain ⟨h1, h2, h3, h4⟩ := h
  have h5 : ∀ p ∈ ps, nameB (.str p.1) = true := fun p hp => h3 _ (List.mem_map_of_mem hp)
  refine ⟨⟨h1, h2, by omega, fun p hp => ?_⟩, h4, h5⟩
  have := h5 p hp
  simp only [nameB, Bool.and_eq_true, decide_eq_true_eq] at this
  omega
theorem Dc.cl {w l : Bool} : ∀ {d : Nat} {x : IV}, Dc d x → Cl w l d x
  | 0, _, h => h.elim
  | d + 1, x, h => by
    rcases h with rfl | ⟨b, rfl⟩ | ⟨i, rfl, _⟩ | ⟨s, rfl, hs, _⟩ | ⟨xs, rfl, hl, hx⟩ | ⟨ps, rfl, hk, hx⟩
    · trivial
    · trivial
    · trivial
    · show s.length ≤ 3000
      omega
    · exact ⟨by omega, fun y hy => (hx y hy).cl⟩
    · exact .inl ⟨ps, rfl, (nm_k hk).1, fun p hp => (hx p hp).cl⟩
theorem Dc.up : ∀ {d : Nat} {x : IV}, Dc d x → Dc (d + 1) x
  | 0, _, h => h.elim
  | d + 1, x, h => by
    rcases h with h | h | h | h | ⟨xs, e, hl, hx⟩ | ⟨ps, e, hk, hx⟩
    · exact .inl h
    · exact .inr (.inl h)
    · exact .inr (.inr (.inl h))
    · exact .inr (.inr (.inr (.inl h)))
    · exact .inr (.inr (.inr (.inr (.inl ⟨xs, e, hl, fun y hy => (hx y hy).up⟩))))
    · exact .inr (.inr (.inr (.inr (.inr ⟨ps, e, hk, fun p hp => (hx p hp).up⟩))))
theorem kv_names {ps : List (List Nat × IV)} (h : ∀ p ∈ ps, nameB (.str p.1) = true) : ((kv ps).map fun p => kyV p.1).all nameB = true := by
  simp only [List.all_eq_true, List.mem_map]
  rintro x ⟨q, hq, rfl⟩
  obtain ⟨p, hp, rfl⟩ := List.mem_map.mp hq
  exact h p hp
theorem sort_rec {ps : List (List Nat × IV)} (h : ∀ p ∈ ps, nameB (.str p.1) = true) : sortM (.dct (kv ps)) = sRecord := by
  simp only [sortM]
  rw [if_pos (kv_names h)]
/-- the sort that the program tells is the law's -/
theorem Dc.sort : ∀ {d : Nat} {x : IV}, Dc d x → sortM x = sortL x ∧ isNon (sortM x) = false
  | 0, _, h => h.elim
  | d + 1, x, h => by
    rcases h with rfl | ⟨b, rfl⟩ | ⟨i, rfl, h1, h2⟩ | ⟨s, rfl, hs, _⟩ | ⟨xs, rfl, hl, hx⟩ | ⟨ps, rfl, hk, hx⟩
    · exact ⟨rfl, rfl⟩
    · exact ⟨rfl, rfl⟩
    · have e : sortM (.int i) = sNumber := by
        simp only [sortM]
        rw [if_pos]
        unfold bound
        split <;> omega
      exact ⟨e, by rw [e]; rfl⟩
    · have e : sortM (.str s) = sText := by
        simp only [sortM]
        rw [if_pos (by omega)]
      exact ⟨e, by rw [e]; rfl⟩
    · exact ⟨rfl, rfl⟩
    · have e := sort_rec (nm_k hk).2.2
      exact ⟨e, by rw [e]; rfl⟩
def ndB : Nat → Nat
  | 0 => 1
  | d + 1 => 1 + 3 * ndB d
theorem sum_le {α : Type} {f : α → Nat} {b : Nat} : ∀ (l : List α), (∀ x ∈ l, f x ≤ b) → (l.map f).sum ≤ l.length * b
  | [], _ => by simp
  | x :: r, h => by
    have h1 := h x (by simp)
    have h2 := sum_le r fun y hy => h y (List.mem_cons_of_mem _ hy)
    simp only [List.map_cons, List.sum_cons, List.length_cons, Nat.add_mul]
    omega
theorem Dc.nodes : ∀ {d : Nat} {x : IV}, Dc d x → nd d x ≤ ndB d
  | 0, _, h => h.elim
  | d + 1, x, h => by
    have leaf : kids x = [] → nd (d + 1) x ≤ ndB (d + 1) := fun e => by simp [nd, e, ndB]
    rcases h with rfl | ⟨b, rfl⟩ | ⟨i, rfl, _⟩ | ⟨s, rfl, hs, _⟩ | ⟨xs, rfl, hl, hx⟩ | ⟨ps, rfl, hk, hx⟩
    · exact leaf rfl
    · exact leaf rfl
    · exact leaf rfl
    · exact leaf rfl
    · have h1 := sum_le (f := nd d) (b := ndB d) xs fun y hy => (hx y hy).nodes
      have h2 : xs.length * ndB d ≤ 3 * ndB d := Nat.mul_le_mul_right _ hl
      simp only [nd, kids, ndB]
      omega
    · have hl := (nm_k hk).2.1
      have e : (kids (.dct (kv ps))).map (nd d) = ps.map fun p => nd d p.2 := by simp [kids, kv, Function.comp_def]
      have h1 := sum_le (f := fun p : List Nat × IV => nd d p.2) (b := ndB d) ps fun p hp => (hx p hp).nodes
      have h2 : ps.length * ndB d ≤ 3 * ndB d := Nat.mul_le_mul_right _ hl
      simp only [nd, ndB]
      rw [e]
      omega
theorem Dc.fine : ∀ {d : Nat} {x : IV} {l : Nat}, Dc d x → l + d ≤ 13 → fine d x l = true
  | 0, _, _, h, _ => h.elim
  | d + 1, x, l, h, hl => by
    have hs := h.sort.2
    simp only [K1.fine, hs, Bool.not_false, Bool.true_and, Bool.and_eq_true, decide_eq_true_eq, List.all_eq_true]
    refine ⟨by omega, fun c hc => ?_⟩
    rcases h with rfl | ⟨b, rfl⟩ | ⟨i, rfl, _⟩ | ⟨s, rfl, hs, _⟩ | ⟨xs, rfl, hl, hx⟩ | ⟨ps, rfl, hk, hx⟩
    · simp [kids] at hc
    · simp [kids] at hc
    · simp [kids] at hc
    · simp [kids] at hc
    · exact (hx c hc).fine (by omega)
    · obtain ⟨q, hq, rfl⟩ := List.mem_map.mp hc
      obtain ⟨p, hp, rfl⟩ := List.mem_map.mp hq
      exact (hx p hp).fine (by omega)
/-- the same of lists for tuples -/
theorem Dc.listed : ∀ {d : Nat} {x : IV}, Dc d x → nd d (mp .lst d x) = nd d x ∧ (∀ l, K1.fine d (mp .lst d x) l = K1.fine d x l) ∧ sortM (mp .lst d x) = sortM x
  | 0, _, h => h.elim
  | d + 1, x, h => by
    rcases h with rfl | ⟨b, rfl⟩ | ⟨i, rfl, _⟩ | ⟨s, rfl, hs, _⟩ | ⟨xs, rfl, hl, hx⟩ | ⟨ps, rfl, hk, hx⟩
    · exact ⟨rfl, fun _ => rfl, rfl⟩
    · exact ⟨rfl, fun _ => rfl, rfl⟩
    · exact ⟨rfl, fun _ => rfl, rfl⟩
    · exact ⟨rfl, fun _ => rfl, rfl⟩
    · refine ⟨?_, fun l => ?_, rfl⟩
      · show 1 + ((xs.map (mp .lst d)).map (nd d)).sum = 1 + (xs.map (nd d)).sum
        rw [List.map_map, List.map_congr_left (f := nd d ∘ mp .lst d) (g := nd d) fun y hy => (hx y hy).listed.1]
      · show (!isNon sList && (decide (l ≤ 12) && (xs.map (mp .lst d)).all fun c => K1.fine d c (l + 1))) = (!isNon sList && (decide (l ≤ 12) && xs.all fun c => K1.fine d c (l + 1)))
        congr 2
        rw [List.all_map]
        apply Bool.eq_iff_iff.mpr
        simp only [List.all_eq_true, Function.comp]
        exact forall_congr' fun y => forall_congr' fun hy => by rw [(hx y hy).listed.2.1]
    · have hkm : ∀ p ∈ mpp .lst d ps, nameB (.str p.1) = true := fun p hp => by
        obtain ⟨q, hq, rfl⟩ := List.mem_map.mp hp
        exact (nm_k hk).2.2 q hq
      have e1 : sortM (mp .lst (d + 1) (.dct (kv ps))) = sRecord := by rw [mp_kv]; exact sort_rec hkm
      have e2 := sort_rec (nm_k hk).2.2
      have ek : kids (mp .lst (d + 1) (.dct (kv ps))) = ps.map fun p => mp .lst d p.2 := by rw [mp_kv]; simp [kids, kv, mpp, Function.comp_def]
      have ek2 : kids (.dct (kv ps)) = ps.map fun p => p.2 := by simp [kids, kv, Function.comp_def]
      refine ⟨?_, fun l => ?_, by rw [e1, e2]⟩
      · simp only [nd]
        rw [ek, ek2, List.map_map, List.map_map, List.map_congr_left (f := nd d ∘ fun p : List Nat × IV => mp .lst d p.2) (g := nd d ∘ fun p : List Nat × IV => p.2) fun p hp => (hx p hp).listed.1]
      · simp only [K1.fine]
        rw [e1, e2, ek, ek2]
        congr 2
        rw [List.all_map, List.all_map]
        apply Bool.eq_iff_iff.mpr
        simp only [List.all_eq_true, Function.comp]
        exact forall_congr' fun y => forall_congr' fun hy => by rw [(hx y hy).listed.2.1]
end K1

set_option Elab.async false
set_option linter.all false
set_option maxRecDepth 100000
set_option maxHeartbeats 4000000
/-! K01P10: documents bent. -/
namespace K1
open PI PL Kf
def putP (k : List Nat) (v : IV) (ps : List (List Nat × IV)) : List (List Nat × IV) := ps.map fun q => if q.1 = k then (q.1, v) else q
theorem putP_keys (k : List Nat) (v : IV) (ps : List (List Nat × IV)) : (putP k v ps).map (·.1) = ps.map (·.1) := by
  unfold putP
  rw [List.map_map]
  refine List.map_congr_left fun q _ => ?_
  simp only [Function.comp]
  split <;> rfl
theorem dput_old : ∀ {ps : List (List Nat × IV)} {k : List Nat} {v : IV}, k ∈ ps.map (·.1) → (ps.map (·.1)).Nodup → dput (.str k) v (kv ps) = kv (putP k v ps)
  | q :: r, k, v, h, nd => by
    have nd2 := List.nodup_cons.mp nd
    show (if Ky.beq (.str k) (.str q.1) then (Ky.str q.1, v) :: kv r else (Ky.str q.1, q.2) :: dput (.str k) v (kv r)) = _
    rw [kyb_str]
    by_cases e : k = q.1
    · subst e
      have hr : putP q.1 v r = r := by
        unfold putP
        conv => rhs; rw [← List.map_id r]
        refine List.map_congr_left fun z hz => ?_
        have : z.1 ≠ q.1 := fun w => nd2.1 (by show q.1 ∈ _; rw [← w]; exact List.mem_map_of_mem hz)
        simp [this]
      simp [putP, kv]
      have : kv (putP q.1 v r) = kv r := by rw [hr]
      simpa [putP, kv] using this.symm
    · have h2 : k ∈ r.map (·.1) := by
        rcases List.mem_cons.mp h with w | w
        · exact absurd w e
        · exact w
      simp only [e, decide_false]
      rw [if_neg (by simp), dput_old h2 nd2.2]
      have : ¬ q.1 = k := fun w => e w.symm
      simp [putP, kv, this]
theorem dputs_snoc {ps : List (List Nat × IV)} {k : List Nat} {v : IV} (h : k ∈ ps.map (·.1)) (nd : (ps.map (·.1)).Nodup) : dputs (kv ps ++ [(.str k, v)]) [] = kv (putP k v ps) := by
  have e : dputs (kv ps ++ [(.str k, v)]) [] = dput (.str k) v (dputs (kv ps) []) := by simp [dputs]
  rw [e, dputs_kv nd, dput_old h nd]
theorem pairs_app : ∀ {a b : List IV} {l r : List (Ky × IV)}, pairsOf a = some l → pairsOf b = some r → pairsOf (a ++ b) = some (l ++ r)
  | [], b, l, r, h1, h2 => by cases h1; exact h2
  | x :: a, b, l, r, h1, h2 => by
    have h1 : (pairOf x).bind (fun p => (pairsOf a).map fun l => p :: l) = some l := h1
    obtain ⟨p, e1, e2⟩ := Option.bind_eq_some_iff.mp h1
    obtain ⟨l2, e3, rfl⟩ := Option.map_eq_some_iff.mp e2
    show (pairOf x).bind (fun p => (pairsOf (a ++ b)).map fun l => p :: l) = _
    rw [e1, pairs_app e3 h2]
    rfl
theorem sIx_some {n d i : Nat} : sIx n d (some (i : Int)) = min i n := by
  unfold sIx
  simp only
  rw [if_neg (by omega)]
  simp
theorem cut_lo {xs : List IV} {i : Nat} (h : i ≤ xs.length) : prM (.cut true false) [.tup xs, .int i] = M.pure (.tup (xs.drop i)) := by
  funext c
  show M.opt (some (IV.tup (cutL xs (some (i : Int)) none))) c = _
  have : cutL xs (some (i : Int)) none = xs.drop i := by
    unfold cutL
    rw [sIx_some, Nat.min_eq_left h]
    exact List.take_of_length_le (by simp [sIx])
  rw [this]
  rfl
theorem cut_hi {xs : List IV} {i : Nat} (h : i ≤ xs.length) : prM (.cut false true) [.tup xs, .int i] = M.pure (.tup (xs.take i)) := by
  funext c
  show M.opt (some (IV.tup (cutL xs none (some (i : Int))))) c = _
  have : cutL xs none (some (i : Int)) = xs.take i := by
    unfold cutL
    rw [sIx_some, Nat.min_eq_left h]
    simp [sIx]
  rw [this]
  rfl
section
variable {W : Nat}
/-- what comes of a bent document -/
def BP (w l : Bool) (d : Nat) (odd r : IV) : Prop := Cl w l (d + 2) r ∧ (isNon (sortM odd) = true → ∀ lv, fine (d + 2) r lv = false)
theorem bp_odd {w l : Bool} {d : Nat} {odd : IV} (h : Cl w l 2 odd) : BP w l d odd odd := ⟨h.le (by omega), fun hs lv => by
  show (!isNon (sortM odd) && _) = false
  rw [hs]
  rfl⟩
theorem law_bent {w l : Bool} {odd : IV} (ho : Cl w l 2 odd) : ∀ (d n : Nat) (x : IV), Dc d x → d + 4 ≤ n → Dr (2 * d) (callF fs W n 21 [.cell 0, x, odd]) fun r => BP w l d odd r := by
  intro d
  induction d with
  | zero => intro n x h; exact h.elim
  | succ d ih =>
    intro n x h hn
    rw [op (d := f__law_bent) rfl rfl (by omega)]
    have hc : Cl false false (d + 1) x := h.cl
    have i9 : prM (.isi [.list, .tuple]) [x] = M.pure (.bl (isT x .list || isT x .tuple)) := by rw [p_isi hc.own]; simp
    have i8 := i0 hc.own .dict
    have hb : 2 * (d + 1) = 2 * d + 2 := by omega
    have leaf : isT x .dict = false → isT x .list = false → isT x .tuple = false → Dr (2 * (d + 1)) ((xss (callF fs W (n - 1)) W f__law_bent.body (enter f__law_bent [.cell 0, x, odd])).bind finF) fun r => BP w l (d + 1) odd r := fun h1 h2 h3 => by
      simp [f__law_bent, enter, i8, i9, h1, h2, h3]
      exact .pure (bp_odd ho)
    rcases h with rfl | ⟨b, rfl⟩ | ⟨i, rfl, h1, h2⟩ | ⟨s, rfl, hs, _⟩ | ⟨xs, rfl, hl, hx⟩ | ⟨ps, rfl, hk, hx⟩
    · exact leaf rfl rfl rfl
    · exact leaf rfl rfl rfl
    · exact leaf rfl rfl rfl
    · exact leaf rfl rfl rfl
    · have hne : ((0 : Int) < xs.length) ↔ xs ≠ [] := by
        cases xs <;> simp
      by_cases c0 : xs = []
      · subst c0
        simp [f__law_bent, enter, i8, i9, isT]
        exact .pure (bp_odd ho)
      have hp := hne.mpr c0
      have hpn : 0 < xs.length := by omega
      simp [f__law_bent, enter, i8, i9, isT, hpn, c0, PL.bind_assoc, test_bind]
      refine (draw (show 1 ≤ n - 1 by omega) (by omega) (by omega)).bind (by omega) ?_
      rintro _ ⟨q, rfl, q0, q1⟩
      by_cases c1 : 0 < q
      · simp [c1, PL.bind_assoc]
        refine (draw (show 1 ≤ n - 1 by omega) (show (1 : Int) ≤ xs.length by omega) (by omega)).bind (by omega) ?_
        rintro _ ⟨a, rfl, a0, a1⟩
        obtain ⟨v, hv, hv2, hat⟩ := at_int a0 a1
        obtain ⟨m, rfl⟩ : ∃ m : Nat, a = m := ⟨a.toNat, by omega⟩
        have hm : m < xs.length := by omega
        have hcut := cut_hi (xs := xs) (i := m) (by omega)
        have hcut2 : prM (.cut true false) [.tup xs, .int ((m : Int) + 1)] = M.pure (.tup (xs.drop (m + 1))) := by
          have := cut_lo (xs := xs) (i := m + 1) (by omega)
          rw [← this]
          rfl
        have hz1 : (1 : Nat) ≤ szl := by decide
        simp [hcut, hcut2, p_item_tup hat, PL.bind_assoc, hz1]
        refine (ih (n - 1) v (hx v hv) (by omega)).bind (by omega) ?_
        intro r hr
        have z1 : prM .add [.tup (xs.take m), .tup [r]] = M.pure (.tup (xs.take m ++ [r])) := p_add_tup (szl_big (by simp; omega))
        have z2 : prM .add [.tup (xs.take m ++ [r]), .tup (xs.drop (m + 1))] = M.pure (.tup (xs.take m ++ [r] ++ xs.drop (m + 1))) := p_add_tup (szl_big (by simp; omega))
        rw [z1]
        simp only [PL.bind_pure]
        rw [z2]
        refine .pure ⟨⟨by simp; omega, fun y hy => ?_⟩, fun hs lv => ?_⟩
        · have hy2 : y ∈ xs ∨ y = r := by
            simp only [List.append_assoc, List.mem_append, List.mem_cons, List.not_mem_nil, or_false] at hy
            rcases hy with hy | hy | hy
            · exact .inl (List.mem_of_mem_take hy)
            · exact .inr hy
            · exact .inl (List.mem_of_mem_drop hy)
          rcases hy2 with hy2 | rfl
          · exact (hx y hy2).cl.le (by omega)
          · exact hr.1
        · show (_ && (_ && (xs.take m ++ [r] ++ xs.drop (m + 1)).all fun c => fine (d + 2) c (lv + 1))) = false
          have : (xs.take m ++ [r] ++ xs.drop (m + 1)).all (fun c => fine (d + 2) c (lv + 1)) = false := by
            rw [List.all_eq_false]
            exact ⟨r, by simp, by rw [hr.2 hs]; simp⟩
          rw [this]
          simp
      · simp [c1]
        exact .pure (bp_odd ho)
    · obtain ⟨ko, kl, kn⟩ := nm_k hk
      by_cases c0 : ps = []
      · subst c0
        have hz0 : prM .ne [.dct (kv []), .dct []] = M.pure (.bl false) := by
          rw [p_ne_dct0]; rfl
        simp [f__law_bent, enter, i8, i9, isT, dputs, kv]
        exact .pure (bp_odd ho)
      have hkv : kv ps ≠ [] := fun z => c0 (by simpa [kv] using z)
      simp [f__law_bent, enter, i8, i9, isT, PL.bind_assoc, test_bind, dputs, hkv]
      refine (draw (show 1 ≤ n - 1 by omega) (by omega) (by omega)).bind (by omega) ?_
      rintro _ ⟨q, rfl, q0, q1⟩
      by_cases c1 : 0 < q
      · simp [c1, PL.bind_assoc, p_sorted_kv ko]
        have hpl : 0 < ps.length := List.length_pos_iff.mpr c0
        refine (pick (show 2 ≤ n - 1 by omega) (by simp; omega) (by simp; omega)).bind (by omega) ?_
        intro a ha
        obtain ⟨p, hpm, rfl⟩ := List.mem_map.mp ha
        have hz1 : (1 : Nat) ≤ szl := by decide
        have hz2 : (2 : Nat) ≤ szl := by decide
        simp [p_ditems_kv, p_item_dct (dget_kv ko.nd hpm), PL.bind_assoc, hz1, hz2]
        refine (ih (n - 1) p.2 (hx p hpm) (by omega)).bind (by omega) ?_
        intro r hr
        have z1 : prM .add [.lst (ps.map fun p => IV.tup [.str p.1, p.2]), .lst [.tup [.str p.1, r]]] = M.pure (.lst ((ps.map fun p => IV.tup [.str p.1, p.2]) ++ [.tup [.str p.1, r]])) := p_add_lst (szl_big (by simp; omega))
        rw [z1]
        simp only [PL.bind_pure]
        have z2 : prM .dictl [.lst ((ps.map fun p => IV.tup [.str p.1, p.2]) ++ [.tup [.str p.1, r]])] = M.pure (.dct (kv (putP p.1 r ps))) := by
          funext c
          show M.opt ((pairsOf ((ps.map fun p => IV.tup [.str p.1, p.2]) ++ [.tup [.str p.1, r]])).map fun ps => IV.dct (dputs ps [])) c = _
          rw [pairs_app (r := [(.str p.1, r)]) pairs_kv rfl]
          show M.opt (some (IV.dct (dputs (kv ps ++ [(.str p.1, r)]) []))) c = _
          rw [dputs_snoc (List.mem_map_of_mem hpm) ko.nd]
          rfl
        rw [z2]
        have hmem : ∀ z ∈ putP p.1 r ps, z.2 = r ∨ z ∈ ps := fun z hz => by
          obtain ⟨y, hy, rfl⟩ := List.mem_map.mp hz
          by_cases e : y.1 = p.1
          · left; simp [e]
          · right; simpa [e] using hy
        have hin : r ∈ (putP p.1 r ps).map (·.2) := by
          refine List.mem_map.mpr ⟨(p.1, r), List.mem_map.mpr ⟨p, hpm, by simp⟩, rfl⟩
        refine .pure ⟨.inl ⟨_, rfl, ⟨by rw [putP_keys]; exact ko.asc, by rw [putP_keys]; exact ko.nd, by simp [putP]; omega, fun z hz => ?_⟩, fun z hz => ?_⟩, fun hs lv => ?_⟩
        · have : z.1 ∈ ps.map (·.1) := by rw [← putP_keys p.1 r ps]; exact List.mem_map_of_mem hz
          obtain ⟨y, hy, e⟩ := List.mem_map.mp this
          rw [← e]
          exact ko.short y hy
        · rcases hmem z hz with e | e
          · rw [e]; exact hr.1
          · exact (hx z e).cl.le (by omega)
        · have ek : kids (.dct (kv (putP p.1 r ps))) = (putP p.1 r ps).map (·.2) := by simp [kids, kv, Function.comp_def]
          show (_ && (_ && (kids (.dct (kv (putP p.1 r ps)))).all fun c => fine (d + 2) c (lv + 1))) = false
          have : (kids (.dct (kv (putP p.1 r ps)))).all (fun c => fine (d + 2) c (lv + 1)) = false := by
            rw [List.all_eq_false]
            exact ⟨r, by rw [ek]; exact hin, by rw [hr.2 hs]; simp⟩
          rw [this]
          simp
      · simp [c1]
        exact .pure (bp_odd ho)
end
end K1

set_option Elab.async false
set_option linter.all false
set_option maxRecDepth 100000
set_option maxHeartbeats 4000000
/-! K01P11: how documents are shown. -/
namespace K1
open PI PL Kf PySem
def wB : Nat → Nat
  | 0 => 64
  | d + 1 => 100 + 4 * wB d
structure Sh (k : Nat) (p : PyData) : Prop where
  s : p.showable = true
  d : p.depth ≤ k
  l : p.leavesShort 13 = true
  w : p.weight ≤ wB k
theorem int_sh {i : Int} (h1 : -1000000000 ≤ i) (h2 : i ≤ 1000000000) (d : Nat) : Sh (d + 1) (.int i) := by
  have hn : i.natAbs < 2 ^ 40 := by omega
  have hl : i.natAbs.log2 < 40 := by
    by_cases h0 : i.natAbs = 0
    · rw [h0]; decide
    · exact (Nat.log2_lt h0).mpr hn
  refine ⟨?_, by simp [PyData.depth], ?_, ?_⟩
  · simp only [PyData.showable, decide_eq_true_eq]
    omega
  · simp only [PyData.leavesShort, decide_eq_true_eq]
    exact PyData.shown_int_le (by omega)
  · have : 100 ≤ wB (d + 1) := by simp [wB]
    simp only [PyData.weight]
    split <;> omega
theorem str_sh {s : List Nat} (h : s.length ≤ 8) (hc : ∀ c ∈ s, c < 128) (d : Nat) : Sh (d + 1) (.str (tx s)) := by
  refine ⟨by simp [PyData.showable], by simp [PyData.depth], ?_, ?_⟩
  · simp only [PyData.leavesShort, List.all_eq_true, decide_eq_true_eq, tx]
    intro c hcm
    have := hc c (by simpa using hcm)
    omega
  · have : 100 ≤ wB (d + 1) := by simp [wB]
    simp [PyData.weight, tx]
    omega
theorem all_sh {d : Nat} : ∀ {xs : List IV}, (∀ x ∈ xs, ∃ p, toP x = some p ∧ Sh d p) → ∃ ds, toPs xs = some ds ∧ PyData.showableAll ds = true ∧ PyData.depthAll ds ≤ d ∧ PyData.leavesShortAll 13 ds = true ∧ PyData.weightAll ds ≤ xs.length * (wB d + 1)
  | [], _ => ⟨[], by simp [toPs], by simp [PyData.showableAll], by simp [PyData.depthAll], by simp [PyData.leavesShortAll], by simp [PyData.weightAll]⟩
  | x :: r, h => by
    obtain ⟨p, e, q⟩ := h x (by simp)
    obtain ⟨ds, e2, a, b, c, w⟩ := all_sh fun y hy => h y (List.mem_cons_of_mem _ hy)
    refine ⟨p :: ds, by simp [toPs, e, e2], by simp [PyData.showableAll, q.s, a], by have := q.d; simp [PyData.depthAll]; omega, by simp [PyData.leavesShortAll, q.l, c], ?_⟩
    have := q.w
    simp only [PyData.weightAll, List.length_cons, Nat.add_mul, Nat.one_mul]
    omega
theorem kv_sh {d : Nat} : ∀ {ps : List (List Nat × IV)}, (∀ p ∈ ps, nameB (.str p.1) = true ∧ ∃ q, toP p.2 = some q ∧ Sh d q) → ∃ ds, toKs (kv ps) = some ds ∧ PyData.showableKv ds = true ∧ PyData.depthKv ds ≤ d ∧ PyData.leavesShortKv 13 ds = true ∧ PyData.weightKv ds ≤ ps.length * (wB d + 20)
  | [], _ => ⟨[], by simp [toKs, kv], by simp [PyData.showableKv], by simp [PyData.depthKv], by simp [PyData.leavesShortKv], by simp [PyData.weightKv]⟩
  | p :: r, h => by
    obtain ⟨hn, q, e, sh⟩ := h p (by simp)
    obtain ⟨ds, e2, a, b, c, w⟩ := kv_sh fun y hy => h y (List.mem_cons_of_mem _ hy)
    simp only [nameB, Bool.and_eq_true, decide_eq_true_eq, List.all_eq_true] at hn
    have hs : Sh 1 (.str (tx p.1)) := str_sh (d := 0) hn.2.1 (fun c hc => by
      have := hn.2.2 c hc
      simp [letters] at this
      omega)
    have e3 : kv (p :: r) = (.str p.1, p.2) :: kv r := rfl
    refine ⟨(.str (tx p.1), q) :: ds, by rw [e3]; simp [toKs, toK, kyP, e, e2], by simp [PyData.showableKv, sh.s, a, PyData.showable], ?_, by simp [PyData.leavesShortKv, sh.l, c, hs.l], ?_⟩
    · have := sh.d
      simp [PyData.depthKv, PyData.depth]
      omega
    · have := sh.w
      have hw : (PyData.str (tx p.1)).weight = p.1.length := by simp [PyData.weight, tx]
      simp only [PyData.weightKv, List.length_cons, Nat.add_mul, Nat.one_mul, hw]
      omega
theorem Dc.sh : ∀ {d : Nat} {x : IV}, Dc d x → ∃ p, toP x = some p ∧ Sh d p
  | 0, _, h => h.elim
  | d + 1, x, h => by
    have hb : 100 ≤ wB (d + 1) := by simp [wB]
    rcases h with rfl | ⟨b, rfl⟩ | ⟨i, rfl, h1, h2⟩ | ⟨s, rfl, hs, hc⟩ | ⟨xs, rfl, hl, hx⟩ | ⟨ps, rfl, hk, hx⟩
    · exact ⟨.none, by simp [toP], by simp [PyData.showable], by simp [PyData.depth], by simp [PyData.leavesShort], by simp [PyData.weight]⟩
    · exact ⟨.bool b, by simp [toP], by simp [PyData.showable], by simp [PyData.depth], by simp [PyData.leavesShort], by simp [PyData.weight]⟩
    · exact ⟨.int i, by simp [toP], int_sh h1 h2 d⟩
    · exact ⟨.str (tx s), by simp [toP], str_sh (by omega) hc d⟩
    · obtain ⟨ds, e, a, b, c, w⟩ := all_sh fun y hy => (hx y hy).sh
      refine ⟨.tuple ds, by simp [toP, e], by simpa [PyData.showable] using a, by simp [PyData.depth]; omega, by simpa [PyData.leavesShort] using c, ?_⟩
      have : xs.length * (wB d + 1) ≤ 3 * (wB d + 1) := Nat.mul_le_mul_right _ hl
      simp only [PyData.weight, wB]
      omega
    · obtain ⟨ko, kl, kn⟩ := nm_k hk
      obtain ⟨ds, e, a, b, c, w⟩ := kv_sh fun p hp => ⟨kn p hp, (hx p hp).sh⟩
      refine ⟨.dict ds, by simp [toP, e], by simpa [PyData.showable] using a, by simp [PyData.depth]; omega, by simpa [PyData.leavesShort] using c, ?_⟩
      have : ps.length * (wB d + 20) ≤ 3 * (wB d + 20) := Nat.mul_le_mul_right _ kl
      simp only [PyData.weight, wB]
      omega
theorem wB6 : wB 6 ≤ 1000000 := by decide
theorem Sh.up {d e : Nat} {p : PyData} (h : Sh d p) (hd : d ≤ e) : Sh e p := by
  induction hd with
  | refl => exact h
  | step _ ih => exact ⟨ih.s, Nat.le_succ_of_le ih.d, ih.l, Nat.le_trans ih.w (by simp only [wB]; omega)⟩
theorem repr_doc {d : Nat} {x : IV} (h : Dc d x) (hd : d ≤ 6) : ∃ s, prM .repr [x] = M.pure (.str s) := by
  obtain ⟨p, e, q⟩ := h.sh
  have q6 := q.up hd
  have hf : p.shown.length ≤ sizeLine := PyData.shown_fits (B := 13) (by omega) (by omega) q6.l (Nat.le_trans q6.w (Nat.le_trans wB6 (show (1000000 : Nat) ≤ 2 ^ 20 by decide)))
  have hnl : ∀ xs, x ≠ .lst xs := fun xs z => by
    subst z
    have := kd_cl (h.cl (w := false) (l := false))
    simp [kd] at this
  refine ⟨p.shown.cps.toList, ?_⟩
  funext c
  show M.opt (vRepr x) c = _
  have e2 : vRepr x = (toP x).bind fun d => if d.showable = true ∧ d.depth ≤ 50 ∧ d.shown.length ≤ sizeLine then some (txV d.shown) else none := by
    unfold vRepr
    split
    · exact absurd rfl (hnl _)
    · rfl
  rw [e2, e]
  show M.opt (if p.showable = true ∧ p.depth ≤ 50 ∧ p.shown.length ≤ sizeLine then some (txV p.shown) else none) c = _
  rw [if_pos ⟨q6.s, by have := q6.d; omega, hf⟩]
  rfl
theorem repr_list {d : Nat} {xs : List IV} (h : ∀ x ∈ xs, Dc d x) (hd : d ≤ 5) (hl : xs.length ≤ 3) : ∃ s, prM .repr [.lst xs] = M.pure (.str s) := by
  obtain ⟨ds, e, a, b, c, w⟩ := all_sh (d := 5) fun x hx => by
    obtain ⟨p, e, q⟩ := (h x hx).sh
    exact ⟨p, e, q.up hd⟩
  have hw : xs.length * (wB 5 + 1) ≤ 3 * (wB 5 + 1) := Nat.mul_le_mul_right _ hl
  have h5 : 3 * (wB 5 + 1) ≤ 2 ^ 20 := by decide
  have hf : (PyData.list ds).shown.length ≤ sizeLine := PyData.shown_fits (B := 13) (by omega) (by omega) (by simpa [PyData.leavesShort] using c) (by simp only [PyData.weight]; omega)
  refine ⟨(listText (PyData.shownAll ds)).cps.toList, ?_⟩
  funext cc
  show M.opt ((toPs xs).bind fun ds => if PyData.showableAll ds = true ∧ PyData.depthAll ds ≤ 50 ∧ (listText (PyData.shownAll ds)).length ≤ sizeLine then some (txV (listText (PyData.shownAll ds))) else none) cc = _
  rw [e]
  show M.opt (if PyData.showableAll ds = true ∧ PyData.depthAll ds ≤ 50 ∧ (listText (PyData.shownAll ds)).length ≤ sizeLine then some (txV (listText (PyData.shownAll ds))) else none) cc = _
  rw [if_pos ⟨a, by omega, by simpa [PyData.shown] using hf⟩]
  rfl
end K1

set_option Elab.async false
set_option linter.all false
set_option maxRecDepth 100000
set_option maxHeartbeats 4000000
/-! K01P12: odd values, values at their bounds. -/
namespace K1
open PI PL Kf
theorem flat_rep {α : Type} (a : α) : ∀ k : Nat, (List.replicate k [a]).flatten = List.replicate k a
  | 0 => rfl
  | k + 1 => by rw [List.replicate_succ, List.flatten_cons, flat_rep a k]; rfl
theorem p_mul_lst {a : IV} {k : Nat} (h : k ≤ 3000) : prM .mul [.lst [a], .int k] = M.pure (.lst (List.replicate k a)) := by
  funext c
  show M.opt (if [a].length * (k : Int).toNat ≤ szl ∧ (k : Int).natAbs < 2 ^ 62 then some (IV.lst (List.replicate (k : Int).toNat [a]).flatten) else none) c = _
  rw [if_pos ⟨szl_big (by simp; omega), by omega⟩, flat_rep]
  simp
theorem p_mul_str {a : Nat} {k : Nat} (h : k ≤ 3000) : prM .mul [.str [a], .int k] = M.pure (.str (List.replicate k a)) := by
  funext c
  show M.opt (if [a].length * (k : Int).toNat ≤ szl ∧ (k : Int).natAbs < 2 ^ 62 then some (IV.str (List.replicate (k : Int).toNat [a]).flatten) else none) c = _
  rw [if_pos ⟨szl_big (by simp; omega), by omega⟩, flat_rep]
  simp
theorem pow60 : prM .pow [.int 10, .int 60] = M.pure (.int bound) := by
  rw [p_pow (by omega) (by omega) (by omega)]
  rfl
def s2001 : IV := .str (List.replicate 2001 120)
def oddL : List IV := [.dct [(.str [65], .int 1)], .dct [(.int 1, .int 2)], .dct [(.str [], .int 1)], .dct [(.str [97, 98, 99, 100, 101, 102, 103, 104, 105], .int 1)], .odd 0, .int bound, .int (-bound), .str (List.replicate 2001 120), .dct [(.str [97, 49], .int 1)], .odd 1]
theorem one_k (s : List Nat) (v : IV) (h : s.length ≤ 100) : KOk [(s, v)] := ⟨rfl, by simp, by simp, by simpa using h⟩
theorem odd_ok : ∀ v ∈ oddL, Cl true true 2 v ∧ sortM v = .non := by
  intro v hv
  have one : ∀ s : List Nat, s.length ≤ 100 → Cl true true 2 (.dct [(.str s, .int 1)]) := fun s h => .inl ⟨[(s, .int 1)], rfl, one_k s _ h, by simp [Cl]⟩
  simp only [oddL, List.mem_cons, List.not_mem_nil, or_false] at hv
  rcases hv with rfl | rfl | rfl | rfl | rfl | rfl | rfl | rfl | rfl | rfl
  · exact ⟨one _ (by simp), by rfl⟩
  · exact ⟨.inr ⟨rfl, _, _, rfl⟩, by rfl⟩
  · exact ⟨one _ (by simp), by rfl⟩
  · exact ⟨one _ (by simp), by rfl⟩
  · exact ⟨rfl, rfl⟩
  · exact ⟨trivial, by simp [sortM, bound]⟩
  · exact ⟨trivial, by simp [sortM, bound]⟩
  · refine ⟨by simp [Cl], ?_⟩
    simp only [sortM, List.length_replicate]
    rfl
  · exact ⟨one _ (by simp), by rfl⟩
  · exact ⟨rfl, rfl⟩
/-- so many lists and records around a value -/
def nst : Nat → IV → IV
  | 0, x => x
  | k + 1, x => if k % 2 = 0 then .lst [nst k x] else .dct [(.str [97], nst k x)]
section
variable {W n : Nat}
theorem law_odd (hn : 4 ≤ n) : Dr 1 (callF fs W n 20 [.cell 0]) fun v => v ∈ oddL := by
  rw [op (d := f__law_odd) rfl rfl (by omega)]
  have hz : (10 : Nat) ≤ szl := by decide
  have h1 : prM .mul [.str [120], .int 2001] = M.pure s2001 := p_mul_str (k := 2001) (by omega)
  have h2 : ∀ a b : IV, ∀ k : Ky, dputs [(k, a)] [] = [(k, a)] := fun _ _ _ => rfl
  simp [f__law_odd, enter, hz, h1, pow60, PL.bind_assoc]
  have hp := pick (W := W) (n := n - 1) (xs := oddL) (by omega) (by simp [oddL]) (by simp [oddL])
  exact hp
theorem deep_go (Φ : Nat → List IV → M IV) (a : IV) : ∀ (m s : Nat) (x : IV) (t : SV), ∃ t2, forl (.one 2) (fun fr => xss Φ W [.asg 1 (.ife (.pr .eq [(.pr .mod [(.pr .int [(.slot 2)]), (.c (.int 2))]), (.c (.int 0))]) (.lst [(.slot 1)]) (.dict [.str [97]] [(.slot 1)]))] fr) ((List.range' s m).map fun (i : Nat) => IV.int i) [.val a, .val (nst s x), t] = M.pure (.nx [.val a, .val (nst (s + m) x), t2])
  | 0, s, x, t => ⟨t, rfl⟩
  | m + 1, s, x, t => by
    obtain ⟨t2, e⟩ := deep_go Φ a m (s + 1) x (.val (.int s))
    refine ⟨t2, ?_⟩
    have hz1 : (1 : Nat) ≤ szl := by decide
    have hm : prM .mod [.int s, .int 2] = M.pure (.int ((s : Int) % 2)) := p_mod (by omega)
    have hq : ((s : Int) % 2 = 0) ↔ s % 2 = 0 := by omega
    have hn : nst (s + 1) x = if s % 2 = 0 then .lst [nst s x] else .dct [(.str [97], nst s x)] := rfl
    rw [show s + (m + 1) = s + 1 + m by omega, ← e, List.range'_succ, List.map_cons]
    simp only [forl_cons, store_one, opt_some, PL.bind_pure, List.set_cons_succ, List.set_cons_zero]
    by_cases c : s % 2 = 0
    · rw [hn, if_pos c]
      simp [hm, hq, c, hz1]
    · rw [hn, if_neg c]
      have h2 : ∀ (a : IV) (k : Ky), dputs [(k, a)] [] = [(k, a)] := fun _ _ => rfl
      simp [hm, hq, c, hz1, h2]
theorem law_deep (hn : 1 ≤ n) {m : Nat} (h : m ≤ 100) (x : IV) : callF fs W n 22 [.int m, x] = M.pure (nst m x) := by
  rw [op (d := f__law_deep) rfl rfl hn]
  obtain ⟨t, e⟩ := deep_go (W := W) (callF fs W (n - 1)) (.int m) m 0 x .non
  have hw : walk .range [.int m] = some ((List.range' 0 m).map fun (i : Nat) => IV.int i) := by
    show (if (m : Int).natAbs ≤ szl then some ((List.range (m : Int).toNat).map fun (i : Nat) => IV.int i) else none) = _
    rw [if_pos (szl_big (by omega)), ← List.range_eq_range']
    simp
  have e4 : f__law_deep.body = [.for (.one 2) .range [(.slot 0)] [.asg 1 (.ife (.pr .eq [(.pr .mod [(.pr .int [(.slot 2)]), (.c (.int 2))]), (.c (.int 0))]) (.lst [(.slot 1)]) (.dict [.str [97]] [(.slot 1)]))], .ret (.slot 1)] := rfl
  rw [e4]
  have e5 : enter f__law_deep [.int m, x] = [.val (.int m), .val (nst 0 x), .non] := rfl
  rw [e5]
  simp only [xss_cons, xs1_for, evs_cons, evs_nil, ev_slot, slotV_0, opt_some, PL.bind_pure, hw]
  simp only [xss_cons] at e
  rw [e]
  simp
theorem rep_cl {w : Bool} {d : Nat} {a : IV} {k : Nat} (h : Cl w true d a) (hk : k ≤ 3000) : Cl w true (d + 1) (.lst (List.replicate k a)) := ⟨rfl, by simpa using hk, fun y hy => by rw [(List.mem_replicate.mp hy).2]; exact h⟩
theorem nst_cl {x : IV} (h : Cl true true 1 x) : ∀ m, Cl true true (m + 1) (nst m x)
  | 0 => h
  | m + 1 => by
    have ih := nst_cl h m
    show Cl true true (m + 1 + 1) (if m % 2 = 0 then .lst [nst m x] else .dct [(.str [97], nst m x)])
    split
    · exact ⟨rfl, by simp, by simpa using ih⟩
    · exact .inl ⟨[([97], nst m x)], rfl, one_k _ _ (by simp), by simpa using ih⟩
theorem cl_int {w l : Bool} (i : Int) : Cl w l 1 (.int i) := trivial
def mostL : List IV := [.int (bound - 1), .int (1 - bound), .str (List.replicate 2000 120), .dct [(.str [97, 98, 99, 100, 101, 102, 103, 104], .lst [.non])]]
theorem isd_most {x : IV} (h : x ∈ mostL) (hn : 4 ≤ n) (hW : 2001 ≤ W) : callF fs W n 7 [x] = M.pure (.bl true) := by
  simp only [mostL, List.mem_cons, List.not_mem_nil, or_false] at h
  rcases h with rfl | rfl | rfl | rfl
  · rw [is_document (d := 1) (cl_int _) hn hW]; congr 2
  · rw [is_document (d := 1) (cl_int _) hn hW]; congr 2
  · rw [is_document (d := 1) (show Cl true true 1 _ from by simp [Cl]) hn hW]
    have : (fine 1 (.str (List.replicate 2000 120)) 1 && decide (nd 1 (.str (List.replicate 2000 120)) ≤ 2000)) = true := by decide +kernel
    rw [this]
  · rw [is_document (d := 3) (show Cl true true 3 (.dct [(.str [97, 98, 99, 100, 101, 102, 103, 104], .lst [.non])]) from Or.inl ⟨[([97, 98, 99, 100, 101, 102, 103, 104], .lst [.non])], rfl, one_k _ _ (by simp), by simp [Cl]⟩) hn hW]
    have : (fine 3 (.dct [(.str [97, 98, 99, 100, 101, 102, 103, 104], .lst [.non])]) 1 && decide (nd 3 (.dct [(.str [97, 98, 99, 100, 101, 102, 103, 104], .lst [.non])]) ≤ 2000)) = true := by decide +kernel
    rw [this]
theorem isd_deep {x : IV} (h : x ∈ [IV.int (bound - 1), .int (1 - bound), .str (List.replicate 2000 120), .int 1]) (hn : 4 ≤ n) (hW : 2001 ≤ W) : callF fs W n 7 [nst 11 x] = M.pure (.bl true) := by
  simp only [List.mem_cons, List.not_mem_nil, or_false] at h
  rcases h with rfl | rfl | rfl | rfl
  · rw [is_document (nst_cl (cl_int _) 11) hn hW]
    have : (fine 12 (nst 11 (.int (bound - 1))) 1 && decide (nd 12 (nst 11 (.int (bound - 1))) ≤ 2000)) = true := by decide +kernel
    rw [this]
  · rw [is_document (nst_cl (cl_int _) 11) hn hW]
    have : (fine 12 (nst 11 (.int (1 - bound))) 1 && decide (nd 12 (nst 11 (.int (1 - bound))) ≤ 2000)) = true := by decide +kernel
    rw [this]
  · rw [is_document (nst_cl (show Cl true true 1 _ from by simp [Cl]) 11) hn hW]
    have : (fine 12 (nst 11 (.str (List.replicate 2000 120))) 1 && decide (nd 12 (nst 11 (.str (List.replicate 2000 120))) ≤ 2000)) = true := by decide +kernel
    rw [this]
  · rw [is_document (nst_cl (cl_int _) 11) hn hW]
    have : (fine 12 (nst 11 (.int 1)) 1 && decide (nd 12 (nst 11 (.int 1)) ≤ 2000)) = true := by decide +kernel
    rw [this]
theorem isd_deeper (hn : 4 ≤ n) (hW : 2001 ≤ W) : callF fs W n 7 [nst 12 (.int 1)] = M.pure (.bl false) := by
  rw [is_document (nst_cl (cl_int _) 12) hn hW]
  have : (fine 13 (nst 12 (.int 1)) 1 && decide (nd 13 (nst 12 (.int 1)) ≤ 2000)) = false := by decide +kernel
  rw [this]
theorem isd_wide (hn : 4 ≤ n) (hW : 2001 ≤ W) : callF fs W n 7 [.lst (List.replicate 1999 (.int 0))] = M.pure (.bl true) ∧ callF fs W n 7 [.lst (List.replicate 1999 (.int 0) ++ [.int 0])] = M.pure (.bl false) ∧
    callF fs W n 7 [.lst (List.replicate 45 (.lst (List.replicate 43 (.int 0))))] = M.pure (.bl true) ∧ callF fs W n 7 [.lst (List.replicate 46 (.lst (List.replicate 43 (.int 0))))] = M.pure (.bl false) := by
  have h0 : Cl true true 1 (.int 0) := trivial
  refine ⟨?_, ?_, ?_, ?_⟩
  · rw [is_document (rep_cl h0 (by omega)) hn hW]
    have : (fine 2 (.lst (List.replicate 1999 (.int 0))) 1 && decide (nd 2 (.lst (List.replicate 1999 (.int 0))) ≤ 2000)) = true := by decide +kernel
    rw [this]
  · have e : List.replicate 1999 (IV.int 0) ++ [.int 0] = List.replicate 2000 (.int 0) := (List.replicate_succ' (n := 1999)).symm
    rw [e, is_document (rep_cl h0 (by omega)) hn hW]
    have : (fine 2 (.lst (List.replicate 2000 (.int 0))) 1 && decide (nd 2 (.lst (List.replicate 2000 (.int 0))) ≤ 2000)) = false := by decide +kernel
    rw [this]
  · rw [is_document (rep_cl (rep_cl h0 (by omega)) (by omega)) hn hW]
    have : (fine 3 (.lst (List.replicate 45 (.lst (List.replicate 43 (.int 0))))) 1 && decide (nd 3 (.lst (List.replicate 45 (.lst (List.replicate 43 (.int 0))))) ≤ 2000)) = true := by decide +kernel
    rw [this]
  · rw [is_document (rep_cl (rep_cl h0 (by omega)) (by omega)) hn hW]
    have : (fine 3 (.lst (List.replicate 46 (.lst (List.replicate 43 (.int 0))))) 1 && decide (nd 3 (.lst (List.replicate 46 (.lst (List.replicate 43 (.int 0))))) ≤ 2000)) = false := by decide +kernel
    rw [this]
end
end K1

set_option Elab.async false
set_option linter.all false
set_option maxRecDepth 100000
set_option maxHeartbeats 4000000
/-! K01P13: the law. -/
namespace K1
open PI PL Kf
theorem zip_self_all {α : Type} {f : α × α → Bool} : ∀ {l : List α}, (∀ x ∈ l, f (x, x) = true) → (l.zip l).all f = true
  | [], _ => rfl
  | x :: r, h => by simp [h x (by simp)]; simpa using zip_self_all (l := r) fun y hy => h y (List.mem_cons_of_mem _ hy)
theorem Dc.same : ∀ {d : Nat} {x : IV}, Dc d x → K1.same d x x = true
  | 0, _, h => h.elim
  | d + 1, x, h => by
    rcases h with rfl | ⟨b, rfl⟩ | ⟨i, rfl, _⟩ | ⟨s, rfl, hs, _⟩ | ⟨xs, rfl, hl, hx⟩ | ⟨ps, rfl, hk, hx⟩
    · rfl
    · simp [K1.same, scal]
    · simp [K1.same, scal]
    · simp [K1.same, scal]
    · simp only [K1.same, decide_true, Bool.true_and]
      exact zip_self_all fun y hy => (hx y hy).same
    · rw [same_kv]
      simp only [decide_true, Bool.true_and]
      exact zip_self_all fun p hp => (hx p hp).same
theorem sortL_str (x : IV) : ∃ s, sortL x = .str s := by cases x <;> exact ⟨_, rfl⟩
theorem ne_self {x : IV} (h : ∃ s, x = .str s) : prM .ne [x, x] = M.pure (.bl false) := by
  obtain ⟨s, rfl⟩ := h
  simp
theorem xss_pure {Φ : Nat → List IV → M IV} {W : Nat} {s : S} {r : List S} {fr fr' : Fr} (h : xs1 Φ W s fr = M.pure (.nx fr')) : xss Φ W (s :: r) fr = xss Φ W r fr' := by
  rw [xss_cons, h]
  rfl
theorem Dr.forl {c : Nat} {tg : Tg} {b : Fr → M Fl} {I : Fr → Prop} : ∀ {l : List IV} {fr : Fr}, (∀ x ∈ l, ∀ fr, I fr → Dr c ((M.opt (store tg x fr)).bind b) fun fl => ∃ fr', fl = .nx fr' ∧ I fr') → I fr → Dr (c * l.length) (PI.forl tg b l fr) fun fl => ∃ fr', fl = .nx fr' ∧ I fr'
  | [], fr, _, hi => .pure ⟨fr, rfl, hi⟩
  | x :: r, fr, h, hi => by
    have e : c * (x :: r).length = c + c * r.length := by rw [List.length_cons, Nat.mul_add]; omega
    rw [e]
    show Dr _ ((M.opt (store tg x fr)).bind fun fr => (b fr).bind (loopF fun fr => PI.forl tg b r fr)) _
    rw [← PL.bind_assoc]
    refine (h x (by simp) fr hi).bind (by omega) ?_
    rintro _ ⟨fr', rfl, hi'⟩
    refine (Dr.forl (l := r) (fun y hy => h y (List.mem_cons_of_mem _ hy)) hi').mono (by omega) fun _ z => z
def otherL : List IV := [.int 0, .int 1, .bl true, .bl false, .non, .str [97], .tup [], .dct [], .dct [(.str [113], .int 1)]]
theorem other_ok : ∀ v ∈ otherL, Cl false false 2 v := by
  intro v hv
  simp only [otherL, List.mem_cons, List.not_mem_nil, or_false] at hv
  rcases hv with rfl | rfl | rfl | rfl | rfl | rfl | rfl | rfl | rfl
  · trivial
  · trivial
  · trivial
  · trivial
  · trivial
  · simp [Cl]
  · simp [Cl]
  · exact .inl ⟨[], rfl, ⟨rfl, by simp, by simp, by simp⟩, by simp⟩
  · exact .inl ⟨[([113], .int 1)], rfl, one_k _ _ (by simp), by simp [Cl]⟩
theorem Dc.kids {d : Nat} {x : IV} (h : Dc (d + 1) x) : (∀ y ∈ K1.kids x, Dc d y) ∧ (K1.kids x).length ≤ 3 := by
  rcases h with rfl | ⟨b, rfl⟩ | ⟨i, rfl, _⟩ | ⟨s, rfl, hs, _⟩ | ⟨xs, rfl, hl, hx⟩ | ⟨ps, rfl, hk, hx⟩
  · simp [K1.kids]
  · simp [K1.kids]
  · simp [K1.kids]
  · simp [K1.kids]
  · exact ⟨hx, hl⟩
  · refine ⟨fun y hy => ?_, by have := (nm_k hk).2.1; simpa [K1.kids, kv] using this⟩
    simp [K1.kids, kv] at hy
    obtain ⟨s, hs⟩ := hy
    exact hx _ hs
section
variable {W n : Nat}
/-- the law's own parts -/
theorem own_parts {x : IV} {d : Nat} (h : Dc (d + 1) x) (f5 f12 : SV) (s0 s1 s2 s3 s4 s6 s7 s8 s9 s10 s11 : SV) :
    ev (callF fs W n) (.ife (.pr (.isi [.tuple]) [(.slot 5)]) (.pr .list [(.slot 5)]) (.ife (.pr (.isi [.dict]) [(.slot 5)]) (.comp (.one 12) .val [(.pr .sorted [(.slot 5)])] [] (.pr .item [(.slot 5), (.slot 12)])) (.lst []))) [s0, s1, s2, s3, s4, .val x, s6, s7, s8, s9, s10, s11, f12] = M.pure (.lst (K1.kids x)) := by
  have hc : Cl false false (d + 1) x := h.cl
  have hz0 : (0 : Nat) ≤ szl := by decide
  have i1 := i0 hc.own .tuple
  have i2 := i0 hc.own .dict
  rcases h with rfl | ⟨b, rfl⟩ | ⟨i, rfl, _⟩ | ⟨s, rfl, hs, _⟩ | ⟨xs, rfl, hl, hx⟩ | ⟨ps, rfl, hk, hx⟩
  · simp [i1, i2, isT, K1.kids]
  · simp [i1, i2, isT, K1.kids]
  · simp [i1, i2, isT, K1.kids]
  · simp [i1, i2, isT, K1.kids]
  · simp [i1, i2, isT, K1.kids]
  · obtain ⟨ko, kl, _⟩ := nm_k hk
    have hw : walk .val [.lst (ps.map fun p => IV.str p.1)] = some (ps.map fun p => IV.str p.1) := rfl
    have hz : ps.length ≤ szl := szl_big (by omega)
    simp [i1, i2, isT, p_sorted_kv ko, hw]
    rw [each_mapp (b := fun p : List Nat × IV => p.2) ?_]
    · simp [hz, K1.kids, kv, Function.comp_def]
    · intro p hp
      simp [p_item_dct (dget_kv ko.nd hp)]
def turnB : List S := [.asg 4 (.call 14 [(.slot 1), (.c (.int 3)), (.c (.int 2))]), .asg 5 (.call 16 [(.slot 1), (.slot 4), (.c (.int 3))]), .ife (.or (.pr (.notb true) [(.call 7 [(.slot 5)])]) (.or (.pr (.notb true) [(.callk 7 [.inl 0] [(.call 18 [(.slot 5)])])]) (.pr .ne [(.call 5 [(.slot 5)]), (.call 19 [(.slot 5)])]))) [.ret (.c (.bl false))] [], .asg 6 (.call 8 [(.call 18 [(.slot 5)])]), .ife (.or (.pr .ne [(.pr .repr [(.slot 6)]), (.pr .repr [(.slot 5)])]) (.or (.not (.call 9 [(.slot 5), (.call 18 [(.slot 5)])])) (.pr .ne [(.pr .repr [(.callk 8 [.inl 0] [(.slot 5)])]), (.pr .repr [(.slot 5)])]))) [.ret (.c (.bl false))] [], .asg 7 (.call 21 [(.slot 1), (.slot 5), (.call 12 [(.slot 1), (.lst [(.c (.int 0)), (.c (.int 1)), (.c (.bl true)), (.c (.bl false)), (.c .non), (.c (.str [97])), (.tup []), (.dict [] []), (.dict [.str [113]] [(.c (.int 1))])])])]), .ife (.or (.pr .ne [(.call 9 [(.slot 5), (.slot 7)]), (.call 17 [(.slot 5), (.slot 7)])]) (.pr .ne [(.callk 9 [.inl 1, .inl 0] [(.slot 5), (.call 18 [(.slot 7)])]), (.call 17 [(.slot 5), (.slot 7)])])) [.ret (.c (.bl false))] [], .asg 8 (.call 20 [(.slot 1)]), .ife (.or (.pr (.notb false) [(.call 7 [(.call 21 [(.slot 1), (.slot 5), (.slot 8)])])]) (.pr .notnon [(.call 5 [(.slot 8)])])) [.ret (.c (.bl false))] [], .asg 9 (.ife (.pr (.isi [.tuple]) [(.slot 5)]) (.pr .list [(.slot 5)]) (.ife (.pr (.isi [.dict]) [(.slot 5)]) (.comp (.one 12) .val [(.pr .sorted [(.slot 5)])] [] (.pr .item [(.slot 5), (.slot 12)])) (.lst []))), .ife (.pr .ne [(.pr .repr [(.call 6 [(.slot 5)])]), (.pr .repr [(.slot 9)])]) [.ret (.c (.bl false))] []]
theorem turn (hn : 20 ≤ n) (hW : 2001 ≤ W) (s0 s2 s3 s4 s5 s6 s7 s8 s9 s10 s11 s12 : SV) :
    Dr 6000 (xss (callF fs W n) W turnB [s0, .val (.cell 0), s2, s3, s4, s5, s6, s7, s8, s9, s10, s11, s12]) fun fl => ∃ t4 t5 t6 t7 t8 t9, fl = .nx [s0, .val (.cell 0), s2, s3, t4, t5, t6, t7, t8, t9, s10, s11, s12] := by
  unfold turnB
  rw [xss_cons]
  simp -implicitDefEqProofs only [xs1_asg, ev_call, evs_cons, evs_nil, ev_slot, slotV_s, slotV_0, opt_some, PL.bind_pure, ev_c, PL.bind_assoc, seqF_nx, List.set_cons_succ, List.set_cons_zero]
  refine (law_type (W := W) 5 n 3 2 (by omega) (by omega)).bind (by decide) ?_
  intro kind hkind
  rw [xss_cons]
  simp -implicitDefEqProofs only [xs1_asg, ev_call, evs_cons, evs_nil, ev_slot, slotV_s, slotV_0, opt_some, PL.bind_pure, ev_c, PL.bind_assoc, seqF_nx, List.set_cons_succ, List.set_cons_zero]
  refine (law_document (W := W) 6 n kind hkind (by omega)).bind (by decide) ?_
  intro x hx
  -- the document itself
  have hc : Cl false false 6 x := hx.cl
  have hct : Cl true true 6 x := hx.cl
  obtain ⟨hlc, hml⟩ := mp_lst_cl hc
  have hlt : Cl true true 6 (mp .lst 6 x) := hlc.weak (fun z => by cases z) (fun z => z)
  have hnd : nd 6 x ≤ 2000 := Nat.le_trans hx.nodes (by decide)
  have q1 : callF fs W n 7 [x] = M.pure (.bl true) := by
    rw [is_document hct (by omega) hW, hx.fine (by omega)]
    simp [hnd]
  have q2 : callF fs W n 18 [x] = M.pure (mp .lst 6 x) := listed hc (by omega)
  have q3 : callF fs W n 7 [mp .lst 6 x] = M.pure (.bl true) := by
    rw [is_document hlt (by omega) hW, hx.listed.1, hx.listed.2.1, hx.fine (by omega)]
    simp [hnd]
  have q4 : callF fs W n 5 [x] = M.pure (sortL x) := by rw [sort_of hct (by omega), hx.sort.1]
  have q5 : callF fs W n 19 [x] = M.pure (sortL x) := law_sort hc.own (by omega)
  have q6 := ne_self (sortL_str x)
  have q7 : callF fs W n 8 [mp .lst 6 x] = M.pure x := by rw [told hlc (by omega), hml]
  have q8 : callF fs W n 8 [x] = M.pure x := by rw [told hc (by omega), mp_tup hc]
  obtain ⟨rs, q9⟩ := repr_doc hx (by omega)
  have q10 : callF fs W n 9 [x, mp .lst 6 x] = M.pure (.bl true) := by rw [is_alike hc hlc (mp_tup hc) hml hc hc (by omega), hx.same]
  have q11 : callF fs W n 6 [x] = M.pure (.lst (kids x)) := parts_of hc hx.sort.2 (by omega)
  obtain ⟨rk, q12⟩ := repr_list (d := 5) hx.kids.1 (by omega) hx.kids.2
  rw [xss_pure (fr' := [s0, .val (.cell 0), s2, s3, .val kind, .val x, s6, s7, s8, s9, s10, s11, s12]) (by simp [q1, q2, q3, q4, q5, q6, permV])]
  rw [xss_pure (fr' := [s0, .val (.cell 0), s2, s3, .val kind, .val x, .val x, s7, s8, s9, s10, s11, s12]) (by simp [q2, q7])]
  rw [xss_pure (fr' := [s0, .val (.cell 0), s2, s3, .val kind, .val x, .val x, s7, s8, s9, s10, s11, s12]) (by simp [q2, q8, q9, q10, permV])]
  -- another one
  have hz0 : (0 : Nat) ≤ szl := by decide
  have hz9 : (9 : Nat) ≤ szl := by decide
  have h2 : ∀ (a : IV) (k : Ky), dputs [(k, a)] [] = [(k, a)] := fun _ _ => rfl
  have h3 : dputs [] [] = ([] : List (Ky × IV)) := rfl
  rw [xss_cons]
  simp -implicitDefEqProofs only [xs1_asg, ev_call, evs_cons, evs_nil, ev_slot, slotV_s, slotV_0, opt_some, PL.bind_pure, ev_c, ev_lst, ev_tup, ev_dict, List.zip_nil_right, List.zip_cons_cons, PL.bind_assoc, List.length_cons, List.length_nil, Nat.zero_add, Nat.reduceAdd, hz0, hz9, if_true, h2, h3, List.set_cons_succ, List.set_cons_zero]
  have hpo := pick (W := W) (n := n) (xs := otherL) (by omega) (by simp [otherL]) (by simp [otherL])
  refine Dr.bind (R := fun v => v ∈ otherL) (c := 1) hpo (by decide) ?_
  intro o ho
  refine (law_bent (W := W) (other_ok o ho) 6 n x hx (by omega)).bind (by decide) ?_
  intro y hy
  simp only [seqF_nx]
  have hyc : Cl false false 8 y := hy.1
  have hx8 : Cl false false 8 x := hc.le (by omega)
  obtain ⟨hyl, hym⟩ := mp_lst_cl hyc
  have r1 : callF fs W n 9 [x, y] = M.pure (.bl (same 8 x y)) := is_alike hx8 hyc (mp_tup hx8) (mp_tup hyc) hx8 hyc (by omega)
  have r2 : callF fs W n 17 [x, y] = M.pure (.bl (same 8 x y)) := alike hx8 hyc (by omega)
  have r3 : callF fs W n 18 [y] = M.pure (mp .lst 8 y) := listed hyc (by omega)
  have r4 : callF fs W n 9 [mp .lst 8 y, x] = M.pure (.bl (same 8 x y)) := by rw [is_alike hyl hx8 hym (mp_tup hx8) hyc hx8 (by omega), same_comm]
  rw [xss_pure (fr' := [s0, .val (.cell 0), s2, s3, .val kind, .val x, .val x, .val y, s8, s9, s10, s11, s12]) (by simp [r1, r2, r3, r4, permV])]
  -- an odd one
  rw [xss_cons]
  simp -implicitDefEqProofs only [xs1_asg, ev_call, evs_cons, evs_nil, ev_slot, slotV_s, slotV_0, opt_some, PL.bind_pure, ev_c, PL.bind_assoc, seqF_nx, List.set_cons_succ, List.set_cons_zero]
  refine (law_odd (W := W) (n := n) (by omega)).bind (by decide) ?_
  intro v hv
  obtain ⟨hv1, hv2⟩ := odd_ok v hv
  have t1 : callF fs W n 5 [v] = M.pure .non := by rw [sort_of hv1 (by omega), hv2]
  rw [xss_cons]
  simp -implicitDefEqProofs only [xs1_ife, ev_or, ev_pr, eva_cons, eva_nil, evo1_call, ev_call, evs_cons, evs_nil, ev_slot, slotV_s, slotV_0, opt_some, PL.bind_pure, ev_c, PL.bind_assoc, List.set_cons_succ, List.set_cons_zero, test_bind]
  refine (law_bent (W := W) hv1 6 n x hx (by omega)).bind (by decide) ?_
  intro z hz
  have t2 : callF fs W n 7 [z] = M.pure (.bl false) := by
    rw [is_document hz.1 (by omega) hW, hz.2 (by rw [hv2]; rfl) 1]
    rfl
  simp -implicitDefEqProofs only [t2, PL.bind_pure, p_notb, decide_true, Bool.not_true, test_pure, Bool.false_eq_true, if_false, t1, p_notnon, isNon, xss_nil, seqF_nx]
  rw [xss_pure (xs1_asg.trans (by rw [own_parts hx .non]; rfl))]
  rw [xss_pure (fr' := [s0, .val (.cell 0), s2, s3, .val kind, .val x, .val x, .val y, .val v, .val (.lst (kids x)), s10, s11, s12]) (by simp [q11, q12])]
  simp only [xss_nil]
  exact .pure ⟨_, _, _, _, _, _, rfl⟩
end
end K1

set_option Elab.async false
set_option linter.all false
set_option maxRecDepth 100000
set_option maxHeartbeats 4000000
/-! K01P14: the law ends in True. -/
namespace K1
open PI PL Kf
section
variable {W n : Nat}
def s2000 : IV := .str (List.replicate 2000 120)
def w1999 : IV := .lst (List.replicate 1999 (.int 0))
def w2000 : IV := .lst (List.replicate 1999 (.int 0) ++ [.int 0])
def r43 : IV := .lst (List.replicate 43 (.int 0))
def r45 : IV := .lst (List.replicate 45 r43)
def r46 : IV := .lst (List.replicate 46 r43)
def one2 : IV := .dct [(.int 1, .int 2)]
def restL : List S := [.asg 3 (.call 12 [(.slot 1), (.lst [(.pr .sub [(.pr .pow [(.c (.int 10)), (.c (.int 60))]), (.c (.int 1))]), (.pr .sub [(.c (.int 1)), (.pr .pow [(.c (.int 10)), (.c (.int 60))])]), (.pr .mul [(.c (.str [120])), (.c (.int 2000))]), (.dict [.str [97, 98, 99, 100, 101, 102, 103, 104]] [(.lst [(.c .non)])])])]), .ife (.or (.pr (.notb true) [(.call 7 [(.slot 3)])]) (.or (.pr (.notb true) [(.call 7 [(.call 22 [(.c (.int 11)), (.ife (.not (.pr (.isi [.dict]) [(.slot 3)])) (.slot 3) (.c (.int 1)))])])]) (.pr (.notb false) [(.call 7 [(.call 22 [(.c (.int 12)), (.c (.int 1))])])]))) [.ret (.c (.bl false))] [], .par 10 11 false false (.pr .mul [(.lst [(.c (.int 0))]), (.c (.int 1999))]) (.pr .mul [(.lst [(.c (.int 0))]), (.c (.int 43))]), .ife (.or (.pr (.notb true) [(.call 7 [(.slot 10)])]) (.or (.pr (.notb false) [(.call 7 [(.pr .add [(.slot 10), (.lst [(.c (.int 0))])])])]) (.or (.pr (.notb true) [(.call 7 [(.pr .mul [(.lst [(.slot 11)]), (.c (.int 45))])])]) (.pr (.notb false) [(.call 7 [(.pr .mul [(.lst [(.slot 11)]), (.c (.int 46))])])])))) [.ret (.c (.bl false))] [], .ret (.and (.pr .eq [(.call 5 [(.lst [(.dict [.int 1] [(.c (.int 2))])])]), (.c (.str [108, 105, 115, 116]))]) (.pr .eq [(.call 5 [(.dict [.str [97]] [(.dict [.int 1] [(.c (.int 2))])])]), (.c (.str [114, 101, 99, 111, 114, 100]))]))]
theorem most_cl {x : IV} (h : x ∈ mostL) : (ownT x).isSome = true := by
  simp only [mostL, List.mem_cons, List.not_mem_nil, or_false] at h
  rcases h with rfl | rfl | rfl | rfl <;> rfl
theorem rest_ok (hn : 20 ≤ n) (hW : 2001 ≤ W) (s0 s2 s3 s4 s5 s6 s7 s8 s9 s10 s11 s12 : SV) :
    Dr 10 ((xss (callF fs W n) W restL [s0, .val (.cell 0), s2, s3, s4, s5, s6, s7, s8, s9, s10, s11, s12]).bind finF) fun v => v = .bl true := by
  have h1 : prM .mul [.str [120], .int 2000] = M.pure s2000 := p_mul_str (k := 2000) (by omega)
  have h2 : ∀ (a : IV) (k : Ky), dputs [(k, a)] [] = [(k, a)] := fun _ _ => rfl
  have hz4 : (4 : Nat) ≤ szl := by decide
  have hz1 : (1 : Nat) ≤ szl := by decide
  unfold restL
  rw [xss_cons]
  simp -implicitDefEqProofs only [xs1_asg, ev_call, ev_lst, ev_dict, ev_pr, eva_cons, eva_nil, evo1_c, evo1_pr, evs_cons, evs_nil, ev_slot, slotV_s, slotV_0, opt_some, PL.bind_pure, ev_c, PL.bind_assoc, seqF_nx, List.set_cons_succ, List.set_cons_zero, pow60, p_sub, h1, h2, List.zip_nil_right, List.zip_cons_cons, List.length_cons, List.length_nil, Nat.zero_add, Nat.reduceAdd, hz1, hz4, if_true]
  have hp := pick (W := W) (n := n) (xs := mostL) (by omega) (by simp [mostL]) (by simp [mostL])
  refine Dr.bind (R := fun v => v ∈ mostL) (c := 1) hp (by decide) ?_
  intro m hm
  have q1 := isd_most (W := W) (n := n) hm (by omega) hW
  have q2 : ∃ m2, ev (callF fs W n) (.ife (.not (.pr (.isi [.dict]) [(.slot 3)])) (.slot 3) (.c (.int 1))) [s0, .val (.cell 0), s2, .val m, s4, s5, s6, s7, s8, s9, s10, s11, s12] = M.pure m2 ∧ m2 ∈ [IV.int (bound - 1), .int (1 - bound), .str (List.replicate 2000 120), .int 1] := by
    have i := i0 (most_cl hm) .dict
    simp only [mostL, List.mem_cons, List.not_mem_nil, or_false] at hm
    rcases hm with rfl | rfl | rfl | rfl
    · exact ⟨_, by simp [i, isT]; rfl, by simp⟩
    · exact ⟨_, by simp [i, isT]; rfl, by simp⟩
    · refine ⟨.str (List.replicate 2000 120), ?_, by simp only [List.mem_cons, true_or, or_true]⟩
      have hi : isT (IV.str (List.replicate 2000 120)) .dict = false := rfl
      rw [hi] at i
      generalize IV.str (List.replicate 2000 120) = y at *
      simp [i]
    · exact ⟨_, by simp [i, isT]; rfl, by simp⟩
  obtain ⟨m2, q2, q3⟩ := q2
  have q4 := law_deep (W := W) (n := n) (by omega) (m := 11) (by omega) m2
  have q5 := isd_deep (W := W) (n := n) q3 (by omega) hW
  have q6 := law_deep (W := W) (n := n) (by omega) (m := 12) (by omega) (.int 1)
  have q7 := isd_deeper (W := W) (n := n) (by omega) hW
  obtain ⟨w1, w2, w3, w4⟩ := isd_wide (W := W) (n := n) (by omega) hW
  rw [xss_pure (fr' := [s0, .val (.cell 0), s2, .val m, s4, s5, s6, s7, s8, s9, s10, s11, s12]) ?c1]
  case c1 =>
    rw [xs1_ife]
    have e1 : ev (callF fs W n) (.or (.pr (.notb true) [(.call 7 [(.slot 3)])]) (.or (.pr (.notb true) [(.call 7 [(.call 22 [(.c (.int 11)), (.ife (.not (.pr (.isi [.dict]) [(.slot 3)])) (.slot 3) (.c (.int 1)))])])]) (.pr (.notb false) [(.call 7 [(.call 22 [(.c (.int 12)), (.c (.int 1))])])]))) [s0, .val (.cell 0), s2, .val m, s4, s5, s6, s7, s8, s9, s10, s11, s12] = M.pure (.bl false) := by
      have q4' : callF fs W n 22 [.int 11, m2] = M.pure (nst 11 m2) := q4
      have q6' : callF fs W n 22 [.int 12, .int 1] = M.pure (nst 12 (.int 1)) := q6
      simp -implicitDefEqProofs only [ev_or, ev_pr, eva_cons, eva_nil, evo1_call, ev_call, evs_cons, evs_nil, q2, ev_slot, slotV_s, slotV_0, opt_some, PL.bind_pure, ev_c, q1, p_notb, decide_true, Bool.not_true, test_pure, Bool.false_eq_true, if_false, q4', q5, q6', q7]
    rw [e1]
    simp -implicitDefEqProofs only [test_pure, PL.bind_pure, Bool.false_eq_true, if_false, xss_nil]
  have m1 : prM .mul [.lst [.int 0], .int 1999] = M.pure w1999 := p_mul_lst (k := 1999) (by omega)
  have m2 : prM .mul [.lst [.int 0], .int 43] = M.pure r43 := p_mul_lst (k := 43) (by omega)
  have m3 : prM .mul [.lst [r43], .int 45] = M.pure r45 := p_mul_lst (k := 45) (by omega)
  have m4 : prM .mul [.lst [r43], .int 46] = M.pure r46 := p_mul_lst (k := 46) (by omega)
  have m5 : prM .add [w1999, .lst [.int 0]] = M.pure w2000 := p_add_lst (szl_big (by simp))
  rw [xss_pure (fr' := [s0, .val (.cell 0), s2, .val m, s4, s5, s6, s7, s8, s9, .val w1999, .val r43, s12]) ?c2]
  case c2 =>
    simp -implicitDefEqProofs only [xs1_par, ev_pr, eva_cons, eva_nil, evo1_c, evo1_lst, ev_lst, ev_c, evs_cons, evs_nil, PL.bind_pure, List.length_cons, List.length_nil, Nat.zero_add, hz1, if_true, opt_some, m1, m2, Bool.false_eq_true, if_false, List.set_cons_succ, List.set_cons_zero]
  have w1' : callF fs W n 7 [w1999] = M.pure (.bl true) := w1
  have w2' : callF fs W n 7 [w2000] = M.pure (.bl false) := w2
  have w3' : callF fs W n 7 [r45] = M.pure (.bl true) := w3
  have w4' : callF fs W n 7 [r46] = M.pure (.bl false) := w4
  rw [xss_pure (fr' := [s0, .val (.cell 0), s2, .val m, s4, s5, s6, s7, s8, s9, .val w1999, .val r43, s12]) ?c3]
  case c3 =>
    simp -implicitDefEqProofs only [xs1_ife, ev_or, ev_pr, eva_cons, eva_nil, evo1_call, evo1_slot, evo1_lst, evo1_c, evo1_pr, ev_call, evs_cons, evs_nil, ev_slot, slotV_s, slotV_0, opt_some, PL.bind_pure, ev_c, ev_lst, List.length_cons, List.length_nil, Nat.zero_add, hz1, if_true, w1', w2', w3', w4', m3, m4, m5, p_notb, decide_true, Bool.not_true, test_pure, Bool.false_eq_true, if_false, xss_nil]
  have c1 : Cl true true 2 (.lst [one2]) := ⟨rfl, by simp, by
    intro y hy
    have : y = one2 := by simpa using hy
    rw [this]
    exact Or.inr ⟨rfl, _, _, rfl⟩⟩
  have c2 : Cl true true 2 (.dct [(.str [97], one2)]) := Or.inl ⟨[([97], one2)], rfl, one_k _ _ (by simp), by
    intro p hp
    have : p = ([97], one2) := by simpa using hp
    rw [this]
    exact Or.inr ⟨rfl, _, _, rfl⟩⟩
  have v1 : callF fs W n 5 [.lst [one2]] = M.pure (.str [108, 105, 115, 116]) := by rw [sort_of c1 (by omega)]; rfl
  have v2 : callF fs W n 5 [.dct [(.str [97], one2)]] = M.pure (.str [114, 101, 99, 111, 114, 100]) := by rw [sort_of c2 (by omega)]; rfl
  have e6 : IV.dct [(.int 1, .int 2)] = one2 := rfl
  rw [xss_cons]
  simp -implicitDefEqProofs only [xs1_ret, ev_and, ev_pr, eva_cons, eva_nil, evo1_call, evo1_c, ev_call, evs_cons, evs_nil, ev_lst, ev_dict, ev_c, PL.bind_pure, List.zip_nil_right, List.zip_cons_cons, h2, e6, List.length_cons, List.length_nil, Nat.zero_add, hz1, if_true, opt_some, v1, v2, p_eq_str, decide_true, test_pure, seqF_ret, finF_ret]
  exact .pure rfl
/-- the law's run -/
theorem law_run (hn : 21 ≤ n) (hW : 2001 ≤ W) (ns : List Int) : ∃ h', callF fs W n 23 [.scr ns] [] = .ok (.bl true) h' := by
  have e0 := op (W := W) (n := n) (f := 23) (vs := [.scr ns]) (d := f_law) rfl rfl (by omega)
  rw [e0]
  have eb : f_law.body = .asg 1 (.call 10 [(.slot 0)]) :: .for (.one 2) .range [(.c (.int 6))] turnB :: restL := rfl
  have ee : enter f_law [.scr ns] = [.val (.scr ns), .non, .non, .non, .non, .non, .non, .non, .non, .non, .non, .non, .non] := rfl
  rw [eb, ee]
  have s1 : xs1 (callF fs W (n - 1)) W (.asg 1 (.call 10 [(.slot 0)])) [.val (.scr ns), .non, .non, .non, .non, .non, .non, .non, .non, .non, .non, .non, .non] [] = .ok (.nx [.val (.scr ns), .val (.cell 0), .non, .non, .non, .non, .non, .non, .non, .non, .non, .non, .non]) (PS (ns.take 63) 0 0) := by
    have e1 := op (W := W) (n := n - 1) (f := 10) (vs := [.scr ns]) (d := f__law_pen) rfl rfl (by omega)
    have hz3 : (3 : Nat) ≤ szl := by decide
    have hc : prM (.cut false true) [.scr ns, .int 63] = M.pure (.lst ((ns.take 63).map IV.int)) := by
      funext c
      show M.opt (some (IV.lst (cutL (ns.map IV.int) none (some (63 : Int))))) c = _
      have : cutL (ns.map IV.int) none (some (63 : Int)) = (ns.take 63).map IV.int := by
        have h63 : (some (63 : Int)) = some ((63 : Nat) : Int) := rfl
        unfold cutL
        rw [h63, sIx_some]
        have : sIx (ns.map IV.int).length 0 none = 0 := rfl
        rw [this]
        simp only [List.drop_zero, Nat.sub_zero, List.length_map, ← List.map_take]
        congr 1
        by_cases hl : 63 ≤ ns.length
        · rw [Nat.min_eq_left hl]
        · rw [Nat.min_eq_right (by omega), List.take_of_length_le (by omega), List.take_of_length_le (by omega)]
      rw [this]
      rfl
    have e2 : callF fs W (n - 1) 10 [.scr ns] [] = .ok (.cell 0) (PS (ns.take 63) 0 0) := by
      rw [e1]
      have eb2 : f__law_pen.body = [.retc (.lst [(.pr .list [(.pr (.cut false true) [(.slot 0), (.c (.int 63))])]), (.c (.int 0)), (.c (.int 0))])] := rfl
      have ee2 : enter f__law_pen [.scr ns] = [.val (.scr ns)] := rfl
      rw [eb2, ee2]
      simp [hc, hz3]
      rw [← List.map_take]
      rfl
    rw [xs1_asg]
    simp -implicitDefEqProofs only [ev_call, evs_cons, evs_nil, ev_slot, slotV_0, opt_some, PL.bind_pure]
    unfold M.bind
    rw [e2]
    rfl
  have main : Dr 40000 ((xss (callF fs W (n - 1)) W (.for (.one 2) .range [(.c (.int 6))] turnB :: restL) [.val (.scr ns), .val (.cell 0), .non, .non, .non, .non, .non, .non, .non, .non, .non, .non, .non]).bind finF) fun v => v = .bl true := by
    have hw : walk .range [.int 6] = some ((List.range 6).map fun (i : Nat) => IV.int i) := rfl
    rw [xss_cons]
    simp -implicitDefEqProofs only [xs1_for, evs_cons, evs_nil, ev_c, PL.bind_pure, hw, opt_some, PL.bind_assoc]
    have hf := Dr.forl (c := 6000) (tg := .one 2) (b := fun fr => xss (callF fs W (n - 1)) W turnB fr) (l := (List.range 6).map fun (i : Nat) => IV.int i) (I := fun fr => ∃ s2 s3 s4 s5 s6 s7 s8 s9 s10 s11 s12, fr = [.val (.scr ns), .val (.cell 0), s2, s3, s4, s5, s6, s7, s8, s9, s10, s11, s12]) (fr := [.val (.scr ns), .val (.cell 0), .non, .non, .non, .non, .non, .non, .non, .non, .non, .non, .non]) (by
      rintro x _ _ ⟨s2, s3, s4, s5, s6, s7, s8, s9, s10, s11, s12, rfl⟩
      simp -implicitDefEqProofs only [store_one, opt_some, PL.bind_pure, List.set_cons_succ, List.set_cons_zero]
      refine (turn (n := n - 1) (by omega) hW _ _ _ _ _ _ _ _ _ _ _ _).mono (by omega) ?_
      rintro _ ⟨t4, t5, t6, t7, t8, t9, rfl⟩
      exact ⟨_, rfl, _, _, _, _, _, _, _, _, _, _, _, rfl⟩) ⟨_, _, _, _, _, _, _, _, _, _, _, rfl⟩
    refine (hf.mono (d := 36000) (by simp) fun _ z => z).bind (by omega) ?_
    rintro _ ⟨fr, rfl, s2, s3, s4, s5, s6, s7, s8, s9, s10, s11, s12, rfl⟩
    rw [seqF_nx]
    exact (rest_ok (n := n - 1) (by omega) hW _ _ _ _ _ _ _ _ _ _ _ _).mono (by omega) fun _ z => z
  obtain ⟨v, p', g', e, rfl, _⟩ := main (ns.take 63) 0 0 (by omega) (by omega) (by omega)
  have e1 := run_cons (r := .for (.one 2) .range [(.c (.int 6))] turnB :: restL) s1
  have e3 : ((xss (callF fs W (n - 1)) W (.asg 1 (.call 10 [(.slot 0)]) :: .for (.one 2) .range [(.c (.int 6))] turnB :: restL) [.val (.scr ns), .non, .non, .non, .non, .non, .non, .non, .non, .non, .non, .non, .non]).bind finF) [] = ((xss (callF fs W (n - 1)) W (.for (.one 2) .range [(.c (.int 6))] turnB :: restL) [.val (.scr ns), .val (.cell 0), .non, .non, .non, .non, .non, .non, .non, .non, .non, .non, .non]).bind finF) (PS (ns.take 63) 0 0) := by
    unfold M.bind
    rw [e1]
  exact ⟨_, e3.trans e⟩
end
end K1

set_option Elab.async false
set_option linter.all false
set_option maxRecDepth 100000
set_option maxHeartbeats 0
namespace Kf
open PySem PySem.Spec PyProof.Rows L2 PI
theorem facts {P : Program} {w : World} {K : PySem.W.Frag} {h : Heap} {mg : Str → Option Value} {f : Addr} (X : K.In h) (M : h.Ns mainGlobals mg) (hfa : mg ("law" : Str) = some (.ref f)) (c : He.SaysD fa fn K) :
    ∃ fd : FuncData, (∀ (s : Shared) (u : Value), BindsTo s fd ⟨[u], []⟩ [("script", u)]) ∧ ∀ base : Heap, K.In base → base.Ns mainGlobals mg → FnG P w K mg base cxNo (30 + 1) f fd ["script"] (spF (Gf K) (fun _ _ _ _ _ _ => False) fs 3000 (30 + 1) 23) := by
  obtain ⟨fd, F⟩ := c.def_ 23 (d := dd "law" (topS 39)) rfl
  have nm := names X M c
  have e : mg ("law" : Str) = some (.ref ((Gf K).fa 23)) := by
    obtain ⟨_, _, hd, _, _⟩ := nm "law" (.fn 23 1) (tab_mem (T := tab) (by kernel_rfl))
    obtain ⟨_, _, _, _, _, _, _, _, _, _, _, _, _, hm⟩ := hd
    exact hm
  rw [hfa] at e
  cases e
  have b := FunD.bindsA (ps := ["script"]) F fun _ _ _ _ _ _ us hl => match us, hl with | [_], _ => rfl
  exact ⟨fd, fun s v => b s [v] rfl, fun base _ _ => fn_ok rfl F s_law rfl c_law cxp0 (tab_all rfl cxp0 nm 30)⟩
end Kf
open PySem PySem.W PySem.Calls PyProof.Rows
theorem PySem.Challenge.cw_pairstell_k01_documents_and_what_is_none_holds : PySem.Challenge.rw_pairstell_k01_documents_and_what_is_none.Holds := by
  w_on; o_law
  refine HandSHeadRun.head_any (r := OpenLaw.row PySem.Challenge.rw_pairstell_k01_documents_and_what_is_none) (q := view (OpenLaw.row PySem.Challenge.rw_pairstell_k01_documents_and_what_is_none).prog [39]) (H := Kf.hk) (ob := Kf.ob) (M := 3000) (loose := Kf.lo) (d := HandSHeadRun.topDef (OpenLaw.row PySem.Challenge.rw_pairstell_k01_documents_and_what_is_none).prog 39) (kwd := []) Kf.ob_eq
    (by kernel_rfl) (fun s => by kernel_rfl) Kf.run (by kernel_rfl) (by kernel_rfl) (by kernel_rfl)
    (by rfl) (by first | assumption | decide +kernel) (by decide +kernel)
    ⟨rfl, rfl, rfl, rfl, rfl, by decide +kernel⟩ ?hw ?hc
  case hw => w_witness2
  case hc =>
    refine PI.walkG (l := PySem.Challenge.rw_pairstell_k01_documents_and_what_is_none) (n := 63) (k := 30 + 1) (x := "script") (CX := fun _ => PI.cxNo) rfl (by decide) (by kernel_rfl)
      ⟨rfl, by decide, by decide⟩ ?F (fun _ _ _ _ _ z => z)
    intro w mg fa h Y G hmg0
    obtain ⟨K, KX, c⟩ := Y
    have hmg : mg ("law" : PySem.Str) = some (.ref fa) := by
      have e : (HandSHeadRun.topDef (OpenLaw.row PySem.Challenge.rw_pairstell_k01_documents_and_what_is_none).prog 39).name = ("law" : PySem.Str) := by kernel_rfl
      rw [← e]; exact hmg0
    obtain ⟨fd, hb, hF⟩ := Kf.facts (P := (PySem.Challenge.rw_pairstell_k01_documents_and_what_is_none).prog) (w := w) KX G hmg c
    refine ⟨K, fd, _, KX, hb, fun H a ns hl hO hS => ?_, hF⟩
    obtain ⟨h', e⟩ := K1.law_run (W := 3000) (n := 31) (by omega) (by omega) ns
    exact PI.spF_law rfl hO hS e
