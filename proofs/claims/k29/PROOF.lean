import PyProof.Rows.All
import Wide.All
import OpenK.AllK
import Wide.FinOn
import HandS.ForMost
import HandS.Wide
import HandS.SortRule
import HandS.SortInts
import HandS.TryOnly
import HandS.IsInst
import HandS.ExcOwn
import HandS.ExcInit
import HandS.ExcField
import HandS.ExcIs
import KE.KExcIs
import HandS.TryMany
import HandS.Star
import KE.GoesEnum
import KE.GoesNew
import HandS.Words
import HandS.ExcValue
import HandS.TupAny
import HandS.Deep
import HandS.RaiseMore
import HandS.CallSlots
import KE.SortData
import HandS.Flt
import HandS.Flow
import HandS.Conv
import KE.KDictZip
import PyProof.ListNew
import HandS.SetFor
import HandS.Strs
import HandS.Style
import HandS.Walk
import HandS.EndOwn
import HandS.Codes
import PySem.Challenge.RW_dialpack_k29_dialings_of_great_numbers
set_option Elab.async false
set_option pp.maxSteps 400
set_option linter.all false
set_option maxRecDepth 100000
set_option maxHeartbeats 8000000
/-! DpA: data, the small language, its weakest precondition over data. -/
namespace DP

/-- data; a list's flag tells that it is this owner's alone (it may be changed) -/
inductive D where
  | non | bl (b : Bool) | int (i : Int) | str (s : PySem.Str)
  | tup (xs : List D) | lst (o : Bool) (xs : List D)
  /-- an exception that was caught: its class, its fields -/
  | exc (c : String) (fs : List String) (xs : List D)
  /-- a dict by its keys, in order -/
  | dct (o : Bool) (ks : List L2.Key) (xs : List D)
  /-- an instance of a class: its attributes -/
  | ins (o : Bool) (c : String) (fs : List String) (xs : List D)

/-- stands for what no == and no repr is asked of -/
def badPy : PySem.PyData := .dict [(.none, .int (2 ^ 2000))]
mutual
/-- nothing in it may be changed any more -/
def D.fz : D → D
  | .tup xs => .tup (fzL xs)
  | .lst _ xs => .lst false (fzL xs)
  | .exc c fs xs => .exc c fs (fzL xs)
  | .dct _ ks xs => .dct false ks (fzL xs)
  | .ins _ c fs xs => .ins false c fs (fzL xs)
  | .non => .non
  | .bl b => .bl b
  | .int i => .int i
  | .str s => .str s
def fzL : List D → List D
  | [] => []
  | x :: xs => x.fz :: fzL xs
end
mutual
def D.isFz : D → Bool
  | .tup xs => isFzL xs
  | .lst o xs => !o && isFzL xs
  | .exc _ _ xs => isFzL xs
  | .dct o _ xs => !o && isFzL xs
  | .ins o _ _ xs => !o && isFzL xs
  | .non => true
  | .bl _ => true
  | .int _ => true
  | .str _ => true
def isFzL : List D → Bool
  | [] => true
  | x :: xs => x.isFz && isFzL xs
end
mutual
def D.py : D → PySem.PyData
  | .non => .none
  | .bl b => .bool b
  | .int i => .int i
  | .str s => .str s
  | .tup xs => .tuple (pyL xs)
  | .lst _ xs => .list (pyL xs)
  | .exc _ _ _ => badPy
  | .dct _ ks xs => if ks.isEmpty && xs.isEmpty then .dict [] else badPy
  | .ins _ _ _ _ => badPy
def pyL : List D → List PySem.PyData
  | [] => []
  | x :: xs => x.py :: pyL xs
end

/-- an exception: its class, its fields (one at most) -/
structure Exc where
  cls : String
  fs : List String
  xs : List D
/-- the classes of errors, each with all that it is -/
def excTab : List (String × List String) :=
  [("LockError", ["LockError", "ValueError"]), ("InvalidWheel", ["InvalidWheel", "LockError", "ValueError"]), ("InvalidDial", ["InvalidDial", "LockError", "ValueError"]), ("InvalidTurn", ["InvalidTurn", "LockError", "ValueError"]), ("InvalidNumber", ["InvalidNumber", "LockError", "ValueError"]),
   ("Impossible", ["Impossible", "LockError", "ValueError"]), ("NothingToUndo", ["NothingToUndo", "LockError", "ValueError"]), ("InvalidCommand", ["InvalidCommand", "LockError", "ValueError"]), ("InvalidLock", ["InvalidLock", "LockError", "ValueError"]), ("InvalidState", ["InvalidState", "LockError", "ValueError"]),
   ("InvalidTurns", ["InvalidTurns", "LockError", "ValueError"]), ("InvalidGates", ["InvalidGates", "LockError", "ValueError"]), ("InvalidSpans", ["InvalidSpans", "LockError", "ValueError"]), ("InvalidTries", ["InvalidTries", "LockError", "ValueError"]), ("InvalidSyntax", ["InvalidSyntax", "LockError", "ValueError"])]
def subX (c k : String) : Option Bool := (excTab.lookup c).map (·.contains k)
def subXs (c : String) : List String → Option Bool
  | [] => some false
  | k :: ks => (subX c k).bind fun b => if b = true then some true else subXs c ks
/-- isinstance of classes of errors -/
def isxD : D → List String → Option Bool
  | .exc c _ _, ks => subXs c ks
  | _, _ => none
/-- x.f -/
def attD : D → String → Option D
  | .exc _ fs xs, f => (fs.zip xs).lookup f
  | _, _ => none

inductive Op | add | sub | mul | fdiv | mod | pow | shl | shr | band
  deriving DecidableEq
inductive CO | eq | ne | lt | le | gt | ge | isin | nin | is_ | isnt | eqn
  deriving DecidableEq
inductive BI | len | abs | min2 | max2 | min3 | max3 | minL | maxL | sum | all | any | sorted | list | tuple | str | int | repr | bool
  deriving DecidableEq

mutual
inductive E where
  | var (i : Nat) | mov (i : Nat) | con (d : D) | glo (x : String) (d : D)
  | bin (o : Op) (a b : E) | neg (a : E) | nt (a : E) | bo (isAnd : Bool) (as : Es)
  | cmp (o : CO) (a b : E) | chn (o p : CO) (a b c : E) | chn3 (o p q : CO) (a b c d : E) | chn4 (o p q q2 : CO) (a b c d f : E) | sset (a : E) | lset (a : E) | ife (c a b : E)
  | call (f : String) (as : Es) | calk (f : String) (as : Es) (ks : List String) (bs : Es)
  | bi (b : BI) (as : Es) | isi (a : E) (t : String)
  | sub (a i : E) | slc (a : E) (lo hi : Eo)
  | tup (as : Es) | lst (as : Es) | dsp (fl : List Bool) (as : Es) | idx (i : Nat) (b : E) | peek (a : E) | lzip (a b : E) | rvl (a : E) | ice (a : E) | rpr (isTup : Bool) (as : Es)
  | isc (a : E) (ks : List String) | att (a : E) (f : String) | dnw | lrg (a b : E)
  | lc (elt : E) (t : T) (it : I) (ifs : Es) (own : List Nat)
inductive Es where
  | nil | cons (a : E) (as : Es)
inductive Eo where
  | no | yes (a : E)
inductive T where
  | nm (i : Nat) | tp (ts : Ts)
inductive Ts where
  | nil | cons (t : T) (ts : Ts)
inductive I where
  | ex (a : E) | rng1 (a : E) | rng2 (a b : E) | rng3 (a b c : E) | zip2 (a b : E) | zip3 (a b c : E) | enum (a : E) | rev (a : E) | enk (k : Int) (a : E)
end
mutual
inductive S where
  | nev | asg (t : T) (e : E) | par (is : List Nat) (es : Es)
  | pst (i : Nat) (ix e : E) | aug (i : Nat) (o : Op) (e : E) | pag (i : Nat) (ix : E) (o : Op) (e : E)
  | app (i : Nat) (e : E) | pap (i : Nat) (ks : List Nat) (d : D) | pat (i : Nat) (ks : List Nat) (d d2 : D) | ins (i : Nat) (e : E) | ext (i : Nat) (e : E) | psa (i : Nat) (ix e : E) (j : Nat) (e2 : E) | fpa (j i : Nat) (ks k2 : List Nat) (d : D) | exp (e : E)
  | ite (c : E) (a b : Ss) | for_ (t : T) (it : I) (b : Ss) | whl (c : E) (b : Ss)
  | ret (e : E) | rtn | brk | cnt | pas
  | rs0 (c : String) (e : E) | rs1 (c f : String) (e : E) | try_ (b : Ss) (hs : Hs)
inductive Ss where
  | nil | cons (a : S) (as : Ss)
/-- except clauses -/
inductive Hs where
  | nil | cons (c : String) (nm : Option Nat) (b : Ss) (hs : Hs)
end

def Es.len : Es → Nat
  | .nil => 0
  | .cons _ as => as.len + 1
abbrev Env := List (Option D)
/-- a def's promise over data: the arguments; what is wanted of the answer and of the arguments that may change; of an error -/
abbrev FSpec := List D → (D → List D → Prop) → (Exc → Prop) → Prop
structure Sig where
  sp : String → FSpec
  /-- which parameters may be changed by the def -/
  ios : String → List Bool
  ps : String → List String
  /-- the slots that the running def may change for its caller -/
  me : List Nat

abbrev KD := D → Env → Prop
abbrev KX := Exc → Env → Prop

/-- all that is one's own is only looked at for a while -/
def fzE : Env → Env
  | [] => []
  | none :: env => none :: fzE env
  | some d :: env => some d.fz :: fzE env
/-- repeated -/
def repD (xs : List D) : Nat → List D
  | 0 => []
  | n + 1 => xs ++ repD xs n
def PowOk (i j : Int) : Prop := 0 ≤ j ∧ (PySem.Builtin.Int.intBits i : Int) * j ≤ 2 ^ 27
def binD : Op → D → D → (D → Prop) → Prop
  | .add, .int i, .int j, Q => Q (.int (i + j))
  | .add, .str a, .str b, Q => a.length + b.length ≤ PySem.sizeLine ∧ Q (.str (a ++ b))
  | .add, .lst _ a, .lst _ b, Q => a.length + b.length ≤ PySem.sizeLine ∧ Q (.lst true (a ++ b))
  | .add, .tup a, .tup b, Q => a ≠ [] ∧ b ≠ [] ∧ a.length + b.length ≤ PySem.sizeLine ∧ Q (.tup (a ++ b))
  | .sub, .int i, .int j, Q => Q (.int (i - j))
  | .mul, .int i, .int j, Q => L2.CMulW i j ∧ Q (.int (i * j))
  | .mul, .lst _ a, .int k, Q => -(2 ^ 63) ≤ k ∧ k < 2 ^ 63 ∧ a.length * k.toNat ≤ PySem.sizeLine ∧ Q (.lst true (repD (fzL a) k.toNat))
  | .fdiv, .int i, .int j, Q => L2.CDivW i j ∧ Q (.int (i / j))
  | .mod, .int i, .int j, Q => 0 < j ∧ Q (.int (i % j))
  | .pow, .int i, .int j, Q => PowOk i j ∧ Q (.int (i ^ j.toNat))
  | .shl, .int i, .int j, Q => L2.CPow i j ∧ Q (.int (i * 2 ^ j.toNat))
  | .shr, .int i, .int j, Q => 0 ≤ j ∧ Q (.int (i / 2 ^ j.toNat))
  | .band, .int i, .int j, Q => Q (.int (PySem.Builtin.bitAnd i j))
  | _, _, _, _ => False
/-- in place: ints alone -/
def augD : Op → D → D → (D → Prop) → Prop
  | .add, .int i, .int j, Q => Q (.int (i + j))
  | .sub, .int i, .int j, Q => Q (.int (i - j))
  | .mul, .int i, .int j, Q => L2.CMulW i j ∧ Q (.int (i * j))
  | .mod, .int i, .int j, Q => 0 < j ∧ Q (.int (i % j))
  | _, _, _, _ => False
def eqG (x y : D) (Q : Bool → Prop) : Prop := PySem.SeqAt.shaped x.py = true ∧ PySem.SeqAt.shaped y.py = true ∧ Q (PySem.PyData.eqv x.py y.py)
def eqD : D → D → (Bool → Prop) → Prop
  | .str a, .str b, Q => Q (decide (a = b))
  | x, y, Q => eqG x y Q
def D.isNon : D → Bool
  | .non => true
  | _ => false
def szD : D → Prop
  | .str z => z.length ≤ PySem.sizeLine
  | .exc _ _ _ => False
  | .ins _ _ _ _ => False
  | _ => True
def flatD : D → Bool
  | .non => true | .bl _ => true | .int _ => true | .str _ => true | _ => false
def inD (x : D) (xs : List D) : Bool := xs.any fun y => PySem.PyData.eqv y.py x.py
/-! list < list, of ints, as long -/
def ltI : List Int → List Int → Bool
  | x :: xs, y :: ys => if x = y then ltI xs ys else decide (x < y)
  | _, _ => false
def cmpD : CO → D → D → (Bool → Prop) → Prop
  | .eq, x, y, Q => eqD x y Q
  | .ne, x, y, Q => eqD x y fun b => Q (!b)
  | .lt, .int i, .int j, Q => Q (decide (i < j))
  | .le, .int i, .int j, Q => Q (decide (i ≤ j))
  | .gt, .int i, .int j, Q => Q (decide (j < i))
  | .ge, .int i, .int j, Q => Q (decide (j ≤ i))
  | .lt, .lst _ xs, .lst _ ys, Q => ∃ is js : List Int, xs = is.map D.int ∧ ys = js.map D.int ∧ is.length = js.length ∧ Q (ltI is js)
  | .is_, x, .non, Q => Q x.isNon
  | .isnt, x, .non, Q => Q (!x.isNon)
  | .is_, .bl a, .bl b, Q => Q (decide (a = b))
  | .isnt, .bl a, .bl b, Q => Q (!decide (a = b))
  | .isin, x, .lst _ ys, Q => PySem.SeqAt.shaped x.py = true ∧ PySem.SeqAt.shaped (.list (pyL ys)) = true ∧ Q (inD x ys)
  | .nin, x, .lst _ ys, Q => PySem.SeqAt.shaped x.py = true ∧ PySem.SeqAt.shaped (.list (pyL ys)) = true ∧ Q (!inD x ys)
  | .isin, x, .tup ys, Q => flatD x = true ∧ ys.all flatD = true ∧ Q (inD x ys)
  | .nin, x, .tup ys, Q => flatD x = true ∧ ys.all flatD = true ∧ Q (!inD x ys)
  | .isin, .str a, .str z, Q => ∃ c, a = ⟨#[c]⟩ ∧ Q (decide (c ∈ z.cps.toList))
  | .nin, .str a, .str z, Q => ∃ c, a = ⟨#[c]⟩ ∧ Q (!decide (c ∈ z.cps.toList))
  | .eqn, .lst _ xs, .lst _ [], Q => Q xs.isEmpty
  | _, _, _, _ => False
def truthD : D → Bool
  | .non => false | .bl b => b | .int i => i != 0 | .str s => s.length != 0 | .tup xs => !xs.isEmpty | .lst _ xs => !xs.isEmpty | .dct _ _ xs => !xs.isEmpty | .exc _ _ _ => true | .ins _ _ _ _ => true
/-- a value's truth is asked -/
def truD (d : D) (Q : Bool → Prop) : Prop := szD d ∧ Q (truthD d)
/-- x[k] -/
def subD : D → D → Option D
  | .lst _ xs, .int i => L2.atI xs i
  | .tup xs, .int i => L2.atI xs i
  | .str z, .int i => (L2.atI z.cps.toList i).map fun c => .str ⟨#[c]⟩
  | _, _ => none
def cutD (xs : List D) (lo hi : Option Int) : List D := (xs.drop (HT.sIx xs.length 0 lo)).take (HT.sIx xs.length xs.length hi - HT.sIx xs.length 0 lo)
/-- x[lo:hi] -/
def slcD : D → Option Int → Option Int → (D → Prop) → Prop
  | .lst _ xs, lo, hi, Q => Q (.lst true (fzL (cutD xs lo hi)))
  | .str z, lo, hi, Q => z.length ≤ PySem.sizeLine ∧ Q (.str (L2.cutS z lo hi))
  | .tup xs, lo, hi, Q => (cutD xs lo hi).length ≠ xs.length ∧ Q (.tup (fzL (cutD xs lo hi)))
  | _, _, _, _ => False
def iterD : D → Option (List D)
  | .lst _ xs => some xs
  | .tup xs => some xs
  | .str z => some (z.cps.toList.map fun c => .str ⟨#[c]⟩)
  | _ => none
def rngD (lo : Int) (n : Nat) (c : Int) : List D := (List.range n).map fun k => .int (lo + (k : Nat) * c)
def intsD : List D → Option (List Int)
  | [] => some []
  | .int i :: xs => (intsD xs).map (i :: ·)
  | _ :: _ => none
def blsD : List D → Option (List Bool)
  | [] => some []
  | .bl i :: xs => (blsD xs).map (i :: ·)
  | _ :: _ => none
def prsD : List D → Option (List (Int × Int))
  | [] => some []
  | .tup [.int i, .int j] :: xs => (prsD xs).map ((i, j) :: ·)
  | _ :: _ => none
def prD (p : Int × Int) : D := .tup [.int p.1, .int p.2]
def lex3 (p q : Int × Int × Int) : Prop := p.1 < q.1 ∨ (p.1 = q.1 ∧ (p.2.1 < q.2.1 ∨ (p.2.1 = q.2.1 ∧ p.2.2 ≤ q.2.2)))
def trsD : List D → Option (List (Int × Int × Int))
  | [] => some []
  | .tup [.int i, .int j, .int k] :: xs => (trsD xs).map ((i, j, k) :: ·)
  | _ :: _ => none
def trD (p : Int × Int × Int) : D := .tup [.int p.1, .int p.2.1, .int p.2.2]
def lexLe (p q : Int × Int) : Prop := p.1 < q.1 ∨ (p.1 = q.1 ∧ p.2 ≤ q.2)
def seqD : D → Option (List D)
  | .lst _ xs => some xs
  | .tup xs => some xs
  | _ => none
def lstD : D → Option (List D)
  | .lst _ xs => some xs
  | _ => none
def biD : BI → List D → (D → Prop) → Prop
  | .len, [.lst _ xs], Q => Q (.int xs.length)
  | .len, [.tup xs], Q => Q (.int xs.length)
  | .len, [.str s], Q => s.length ≤ PySem.sizeLine ∧ Q (.int s.length)
  | .abs, [.int i], Q => Q (.int (if i < 0 then -i else i))
  | .min2, [.int i, .int j], Q => Q (.int (if j < i then j else i))
  | .max2, [.int i, .int j], Q => Q (.int (if j > i then j else i))
  | .min3, [.int i, .int j, .int k], Q => Q (.int (let m := if j < i then j else i; if k < m then k else m))
  | .max3, [.int i, .int j, .int k], Q => Q (.int (let m := if j > i then j else i; if k > m then k else m))
  | .minL, [.lst _ xs], Q => ∃ ns, intsD xs = some ns ∧ 0 < ns.length ∧ ∀ m, m ∈ ns → (∀ y, y ∈ ns → m ≤ y) → Q (.int m)
  | .maxL, [.lst _ xs], Q => ∃ ns, intsD xs = some ns ∧ 0 < ns.length ∧ ∀ m, m ∈ ns → (∀ y, y ∈ ns → y ≤ m) → Q (.int m)
  | .sum, [.lst _ xs], Q => ∃ ns, intsD xs = some ns ∧ Q (.int ns.sum)
  | .all, [.lst _ xs], Q => ∃ bs, blsD xs = some bs ∧ Q (.bl (bs.all id))
  | .any, [.lst _ xs], Q => ∃ bs, blsD xs = some bs ∧ Q (.bl (bs.any id))
  | .sorted, [.lst _ xs], Q => (∃ ns, intsD xs = some ns ∧ ∀ ns' : List Int, ns'.Perm ns → ns'.Pairwise (· ≤ ·) → Q (.lst true (ns'.map .int))) ∨
      (∃ ps, prsD xs = some ps ∧ ∀ ps' : List (Int × Int), ps'.Perm ps → ps'.Pairwise lexLe → Q (.lst true (ps'.map prD))) ∨
      (∃ ps, trsD xs = some ps ∧ ∀ ps' : List (Int × Int × Int), ps'.Perm ps → ps'.Pairwise lex3 → Q (.lst true (ps'.map trD)))
  | .list, [.lst _ xs], Q => isFzL xs = true ∧ Q (.lst true xs)
  | .list, [.tup xs], Q => isFzL xs = true ∧ Q (.lst true xs)
  | .tuple, [.lst _ xs], Q => isFzL xs = true ∧ Q (.tup xs)
  | .str, [.int i], Q => i.natAbs.log2 < 1920 ∧ Q (.str (toString i))
  | .str, [.str s], Q => Q (.str s)
  | .int, [.int i], Q => Q (.int i)
  | .int, [.bl b], Q => Q (.int (if b then 1 else 0))
  | .repr, [x], Q => x.py.showable = true ∧ x.py.depth ≤ 64 ∧ x.py.shown.length ≤ PySem.sizeLine ∧ Q (.str x.py.shown)
  | .bool, [.int i], Q => Q (.bl (i != 0))
  | .bool, [.bl b], Q => Q (.bl b)
  | _, _, _ => False
/-- the written builtin class t of a value -/
def isiD : D → String → Option Bool
  | .non, t => L2.kitB "NoneType" t
  | .bl _, t => L2.kitB "bool" t
  | .int _, t => L2.kitB "int" t
  | .str _, t => L2.kitB "str" t
  | .tup _, t => L2.kitB "tuple" t
  | .lst _ _, t => L2.kitB "list" t
  | .dct _ _ _, t => L2.kitB "dict" t
  | .exc _ _ _, _ => none
  | .ins _ _ _ _, _ => none

/-- x[k1]..[kn].append(d), in what is one's own -/
def appAt : List Nat → D → D → (D → Prop) → Prop
  | [], d, .lst true xs, Q => xs.length < PySem.sizeLine ∧ Q (.lst true (xs ++ [d]))
  | k :: ks, d, .lst true xs, Q => ∃ x, xs[k]? = some x ∧ appAt ks d x fun y => Q (.lst true (xs.set k y))
  | k :: ks, d, .tup xs, Q => ∃ x, xs[k]? = some x ∧ appAt ks d x fun y => Q (.tup (xs.set k y))
  | _, _, _, _ => False
/-- for y in xs: y[k1]..[kn].append(d) -/
def appAll (ks : List Nat) (d : D) : List D → (List D → Prop) → Prop
  | [], Q => Q []
  | x :: xs, Q => appAt ks d x fun y => appAll ks d xs fun ys => Q (y :: ys)
/-- for y in x[k1]..[kn]: y[..].append(d) -/
def eachAt : List Nat → List Nat → D → D → (D → Prop) → Prop
  | [], k2, d, .lst true xs, Q => appAll k2 d xs fun ys => Q (.lst true ys)
  | k :: ks, k2, d, .lst true xs, Q => ∃ x, xs[k]? = some x ∧ eachAt ks k2 d x fun y => Q (.lst true (xs.set k y))
  | k :: ks, k2, d, .tup xs, Q => ∃ x, xs[k]? = some x ∧ eachAt ks k2 d x fun y => Q (.tup (xs.set k y))
  | _, _, _, _, _ => False
/-- the first place of an equal item -/
def idxD (xs : List D) (y : D) (Q : Nat → Prop) : Prop := PySem.SeqAt.shaped (.list (pyL xs)) = true ∧ PySem.SeqAt.shaped y.py = true ∧ ∃ (j : Nat) (z : D), xs[j]? = some z ∧ PySem.PyData.eqv z.py y.py = true ∧ (∀ (m : Nat) (z' : D), m < j → xs[m]? = some z' → PySem.PyData.eqv z'.py y.py = false) ∧ Q j
def get (env : Env) (i : Nat) (Q : D → Prop) : Prop := match env[i]? with
  | some (some d) => Q d
  | _ => False
/-- a name that is only looked at -/
def bor (a : E) (w : KD → Prop) (env : Env) (Q : KD) : Prop := match a with
  | .var i => get env i fun d => Q d env
  | _ => w Q
def still (a : E) (x : D) (env : Env) : Prop := match a with
  | .var i => env[i]? = some (some x)
  | _ => True
def stills : Es → List D → Env → Prop
  | .cons a as, x :: xs, env => still a x env ∧ stills as xs env
  | .nil, [], _ => True
  | _, _, _ => False
/-- behind x[k]: the element is shared from now on -/
def shareAt (a : E) (x el : D) (env : Env) : Env := match a with
  | .var i => if el.isFz then env else env.set i (some x.fz)
  | _ => env
mutual
def setT (me : List Nat) : T → D → Env → (Env → Prop) → Prop
  | .nm i, d, env, Q => i ∉ me ∧ i < env.length ∧ Q (env.set i (some d))
  | .tp ts, .tup ds, env, Q => setTs me ts ds env Q
  | .tp ts, .lst _ ds, env, Q => setTs me ts ds env Q
  | .tp _, _, _, _ => False
def setTs (me : List Nat) : Ts → List D → Env → (Env → Prop) → Prop
  | .nil, [], env, Q => Q env
  | .cons t ts, d :: ds, env, Q => setT me t d env fun env' => setTs me ts ds env' Q
  | _, _, _, _ => False
end
def putAll : List Nat → List D → Env → Env
  | i :: is, d :: ds, env => putAll is ds (env.set i (some d))
  | _, _, env => env
def wipeE : List Nat → Env → Env
  | [], env => env
  | i :: is, env => (wipeE is env).set i none
/-- behind a comprehension: what its own names were, where nobody could change it -/
def backE (old : Env) : List Nat → Env → Env
  | [], env => env
  | i :: is, env => (backE old is env).set i (match old[i]? with
    | some (some d) => if d.isFz then some d else none
    | _ => none)
/-- where each parameter's value stands among the values by position, then those by keyword -/
def kwIx (ps ks : List String) (n : Nat) : Option (List Nat) := ((ps.drop n).mapM fun p => (ks.idxOf? p).map (n + ·)).map fun r => List.range n ++ r
def atAll {α : Type} (l : List α) (ix : List Nat) : List α := ix.filterMap fun j => l[j]?
mutual
def wpE (Γ : Sig) : E → Env → KD → KX → Prop
  | .var i, env, Q, _ => get env i fun d => Q d.fz (env.set i (some d.fz))
  | .mov i, env, Q, _ => i ∉ Γ.me ∧ get env i fun d => Q d (env.set i none)
  | .con d, env, Q, _ => Q d env
  | .glo _ d, env, Q, _ => Q d env
  | .bin o a b, env, Q, R => wpE Γ a env (fun x env1 => wpE Γ b env1 (fun y env2 => binD o x y fun d => Q d env2) R) R
  | .neg a, env, Q, R => wpE Γ a env (fun x env1 => ∃ i, x = .int i ∧ Q (.int (-i)) env1) R
  | .nt a, env, Q, R => wpE Γ a env (fun x env1 => truD x fun c => Q (.bl (!c)) env1) R
  | .bo k as, env, Q, R => wpBo Γ k as env Q R
  | .cmp o a b, env, Q, R => bor a (fun Q' => wpE Γ a env Q' R) env fun x env1 => bor b (fun Q' => wpE Γ b env1 Q' R) env1 fun y env2 => still a x env2 ∧ cmpD o x y fun c => Q (.bl c) env2
  | .chn o p a b c, env, Q, R => wpE Γ a env (fun x env1 => wpE Γ b env1 (fun y env2 => cmpD o x y fun k => if k = true then wpE Γ c env2 (fun z env3 => cmpD p y z fun k' => Q (.bl k') env3) R else Q (.bl false) env2) R) R
  | .chn3 o p q a b c d, env, Q, R => wpE Γ a env (fun x env1 => wpE Γ b env1 (fun y env2 => cmpD o x y fun k => if k = true then wpE Γ c env2 (fun z env3 => cmpD p y z fun k' => if k' = true then wpE Γ d env3 (fun u env4 => cmpD q z u fun k2 => Q (.bl k2) env4) R else Q (.bl false) env3) R else Q (.bl false) env2) R) R
  | .chn4 o p q q2 a b c d f, env, Q, R => wpE Γ a env (fun x env1 => wpE Γ b env1 (fun y env2 => cmpD o x y fun k => if k = true then wpE Γ c env2 (fun z env3 => cmpD p y z fun k' => if k' = true then wpE Γ d env3 (fun u env4 => cmpD q z u fun k2 => if k2 = true then wpE Γ f env4 (fun v env5 => cmpD q2 u v fun k3 => Q (.bl k3) env5) R else Q (.bl false) env4) R else Q (.bl false) env3) R else Q (.bl false) env2) R) R
  | .sset a, env, Q, R => wpE Γ a env (fun d env1 => ∃ xs ns, lstD d = some xs ∧ intsD xs = some ns ∧ ns.length ≤ 4000 ∧ ∀ ms : List Int, ms.Pairwise (· < ·) → (∀ k, k ∈ ms ↔ k ∈ ns) → Q (.lst true (ms.map .int)) env1) R
  | .lset a, env, Q, R => wpE Γ a env (fun d env1 => ∃ xs ns, lstD d = some xs ∧ intsD xs = some ns ∧ ns.length ≤ 4000 ∧ ∀ ds : List Int, ds.Nodup → (∀ k, k ∈ ds ↔ k ∈ ns) → Q (.int (ds.length : Nat)) env1) R
  | .ife c a b, env, Q, R => wpT Γ c env (fun k env1 => if k = true then wpE Γ a env1 Q R else wpE Γ b env1 Q R) R
  | .call f as, env, Q, R => wpA Γ as (Γ.ios f) env (fun ds tk env1 => Γ.sp f ds (fun r outs => outs.length = tk.length ∧ Q r (putAll tk outs env1)) fun x => R x env1) R
  | .calk f as ks bs, env, Q, R => wpEs Γ as env (fun ds env1 => wpEs Γ bs env1 (fun es env2 => (Γ.ios f).all (! ·) = true ∧ ∃ ix, kwIx (Γ.ps f) ks ds.length = some ix ∧ Γ.sp f (atAll (fzL (ds ++ es)) ix) (fun r outs => outs = [] ∧ Q r env2) fun x => R x env2) R) R
  | .bi b as, env, Q, R => wpBs Γ as env (fun ds env1 => stills as ds env1 ∧ biD b ds fun d => Q d env1) R
  | .isi a t, env, Q, R => bor a (fun Q' => wpE Γ a env Q' R) env fun x env1 => ∃ b, isiD x t = some b ∧ Q (.bl b) env1
  | .sub a i, env, Q, R => bor a (fun Q' => wpE Γ a env Q' R) env fun x env1 => wpE Γ i env1 (fun k env2 => still a x env2 ∧ szD x ∧ (∃ n, k = .int n) ∧ ∃ el, subD x k = some el ∧ Q el.fz (shareAt a x el env2)) R
  | .slc a lo hi, env, Q, R => wpE Γ a env (fun x env1 => wpO Γ lo env1 (fun l env2 => wpO Γ hi env2 (fun h env3 => slcD x l h fun d => Q d env3) R) R) R
  | .tup as, env, Q, R => wpEs Γ as env (fun ds env1 => ds.length ≤ PySem.sizeLine ∧ Q (.tup ds) env1) R
  | .lst as, env, Q, R => wpEs Γ as env (fun ds env1 => ds.length ≤ PySem.sizeLine ∧ Q (.lst true ds) env1) R
  | .dsp fl as, env, Q, R => wpDs Γ as fl env (fun ds env1 => ds.length ≤ PySem.sizeLine ∧ Q (.lst true ds) env1) R
  | .idx i b, env, Q, R => get env i fun x => ∃ xs, lstD x.fz = some xs ∧ wpE Γ b (env.set i (some x.fz)) (fun y env1 => idxD xs y fun j => Q (.int (j : Nat)) env1) R
  | .peek a, env, Q, R => wpE Γ a (fzE env) (fun d _ => flatD d = true ∧ Q d env) R
  | .lzip a b, env, Q, R => wpE Γ a env (fun d env1 => wpE Γ b env1 (fun e env2 => ∃ xs ys, lstD d = some xs ∧ lstD e = some ys ∧ xs.length = ys.length ∧ Q (.lst true ((fzL xs).zipWith (fun x y => .tup [x, y]) (fzL ys))) env2) R) R
  | .ice a, env, Q, R => wpE Γ a env (fun d env1 => Q d.fz env1) R
  | .rvl a, env, Q, R => wpE Γ a env (fun d env1 => ∃ xs, lstD d = some xs ∧ Q (.lst true (fzL xs).reverse) env1) R
  | .isc a ks, env, Q, R => bor a (fun Q' => wpE Γ a env Q' R) env fun x env1 => ∃ b, isxD x ks = some b ∧ Q (.bl b) env1
  | .att a f, env, Q, R => bor a (fun Q' => wpE Γ a env Q' R) env fun x env1 => ∃ el, attD x f = some el ∧ Q el.fz env1
  | .dnw, env, Q, _ => Q (.dct true [] []) env
  | .lrg a b, env, Q, R => wpE Γ a env (fun d env1 => wpE Γ b env1 (fun e env2 => ∃ i j, d = .int i ∧ e = .int j ∧ (-(2 ^ 62) ≤ i ∧ i < 2 ^ 62 ∧ -(2 ^ 62) ≤ j ∧ j < 2 ^ 62) ∧ (j - i).toNat ≤ PySem.sizeLine ∧ Q (.lst true (rngD i (j - i).toNat 1)) env2) R) R
  | .rpr k as, env, Q, R => wpBs Γ as env (fun ds env1 => stills as ds env1 ∧ ds.length ≤ PySem.sizeLine ∧ biD .repr [if k = true then .tup ds else .lst true ds] fun d => Q d env1) R
  | .lc elt t it ifs own, env, Q, R => wpI Γ it env (fun items env1 =>
      (items.foldr (fun x k acc e => setT [] t x e fun e2 => wpTs Γ ifs e2 (fun b e3 => if b = true then wpE Γ elt e3 (fun d e4 => acc.length < PySem.sizeLine ∧ k (acc ++ [d]) (wipeE own e4)) (fun _ _ => False) else k acc (wipeE own e3)) (fun _ _ => False))
        (fun acc e => Q (.lst true acc) (backE env1 own e))) [] (wipeE own env1)) R
def wpEs (Γ : Sig) : Es → Env → (List D → Env → Prop) → KX → Prop
  | .nil, env, Q, _ => Q [] env
  | .cons a as, env, Q, R => wpE Γ a env (fun d env1 => wpEs Γ as env1 (fun ds env2 => Q (d :: ds) env2) R) R
def wpDs (Γ : Sig) : Es → List Bool → Env → (List D → Env → Prop) → KX → Prop
  | .nil, _, env, Q, _ => Q [] env
  | .cons a as, true :: bs, env, Q, R => wpE Γ a env (fun d env1 => ∃ xs, seqD d = some xs ∧ wpDs Γ as bs env1 (fun ds env2 => Q (fzL xs ++ ds) env2) R) R
  | .cons a as, false :: bs, env, Q, R => wpE Γ a env (fun d env1 => wpDs Γ as bs env1 (fun ds env2 => Q (d :: ds) env2) R) R
  | .cons a as, [], env, Q, R => wpE Γ a env (fun d env1 => wpDs Γ as [] env1 (fun ds env2 => Q (d :: ds) env2) R) R
def wpBs (Γ : Sig) : Es → Env → (List D → Env → Prop) → KX → Prop
  | .nil, env, Q, _ => Q [] env
  | .cons a as, env, Q, R => bor a (fun Q' => wpE Γ a env Q' R) env fun d env1 => wpBs Γ as env1 (fun ds env2 => Q (d :: ds) env2) R
def wpA (Γ : Sig) : Es → List Bool → Env → (List D → List Nat → Env → Prop) → KX → Prop
  | .nil, _, env, Q, _ => Q [] [] env
  | .cons (.var i) as, true :: bs, env, Q, R => get env i fun _ => wpA Γ as bs env (fun ds tk env2 => get env2 i fun d => Q (d :: ds) (i :: tk) (env2.set i none)) R
  | .cons a as, true :: bs, env, Q, R => wpE Γ a env (fun d env1 => wpA Γ as bs env1 (fun ds tk env2 => Q (d :: ds) (env2.length :: tk) env2) R) R
  | .cons a as, false :: bs, env, Q, R => wpE Γ a env (fun d env1 => wpA Γ as bs env1 (fun ds tk env2 => Q (d.fz :: ds) tk env2) R) R
  | .cons a as, [], env, Q, R => wpE Γ a env (fun d env1 => wpA Γ as [] env1 (fun ds tk env2 => Q (d.fz :: ds) tk env2) R) R
def wpO (Γ : Sig) : Eo → Env → (Option Int → Env → Prop) → KX → Prop
  | .no, env, Q, _ => Q none env
  | .yes a, env, Q, R => wpE Γ a env (fun d env1 => ∃ i, d = .int i ∧ Q (some i) env1) R
def wpBo (Γ : Sig) (k : Bool) : Es → Env → KD → KX → Prop
  | .nil, _, _, _ => False
  | .cons a .nil, env, Q, R => wpE Γ a env Q R
  | .cons a as, env, Q, R => wpE Γ a env (fun x env1 => truD x fun c => if c = k then wpBo Γ k as env1 Q R else Q x env1) R
/-- a test -/
def wpT (Γ : Sig) : E → Env → (Bool → Env → Prop) → KX → Prop
  | .nt a, env, Q, R => wpT Γ a env (fun c env1 => Q (!c) env1) R
  | .bo k as, env, Q, R => wpTo Γ k as env Q R
  | .cmp o a b, env, Q, R => bor a (fun Q' => wpE Γ a env Q' R) env fun x env1 => bor b (fun Q' => wpE Γ b env1 Q' R) env1 fun y env2 => still a x env2 ∧ cmpD o x y fun c => Q c env2
  | .chn o p a b c, env, Q, R => wpE Γ a env (fun x env1 => wpE Γ b env1 (fun y env2 => cmpD o x y fun k => if k = true then wpE Γ c env2 (fun z env3 => cmpD p y z fun k' => Q k' env3) R else Q false env2) R) R
  | .chn3 o p q a b c d, env, Q, R => wpE Γ a env (fun x env1 => wpE Γ b env1 (fun y env2 => cmpD o x y fun k => if k = true then wpE Γ c env2 (fun z env3 => cmpD p y z fun k' => if k' = true then wpE Γ d env3 (fun u env4 => cmpD q z u fun k2 => Q k2 env4) R else Q false env3) R else Q false env2) R) R
  | .chn4 o p q q2 a b c d f, env, Q, R => wpE Γ a env (fun x env1 => wpE Γ b env1 (fun y env2 => cmpD o x y fun k => if k = true then wpE Γ c env2 (fun z env3 => cmpD p y z fun k' => if k' = true then wpE Γ d env3 (fun u env4 => cmpD q z u fun k2 => if k2 = true then wpE Γ f env4 (fun v env5 => cmpD q2 u v fun k3 => Q k3 env5) R else Q false env4) R else Q false env3) R else Q false env2) R) R
  | .isi a t, env, Q, R => bor a (fun Q' => wpE Γ a env Q' R) env fun x env1 => ∃ b, isiD x t = some b ∧ Q b env1
  | .isc a ks, env, Q, R => bor a (fun Q' => wpE Γ a env Q' R) env fun x env1 => ∃ b, isxD x ks = some b ∧ Q b env1
  | .call f as, env, Q, R => wpA Γ as (Γ.ios f) env (fun ds tk env1 => Γ.sp f ds (fun r outs => outs.length = tk.length ∧ truD r fun b => Q b (putAll tk outs env1)) fun x => R x env1) R
  | .var i, env, Q, _ => get env i fun d => truD d fun b => Q b env
  | .peek a, env, Q, R => wpT Γ a (fzE env) (fun b _ => Q b env) R
  | .bi b as, env, Q, R => wpBs Γ as env (fun ds env1 => stills as ds env1 ∧ biD b ds fun d => truD d fun k => Q k env1) R
  | _, _, _, _ => False
def wpTo (Γ : Sig) (k : Bool) : Es → Env → (Bool → Env → Prop) → KX → Prop
  | .nil, _, _, _ => False
  | .cons a .nil, env, Q, R => wpT Γ a env Q R
  | .cons a as, env, Q, R => wpT Γ a env (fun c env1 => if c = k then wpTo Γ k as env1 Q R else Q (!k) env1) R
def wpTs (Γ : Sig) : Es → Env → (Bool → Env → Prop) → KX → Prop
  | .nil, env, Q, _ => Q true env
  | .cons a .nil, env, Q, R => wpT Γ a env Q R
  | .cons _ _, _, _, _ => False
def wpI (Γ : Sig) : I → Env → (List D → Env → Prop) → KX → Prop
  | .ex a, env, Q, R => wpE Γ a env (fun d env1 => ∃ xs, iterD d = some xs ∧ Q (fzL xs) env1) R
  | .rng1 a, env, Q, R => wpE Γ a env (fun d env1 => ∃ n, d = .int n ∧ -(2 ^ 62) ≤ n ∧ n < 2 ^ 62 ∧ Q (rngD 0 n.toNat 1) env1) R
  | .rng2 a b, env, Q, R => wpE Γ a env (fun d env1 => wpE Γ b env1 (fun e env2 => ∃ i j, d = .int i ∧ e = .int j ∧ (-(2 ^ 62) ≤ i ∧ i < 2 ^ 62 ∧ -(2 ^ 62) ≤ j ∧ j < 2 ^ 62) ∧ Q (rngD i (j - i).toNat 1) env2) R) R
  | .rng3 a b c, env, Q, R => wpE Γ a env (fun d env1 => wpE Γ b env1 (fun e env2 => wpE Γ c env2 (fun f env3 => ∃ i j s n, d = .int i ∧ e = .int j ∧ f = .int s ∧ L2.RgC i j s n ∧ Q (rngD i n s) env3) R) R) R
  | .zip2 a b, env, Q, R => wpE Γ a env (fun d env1 => wpE Γ b env1 (fun e env2 => ∃ xs ys, lstD d = some xs ∧ lstD e = some ys ∧ Q ((fzL xs).zipWith (fun x y => .tup [x, y]) (fzL ys)) env2) R) R
  | .zip3 a b c, env, Q, R => wpE Γ a env (fun d env1 => wpE Γ b env1 (fun e env2 => wpE Γ c env2 (fun f env3 => ∃ xs ys zs, lstD d = some xs ∧ lstD e = some ys ∧ lstD f = some zs ∧ Q ((((fzL xs).zip (fzL ys)).zip (fzL zs)).map fun p => .tup [p.1.1, p.1.2, p.2]) env3) R) R) R
  | .enum a, env, Q, R => wpE Γ a env (fun d env1 => ∃ xs, lstD d = some xs ∧ Q ((fzL xs).zipIdx.map fun p => .tup [.int p.2, p.1]) env1) R
  | .rev a, env, Q, R => wpE Γ a env (fun d env1 => ∃ xs, lstD d = some xs ∧ Q (fzL xs).reverse env1) R
  | .enk k a, env, Q, R => wpE Γ a env (fun d env1 => ∃ xs, lstD d = some xs ∧ Q ((fzL xs).zipIdx.map fun p => .tup [.int (k + (p.2 : Nat)), p.1]) env1) R
end

structure Con where
  nx : Env → Prop
  rt : D → Env → Prop
  bk : Env → Prop
  ct : Env → Prop
  ex : Exc → Env → Prop

mutual
def wpS (Γ : Sig) : S → Env → Con → Prop
  | .nev, _, _ => False
  | .asg t e, env, K => wpE Γ e env (fun d env1 => setT Γ.me t d env1 K.nx) K.ex
  | .par is es, env, K => wpEs Γ es env (fun ds env1 => ds.length = is.length ∧ is.all (fun i => decide (i ∉ Γ.me ∧ i < env1.length)) = true ∧ K.nx (putAll is ds env1)) K.ex
  | .pst i ix e, env, K => wpE Γ e env (fun d env1 => get env1 i fun _ => wpE Γ ix env1 (fun k env2 => get env2 i fun x => ∃ xs n j, x = .lst true xs ∧ k = .int n ∧ L2.ixN xs.length n = some j ∧ K.nx (env2.set i (some (.lst true (xs.set j d))))) K.ex) K.ex
  | .aug i o e, env, K => get env i fun x => flatD x = true ∧ i ∉ Γ.me ∧ wpE Γ e env (fun d env1 => augD o x d fun r => K.nx (env1.set i (some r))) K.ex
  | .pag i ix o e, env, K => get env i fun _ => wpE Γ ix env (fun k env1 => get env1 i fun x => ∃ xs n el, x = .lst true xs ∧ k = .int n ∧ L2.atI xs n = some el ∧ flatD el = true ∧ wpE Γ e env1 (fun d env2 => augD o el d fun r => get env2 i fun y => ∃ ys j, y = .lst true ys ∧ L2.ixN ys.length n = some j ∧ K.nx (env2.set i (some (.lst true (ys.set j r))))) K.ex) K.ex
  | .app i e, env, K => get env i fun x => (∃ xs, x = .lst true xs) ∧ wpE Γ e env (fun d env1 => get env1 i fun y => ∃ ys, y = .lst true ys ∧ ys.length < PySem.sizeLine ∧ K.nx (env1.set i (some (.lst true (ys ++ [d]))))) K.ex
  | .pat i ks d d2, env, K => get env i fun x => (flatD d = true ∧ flatD d2 = true) ∧ appAt ks (.tup [d, d2]) x fun y => K.nx (env.set i (some y))
  | .pap i ks d, env, K => get env i fun x => flatD d = true ∧ appAt ks d x fun y => K.nx (env.set i (some y))
  | .fpa j i ks k2 d, env, K => get env i fun x => flatD d = true ∧ j ≠ i ∧ j ∉ Γ.me ∧ j < env.length ∧ eachAt ks k2 d x fun y => K.nx ((env.set i (some y)).set j none)
  | .ins i e, env, K => get env i fun x => (∃ xs, x = .lst true xs) ∧ wpE Γ e env (fun d env1 => get env1 i fun y => ∃ ys, y = .lst true ys ∧ ys.length < PySem.sizeLine ∧ K.nx (env1.set i (some (.lst true (d :: ys))))) K.ex
  | .ext i e, env, K => get env i fun x => (∃ xs, x = .lst true xs) ∧ wpE Γ e env (fun d env1 => ∃ zs, d = .lst true zs ∧ get env1 i fun y => ∃ ys, y = .lst true ys ∧ ys.length + zs.length ≤ PySem.sizeLine ∧ K.nx (env1.set i (some (.lst true (ys ++ zs))))) K.ex
  | .psa i ix e j e2, env, K => wpE Γ e env (fun d env1 => wpE Γ e2 env1 (fun d2 env2 => d.isFz = true ∧ d2.isFz = true ∧ get env2 i fun _ => wpE Γ ix env2 (fun k env3 => get env3 i fun x => ∃ xs n m, x = .lst true xs ∧ k = .int n ∧ L2.ixN xs.length n = some m ∧ j ∉ Γ.me ∧ j < env3.length ∧ K.nx ((env3.set i (some (.lst true (xs.set m d)))).set j (some d2))) K.ex) K.ex) K.ex
  | .exp e, env, K => wpE Γ e env (fun _ env1 => K.nx env1) K.ex
  | .ite c a b, env, K => wpT Γ c env (fun k env1 => if k = true then wpSs Γ a env1 K else wpSs Γ b env1 K) K.ex
  | .for_ t it b, env, K => wpI Γ it env (fun items env1 =>
      (items.foldr (fun x k e => setT Γ.me t x e fun e2 => wpSs Γ b e2 { K with nx := k, ct := k, bk := K.nx }) K.nx) env1) K.ex
  | .whl c b, env, K => ∃ W : Nat → Env → Prop, (∃ m, W m env) ∧ ∀ m e, W m e → wpT Γ c e (fun k e1 => if k = true then wpSs Γ b e1 { K with nx := fun e2 => ∃ m', m' < m ∧ W m' e2, ct := fun e2 => ∃ m', m' < m ∧ W m' e2, bk := K.nx } else K.nx e1) K.ex
  | .ret e, env, K => wpE Γ e env K.rt K.ex
  | .rtn, env, K => K.rt .non env
  | .brk, env, K => K.bk env
  | .cnt, env, K => K.ct env
  | .pas, env, K => K.nx env
  | .rs0 c e, env, K => wpE Γ e env (fun _ env1 => K.ex ⟨c, [], []⟩ env1) K.ex
  | .rs1 c f e, env, K => wpE Γ e env (fun d env1 => K.ex ⟨c, [f], [d.fz]⟩ env1) K.ex
  | .try_ b hs, env, K => wpSs Γ b env { K with ex := fun x env1 => wpHs Γ hs x env1 K }
def wpSs (Γ : Sig) : Ss → Env → Con → Prop
  | .nil, env, K => K.nx env
  | .cons a as, env, K => wpS Γ a env { K with nx := fun e => wpSs Γ as e K }
/-- the except clauses, one after the other -/
def wpHs (Γ : Sig) : Hs → Exc → Env → Con → Prop
  | .nil, x, env, K => K.ex x env
  | .cons c nm b hs, x, env, K => ∃ k, subX x.cls c = some k ∧ if k = true then (match nm with
      | none => wpSs Γ b env { K with ex := fun _ _ => False }
      | some i => i ∉ Γ.me ∧ i < env.length ∧ wpSs Γ b (env.set i (some (.exc x.cls x.fs x.xs))) { nx := fun e => K.nx (e.set i none), rt := K.rt, bk := fun e => K.bk (e.set i none), ct := fun e => K.ct (e.set i none), ex := fun _ _ => False })
    else wpHs Γ hs x env K
end

/-- a def: its parameters, how many other local names, its body -/
structure FD where
  ps : List String
  loc : List String
  body : Ss
def outsOf (env : Env) : List Nat → Option (List D)
  | [] => some []
  | i :: is => match env[i]? with
    | some (some d) => (outsOf env is).map (d :: ·)
    | _ => none
def startE (f : FD) (ds : List D) : Env := ds.map some ++ f.loc.map fun _ => none
def meOf (l : List Bool) : List Nat := (l.zipIdx.filter (·.1)).map (·.2)
def wpF (Γ : Sig) (f : FD) (ds : List D) (Q : D → List D → Prop) (R : Exc → Prop) : Prop :=
  wpSs Γ f.body (startE f ds) { nx := fun env => ∃ o, outsOf env Γ.me = some o ∧ Q .non o, rt := fun d env => ∃ o, outsOf env Γ.me = some o ∧ Q d o, bk := fun _ => False, ct := fun _ => False, ex := fun x _ => R x }
end DP

/-! DpB: the kit's syntax against ours: chk. -/
namespace DP
open PySem (Str Scope NameKind Expr Stmt)

/-- where one stands: the names by slot, the scope that runs, the scope whose own names may be stored, the module's constants -/
structure SC where
  N : List Str
  sc : Scope
  st : Scope
  gl : List (String × D)
  kws : List (String × Nat × List String)
  fns : List (String × Nat)
  /-- within an except clause -/
  hot : Bool
  /-- the classes that are known -/
  cls : List String

def seen (c : SC) (i : Nat) (x : Str) : Bool := decide (c.N[i]? = some x) && (match c.sc.names.lookup x with
  | some .local => true | some .cell => true | some .free => true | _ => false) && !(x == ("__debug__" : Str)) && !(x == ("__classdict__" : Str))
def mine (c : SC) (i : Nat) (x : Str) : Bool := decide (c.N[i]? = some x) && (match c.st.names.lookup x with
  | some .local => true | some .cell => true | _ => false)
def glob (c : SC) (x : Str) : Bool := (match c.sc.names.lookup x with | some .globalImplicit => true | _ => false) && !(x == ("__debug__" : Str))
def atomEq : D → D → Bool
  | .int i, .int j => decide (i = j)
  | .str s, .str t => decide (s = t)
  | _, _ => false
def conD : D → PySem.Const → Bool
  | .non, .none => true
  | .bl b, .bool c => b == c
  | .int i, .int j => decide (i = j)
  | .str s, .str t => decide (s = t)
  | _, _ => false
def opOf : Op → PySem.Operator
  | .add => .Add | .sub => .Sub | .mul => .Mult | .fdiv => .FloorDiv | .mod => .Mod | .pow => .Pow | .shl => .LShift | .shr => .RShift | .band => .BitAnd
def cmpOf : CO → PySem.CmpOp
  | .eq => .Eq | .ne => .NotEq | .lt => .Lt | .le => .LtE | .gt => .Gt | .ge => .GtE | .isin => .In | .nin => .NotIn | .is_ => .Is | .isnt => .IsNot | .eqn => .Eq
def boOf (k : Bool) : PySem.BoolOp := if k then .And else .Or
def BI.name : BI → String
  | .len => "len" | .abs => "abs" | .min2 => "min" | .max2 => "max" | .min3 => "min" | .max3 => "max" | .minL => "min" | .maxL => "max" | .sum => "sum" | .all => "all" | .any => "any"
  | .sorted => "sorted" | .list => "list" | .tuple => "tuple" | .str => "str" | .int => "int" | .repr => "repr" | .bool => "bool"
def tyNames : List String := ["int", "bool", "str", "list", "tuple", "dict"]
/-- built-in functions that walk nothing -/
def hotB : BI → Bool
  | .len => true | .abs => true | .str => true | .int => true | .repr => true | .bool => true | _ => false
def clsN (c : SC) (k : String) (y : Str) : Bool := decide (y = PySem.Str.ofString k) && glob c y && (c.cls.contains k || k == "ValueError")
def clsNs (c : SC) : List String → List Expr → Bool
  | [], [] => true
  | k :: ks, .Name y _ :: ys => clsN c k y && clsNs c ks ys
  | _, _ => false
def noSet : Expr → Bool
  | .Set _ _ _ => false
  | _ => true
def needTup : I → Bool
  | .zip2 _ _ => true
  | .zip3 _ _ _ => true
  | .enum _ => true
  | .enk _ _ => true
  | _ => false
def notSS : Expr → Bool
  | .Compare .. => true
  | .BoolOp .. => true
  | .UnaryOp .. => true
  | .Call .. => true
  | .Name .. => true
  | .Constant .. => true
  | _ => false
def isTupE : Expr → Bool
  | .Tuple _ _ _ => true
  | _ => false
def ownP (c : SC) (own : List Nat) : List (Str × Nat) := own.map fun i => ((c.N[i]?).getD PySem.Str.empty, i)
def inner (c : SC) (scope : Scope) : SC := { N := c.N, sc := L2.relS scope c.sc, st := scope, gl := c.gl, kws := c.kws, fns := c.fns, hot := c.hot, cls := c.cls }

mutual
def chkE (c : SC) : E → Expr → Bool
  | .var i, .Name x _ => seen c i x
  | .mov i, .Name x _ => seen c i x
  | .con d, .Constant k _ _ => conD d k
  | .glo x d, .Name y _ => decide (y = PySem.Str.ofString x) && glob c y && c.gl.any fun p => p.1 == x && atomEq p.2 d
  | .bin o a b, .BinOp a' o' b' _ => decide (o' = opOf o) && chkE c a a' && chkE c b b'
  | .neg a, .UnaryOp .USub a' _ => chkE c a a'
  | .nt a, .UnaryOp .Not a' _ => chkE c a a'
  | .bo k as, .BoolOp o as' _ => decide (o = boOf k) && chkEs c as as'
  | .cmp o a b, .Compare a' [o'] [b'] _ => decide (o' = cmpOf o) && chkE c a a' && chkE c b b' && noSet b'
  | .chn o p a b d, .Compare a' [o', p'] [b', d'] _ => decide (o' = cmpOf o) && decide (p' = cmpOf p) && chkE c a a' && chkE c b b' && chkE c d d' && noSet b' && noSet d'
  | .chn3 o p q a b d e, .Compare a' [o', p', q'] [b', d', e'] _ => decide (o' = cmpOf o) && decide (p' = cmpOf p) && decide (q' = cmpOf q) && chkE c a a' && chkE c b b' && chkE c d d' && chkE c e e' && noSet e'
  | .chn4 o p q q2 a b d e f, .Compare a' [o', p', q', r'] [b', d', e', f'] _ => decide (o' = cmpOf o) && decide (p' = cmpOf p) && decide (q' = cmpOf q) && decide (r' = cmpOf q2) && chkE c a a' && chkE c b b' && chkE c d d' && chkE c e e' && chkE c f f' && noSet f'
  | .sset a, .Call (.Name x _) [.Call (.Name y _) [a'] [] _] [] _ => decide (x = PySem.Str.ofString "sorted") && glob c x && decide (y = PySem.Str.ofString "set") && glob c y && chkE c a a' && !c.hot
  | .lset a, .Call (.Name x _) [.Call (.Name y _) [a'] [] _] [] _ => decide (x = PySem.Str.ofString "len") && glob c x && decide (y = PySem.Str.ofString "set") && glob c y && chkE c a a' && !c.hot
  | .ife d a b, .IfExp d' a' b' _ => chkE c d d' && chkE c a a' && chkE c b b'
  | .call f as, .Call (.Name x _) as' [] _ => decide (x = PySem.Str.ofString f) && glob c x && chkEs c as as' && c.fns.contains (f, as'.length) && !c.hot
  | .calk f as ks bs, .Call (.Name x _) as' ks' _ => decide (x = PySem.Str.ofString f) && glob c x && chkEs c as as' && chkK c ks bs ks' && c.kws.contains (f, as'.length, ks) && !c.hot
  | .bi b as, .Call (.Name x _) as' [] _ => decide (x = PySem.Str.ofString b.name) && glob c x && chkEs c as as' && (!c.hot || hotB b)
  | .rpr true as, .Call (.Name x _) [.Tuple as' _ _] [] _ => decide (x = PySem.Str.ofString "repr") && glob c x && chkEs c as as'
  | .rpr false as, .Call (.Name x _) [.List as' _] [] _ => decide (x = PySem.Str.ofString "repr") && glob c x && chkEs c as as'
  | .isi a t, .Call (.Name x _) [a', .Name y _] [] _ => decide (x = PySem.Str.ofString "isinstance") && glob c x && chkE c a a' && decide (y = PySem.Str.ofString t) && glob c y && tyNames.contains t
  | .isc a ks, .Call (.Name x _) [a', .Tuple ys _ _] [] _ => decide (x = PySem.Str.ofString "isinstance") && glob c x && chkE c a a' && clsNs c ks ys && decide (ks.length ≤ 100)
  | .isc a [k], .Call (.Name x _) [a', .Name y _] [] _ => decide (x = PySem.Str.ofString "isinstance") && glob c x && chkE c a a' && clsN c k y
  | .att (.var i) f, .Attribute (.Name x _) f' _ => decide (f' = PySem.Str.ofString f) && seen c i x && (f == "index" || f == "word")
  | .dnw, .Dict [] [] _ => true
  | .lrg a b, .Call (.Name x _) [.Call (.Name y _) [a', b'] [] _] [] _ => decide (x = PySem.Str.ofString "list") && glob c x && decide (y = PySem.Str.ofString "range") && glob c y && chkE c a a' && chkE c b b' && !c.hot
  | .sub a i, .Subscript a' i' _ => chkE c a a' && chkE c i i'
  | .slc a lo hi, .Subscript a' (.Slice lo' hi' .none _) _ => chkE c a a' && chkO c lo lo' && chkO c hi hi'
  | .tup as, .Tuple as' _ _ => chkEs c as as'
  | .lst as, .List as' _ => chkEs c as as'
  | .dsp fl as, .List as' _ => chkDs c fl as as'
  | .lzip a b, .Call (.Name x _) [.Call (.Name y _) [a', b'] [] _] [] _ => decide (x = PySem.Str.ofString "list") && glob c x && decide (y = PySem.Str.ofString "zip") && glob c y && chkE c a a' && chkE c b b' && !c.hot
  | .ice a, .ListComp el gs sc p => chkE c a (.ListComp el gs sc p)
  | .ice a, .BinOp x o y p => chkE c a (.BinOp x o y p)
  | .ice a, .Call f as ks p => chkE c a (.Call f as ks p)
  | .ice a, .List as p => chkE c a (.List as p)
  | .rvl a, .Subscript a' (.Slice none none (some (.UnaryOp .USub (.Constant (.int 1) _ _) _)) _) _ => chkE c a a'
  | .peek a, e => chkE c a e && notSS e
  | .idx i b, .Call (.Attribute (.Name x _) m ap) [b'] [] cp => seen c i x && decide (m = PySem.Str.ofString "index") && chkE c b b' && (ap.endLine == cp.line)
  | .lc elt t it ifs own, .ListComp elt' [⟨t', it', ifs', 0⟩] scope _ => chkI c it it' && noSet it' && (!needTup it || isTupE t') && L2.blkC c.N c.sc scope (ownP c own) && chkT (inner c scope) t t' && chkEs (inner c scope) ifs ifs' && chkE (inner c scope) elt elt' && tin own t && !c.hot
  | _, _ => false
def chkEs (c : SC) : Es → List Expr → Bool
  | .nil, [] => true
  | .cons a as, a' :: as' => chkE c a a' && chkEs c as as'
  | _, _ => false
def chkDs (c : SC) : List Bool → Es → List Expr → Bool
  | _, .nil, [] => true
  | true :: fl, .cons a as, .Starred a' _ :: as' => chkE c a a' && chkDs c fl as as'
  | false :: fl, .cons a as, a' :: as' => chkE c a a' && chkDs c fl as as'
  | [], .cons a as, a' :: as' => chkE c a a' && chkDs c [] as as'
  | _, _, _ => false
def chkO (c : SC) : Eo → Option Expr → Bool
  | .no, none => true
  | .yes a, some a' => chkE c a a'
  | _, _ => false
def chkK (c : SC) : List String → Es → List PySem.Keyword → Bool
  | [], .nil, [] => true
  | k :: ks, .cons a as, ⟨some k', a', _⟩ :: as' => decide (k' = PySem.Str.ofString k) && chkE c a a' && chkK c ks as as'
  | _, _, _ => false
def chkT (c : SC) : T → Expr → Bool
  | .nm i, .Name x _ => mine c i x
  | .tp ts, .Tuple ts' _ _ => chkTs c ts ts' && !c.hot
  | _, _ => false
def chkTs (c : SC) : Ts → List Expr → Bool
  | .nil, [] => true
  | .cons t ts, t' :: ts' => chkT c t t' && chkTs c ts ts'
  | _, _ => false
def chkI (c : SC) : I → Expr → Bool
  | .ex a, e => chkE c a e
  | .rng1 a, .Call (.Name x _) [a'] [] _ => decide (x = PySem.Str.ofString "range") && glob c x && chkE c a a'
  | .rng2 a b, .Call (.Name x _) [a', b'] [] _ => decide (x = PySem.Str.ofString "range") && glob c x && chkE c a a' && chkE c b b'
  | .rng3 a b d, .Call (.Name x _) [a', b', d'] [] _ => decide (x = PySem.Str.ofString "range") && glob c x && chkE c a a' && chkE c b b' && chkE c d d'
  | .zip2 a b, .Call (.Name x _) [a', b'] [] _ => decide (x = PySem.Str.ofString "zip") && glob c x && chkE c a a' && chkE c b b'
  | .zip3 a b d, .Call (.Name x _) [a', b', d'] [] _ => decide (x = PySem.Str.ofString "zip") && glob c x && chkE c a a' && chkE c b b' && chkE c d d'
  | .enum a, .Call (.Name x _) [a'] [] _ => decide (x = PySem.Str.ofString "enumerate") && glob c x && chkE c a a'
  | .enk k a, .Call (.Name x _) [a', .Constant (.int k') _ _] [] _ => decide (x = PySem.Str.ofString "enumerate") && glob c x && chkE c a a' && decide (k' = k) && decide (0 ≤ k ∧ k < 1000)
  | .rev a, .Call (.Name x _) [a'] [] _ => decide (x = PySem.Str.ofString "reversed") && glob c x && chkE c a a'
  | _, _ => false
/-- all names of a target are among these slots -/
def tin (own : List Nat) : T → Bool
  | .nm i => own.contains i
  | .tp ts => tins own ts
def tins (own : List Nat) : Ts → Bool
  | .nil => true
  | .cons t ts => tin own t && tins own ts
end

/-- how a, b = x, y stores: none: by a tuple; some names: these, from the last on -/
def isStar : Expr → Bool
  | .Starred .. => true
  | _ => false
def nmOn (sc : Scope) (line : Nat) : Expr → Option Str
  | .Name id pos => if sc.names.lookup id == some .local && pos.line == line then some id else none
  | _ => none
def swN (sc : Scope) (ts vs : List Expr) : Option (Option (List Str)) :=
  if !(ts.length == 2 || ts.length == 3) || vs.length != ts.length then some none
  else if vs.any isStar then some none
  else
    let names := ts.filterMap (nmOn sc ((ts.head?.map (·.pos.line)).getD 0))
    if names.length != ts.length || names.eraseDups.length != names.length then some none
    else if vs.all (PySem.foldedForSure 8) then some none
    else if vs.all (PySem.constantsAlone 8) then none
    else some (some names)
def nms (c : SC) : List Nat → List Expr → Bool
  | [], [] => true
  | i :: is, .Name x _ :: xs => mine c i x && nms c is xs
  | _, _ => false

/-- the classes of errors with a field -/
def fldTab : List (String × String) := [("InvalidLock", "index"), ("InvalidState", "index"), ("InvalidTurns", "index"), ("InvalidGates", "index"), ("InvalidSpans", "index"), ("InvalidTries", "index"), ("InvalidSyntax", "word")]
def fldsOf (c : String) : List String := match fldTab.lookup c with
  | none => []
  | some f => [f]
/-- x[k1]..[kn], the last index ahead -/
def chkP (c : SC) (i : Nat) : List Nat → Expr → Bool
  | [], .Name x _ => seen c i x
  | k :: ks, .Subscript a (.Constant (.int j) _ _) _ => decide (j = (k : Nat)) && chkP c i ks a
  | _, _ => false
mutual
def chkS (c : SC) : S → Stmt → Bool
  | .nev, _ => true
  | .asg t e, .Assign [t'] e' _ => chkT c t t' && chkE c e e' && (match t', e', e with | .Tuple .., .Tuple .., _ => false | _, _, .ice _ => false | _, _, _ => true)
  | .par is es, .Assign [.Tuple ts _ _] (.Tuple vs _ _) _ => nms c is ts && chkEs c es vs && decide is.Nodup && decide (is.length ≤ 100) && decide (is.length = es.len) && (match swN c.sc ts vs with | some none => true | some (some l) => decide (l = is.filterMap fun i => c.N[i]?) | none => false) && !c.hot
  | .pst i ix e, .Assign [.Subscript (.Name x _) ix' _] e' _ => seen c i x && chkE c ix ix' && chkE c e e'
  | .aug i o e, .AugAssign (.Name x _) o' e' _ => mine c i x && decide (o' = opOf o) && chkE c e e'
  | .pag i ix o e, .AugAssign (.Subscript (.Name x _) ix' _) o' e' _ => seen c i x && chkE c ix ix' && decide (o' = opOf o) && chkE c e e'
  | .app i e, .Expr (.Call (.Attribute (.Name x _) m ap) [e'] [] cp) _ => seen c i x && decide (m = PySem.Str.ofString "append") && chkE c e e' && (ap.endLine == cp.line)
  | .pat i ks d d2, .Expr (.Call (.Attribute r m ap) [.Tuple [.Constant k _ _, .Constant k2 _ _] _ _] [] cp) _ => chkP c i ks.reverse r && decide (m = PySem.Str.ofString "append") && conD d k && conD d2 k2 && (ap.endLine == cp.line)
  | .pap i ks d, .Expr (.Call (.Attribute r m ap) [.Constant k _ _] [] cp) _ => chkP c i ks.reverse r && decide (m = PySem.Str.ofString "append") && conD d k && (ap.endLine == cp.line)
  | .ins i e, .Expr (.Call (.Attribute (.Name x _) m ap) [.Constant (.int z) _ _, e'] [] cp) _ => seen c i x && decide (m = PySem.Str.ofString "insert") && decide (z = 0) && chkE c e e' && (ap.endLine == cp.line)
  | .ext i e, .Expr (.Call (.Attribute (.Name x _) m ap) [e'] [] cp) _ => seen c i x && decide (m = PySem.Str.ofString "extend") && chkE c e e' && (ap.endLine == cp.line)
  | .fpa j i ks k2 d, .For (.Name y _) r [.Expr (.Call (.Attribute r2 m ap) [.Constant k _ _] [] cp) _] [] _ => mine c j y && chkP c i ks.reverse r && chkP c j k2.reverse r2 && decide (m = PySem.Str.ofString "append") && conD d k && (ap.endLine == cp.line) && !c.hot
  | .psa i ix e j e2, .Assign [.Tuple [.Subscript (.Name x q1) ix' q2, .Name y q3] _ _] (.Tuple [e', e2'] _ _) _ => seen c i x && chkE c ix ix' && mine c j y && chkE c e e' && chkE c e2 e2' && (match swN c.sc [.Subscript (.Name x q1) ix' q2, .Name y q3] [e', e2'] with | some none => true | _ => false) && !c.hot
  | .exp e, .Expr e' _ => chkE c e e' && (match e' with | .ListComp .. => false | _ => true)
  | .ite d a b, .If d' a' b' _ => chkE c d d' && chkSs c a a' && chkSs c b b'
  | .for_ t it b, .For t' it' b' [] _ => chkT c t t' && chkI c it it' && noSet it' && (!needTup it || isTupE t') && chkSs c b b' && !c.hot
  | .whl d b, .While d' b' [] _ => chkE c d d' && chkSs c b b'
  | .ret e, .Return (some e') _ => chkE c e e'
  | .rtn, .Return none _ => true
  | .brk, .Break _ => true
  | .cnt, .Continue _ => true
  | .pas, .Pass _ => true
  | .rs0 k e, .Raise (some (.Call (.Name y _) [e'] [] _)) none _ => clsN c k y && !(k == "ValueError") && (fldTab.lookup k).isNone && chkE c e e' && !c.hot
  | .rs1 k f e, .Raise (some (.Call (.Name y _) [e'] [] _)) none _ => clsN c k y && !(k == "ValueError") && chkE c e e' && !c.hot && ((fldTab.lookup k) == some f)
  | .try_ b hs, .Try b' hs' [] [] _ => chkSs c b b' && chkHs c hs hs' && !c.hot && (match hs' with | [] => false | _ => true)
  | _, _ => false
def chkSs (c : SC) : Ss → List Stmt → Bool
  | .nil, [] => true
  | .cons a as, a' :: as' => chkS c a a' && chkSs c as as'
  | _, _ => false
def chkHs (c : SC) : Hs → List PySem.ExceptHandler → Bool
  | .nil, [] => true
  | .cons k none b hs, .ExceptHandler (some (.Name y _)) none (b0' :: b') _ :: hs' => clsN c k y && !(k == "ValueError") && chkSs { c with hot := true } b (b0' :: b') && chkHs c hs hs'
  | .cons k (some i) b hs, .ExceptHandler (some (.Name y _)) (some n) (b0' :: b') _ :: hs' => clsN c k y && !(k == "ValueError") && decide (c.N[i]? = some n) && (match c.sc.names.lookup n with | some .local => true | _ => false) && (match c.st.names.lookup n with | some .local => true | _ => false) && chkSs { c with hot := true } b (b0' :: b') && chkHs c hs hs'
  | _, _ => false
end
end DP

/-! DpBx: exceptions: caught ones are tracked; try with several clauses; raise; isinstance; fields. -/
namespace DP
open PySem PySem.Spec L2
open PyProof.Rows hiding St
/-- an exception object that was caught, at a -/
def exV (cls : Value) (d : Option Addr) (a : Addr) : HO := .ext fun h => ∃ (oe : Obj) (vs : Array Value), h.get? a = some oe ∧ Zc cls d oe ∧ oe.data = .fields vs
theorem exV_ok {P : Program} {w : World} {H : Hp} {h : Heap} {a : Addr} {cls : Value} {d : Option Addr} {oe : Obj} {vs : Array Value} (e : h.get? a = some oe) (z : Zc cls d oe) (hd : oe.data = .fields vs) : ObjOk P w H h a (exV cls d a) :=
  ⟨⟨oe, vs, e, z, hd⟩, ⟨oe, e⟩, fun _ _ ⟨o, v, q, r⟩ k => ⟨o, v, k o q, r⟩⟩
theorem exV_at {P : Program} {w : World} {H : Hp} {h : Heap} {a : Addr} {cls : Value} {d : Option Addr} (hok : HOk P w H h) (e : H a = some (exV cls d a)) : ∃ (oe : Obj) (vs : Array Value), h.get? a = some oe ∧ Zc cls d oe ∧ oe.data = .fields vs := (hok a _ e).1
section
variable {X : Cx} {pins : List (Addr × Obj)} {σ : St} {H : Hp} {s : Shared}
/-- an object that stands in the state is tracked from now on -/
theorem _root_.L2.Inv.trackD {a : Addr} {o : HO} {oe : Obj} {vs : Array Value} (I : Inv X pins σ H s) (ha : s.heap.get? a = some oe) (hd : oe.data = .fields vs) (na : H a = none) (n0 : X.s_0.heap.get? a = none) (nL : a ≠ X.env.locals) (np : ∀ p ∈ X.pn ++ pins, p.1 ≠ a)
    (new : ObjOk X.prog X.w (upd H a o) s.heap a o) : Inv X pins σ (upd H a o) s := by
  have ne0 : ∀ {b : Addr} {u : Obj}, X.s_0.heap.get? b = some u → b ≠ a := fun {b u} e z => by rw [z, n0] at e; cases e
  refine ⟨I.ok, I.os, I.bare, ⟨fun b u e n hb hx => I.base.keep b u e n hb hx, fun b u e n hb hx => I.base.slot b u e n hb hx, fun b u e n hx => ?_, fun b u e hx => I.base.there b u e hx, fun b xs e => ?_, fun b u v e => ?_, fun b ps e => ?_⟩, I.loc, I.cell, ?_, fun y c e => ?_, fun p hp => ?_, fun b u e => ?_, I.len⟩
  · rw [upd_ne (ne0 e)]; exact I.base.free b u e n hx
  · have q := I.base.tups b xs e
    rw [upd_ne (ne_of_none q na)]; exact q
  · have q := I.base.frzs b u v e
    rw [upd_ne (ne_of_none q na)]; exact q
  · obtain ⟨m, q⟩ := I.base.tbls b ps e
    exact ⟨m, by rw [upd_ne (ne_of_none q na)]; exact q⟩
  · rw [upd_ne (Ne.symm nL)]; exact I.free
  · have hc : c ≠ a := fun z => by
      obtain ⟨v, u, q, r⟩ := I.cell y c e
      rw [z, ha] at q; cases q
      rw [hd] at r; cases r
    rw [upd_ne hc]; exact I.freeC y c e
  · obtain ⟨e, n, r⟩ := I.pin p hp
    exact ⟨e, by rw [upd_ne (np p hp)]; exact n, r⟩
  · by_cases hb : b = a
    · subst hb
      rw [upd_same] at e; cases e
      exact new
    · rw [upd_ne hb] at e
      exact (I.hok b u e).stay (fun c v _ q => q) (fun c q => by rw [upd_ne (ne_of_none q na)]; exact q) fun c xs q => by rw [upd_ne (ne_of_none q na)]; exact q
theorem _root_.L2.Inv.suite0 (I : Inv X pins σ H s) (a : Addr) : Inv (X.suite a (X.pn ++ pins)) [] σ H s :=
  ⟨I.ok.suite _ _, I.os, I.bare, I.base, I.loc, I.cell, I.free, I.freeC, fun p hp => I.pin p (by
    have hp' : p ∈ (X.pn ++ pins) ++ ([] : List (Addr × Obj)) := hp
    rw [List.append_nil] at hp'; exact hp'), I.hok, I.len⟩
theorem _root_.L2.Inv.unsuite0 {a : Addr} {pn' : List (Addr × Obj)} (I : Inv (X.suite a (X.pn ++ pins)) pn' σ H s) (ok : X.Ok) : Inv X pins σ H s :=
  ⟨ok, I.os, I.bare, I.base, I.loc, I.cell, I.free, I.freeC, fun p hp => I.pin p (List.mem_append_left _ hp), I.hok, I.len⟩
end

/-! ### try -/
def dnE : Option Nat → Ends → Ends
  | none, D => D
  | some i, D => { nx := fun σ' H' => D.nx (σ'.set i none) H', rt := D.rt, bk := fun σ' H' => D.bk (σ'.set i none) H', ct := fun σ' H' => D.ct (σ'.set i none) H' }
def snE : Option Nat → Addr → St → St
  | none, _, σ => σ
  | some i, a, σ => σ.set i (some (.ref a))
/-- one clause: its class, its name's slot, its suite's reading -/
abbrev Cl := Value × Option Nat × (Value → Option Addr → TS)
/-- what the clauses wish of an exception of the body -/
def wTry (K : PySem.W.Frag) (Wout : WX) (D : Ends) : List Cl → WX
  | [] => Wout
  | (c, o, ts) :: r => fun cls d σ H => ∃ b, PySem.W.exmOne K cls c = some b ∧ (b = true → ∀ a, H a = none → ts cls d (dnE o D) (snE o a σ) (upd H a (exV cls d a))) ∧ (b = false → wTry K Wout D r cls d σ H)
inductive HdsD (X : Cx) : List ExceptHandler → List Cl → Prop
  | nil : HdsD X [] []
  | cons {x : Str} {c : Value} {ts : Value → Option Addr → TS} {b₀ : Stmt} {suite : List Stmt} {np pos' : Pos} {hds : List ExceptHandler} {l : List Cl} (hc : Names X x c)
      (hsu : ∀ (a : Addr) (cls : Value) (d : Option Addr) (pn : List (Addr × Obj)), PSs (X.suite a pn) (b₀ :: suite) (ts cls d)) (r : HdsD X hds l) :
      HdsD X (.ExceptHandler (some (.Name x np)) none (b₀ :: suite) pos' :: hds) ((c, none, ts) :: l)
  | consN {x n : Str} {i : Nat} {c : Value} {ts : Value → Option Addr → TS} {b₀ : Stmt} {suite : List Stmt} {np pos' : Pos} {hds : List ExceptHandler} {l : List Cl} (hN : X.N.Nodup) (hi : X.N[i]? = some n) (hln : X.env.kindOf n = some .local) (hc : Names X x c)
      (hsu : ∀ (a : Addr) (cls : Value) (d : Option Addr) (pn : List (Addr × Obj)), PSs (X.suite a pn) (b₀ :: suite) (ts cls d)) (r : HdsD X hds l) :
      HdsD X (.ExceptHandler (some (.Name x np)) (some n) (b₀ :: suite) pos' :: hds) ((c, some i, ts) :: l)
section
variable {X : Cx} {body : List Stmt} {h₀ : ExceptHandler} {hds : List ExceptHandler} {l : List Cl} {pos : Pos} {tb : WX → TS} {Wout : WX}
theorem ps_tryD (hex : X.ex = []) (hs : X.stack = X.env :: X.outer) (hf : X.env.frame = some X.env.locals) (tk : Takes X Wout)
    (hb : ∀ (W : WX) (pn : List (Addr × Obj)) (xe : Value → Shared → Prop), Takes (X.tr pn xe) W → PassesOwn (model X.prog X.w) X.A X.env xe → PSs (X.tr pn xe) body (tb W))
    (hh : HdsD X (h₀ :: hds) l) : PS X (.Try body (h₀ :: hds) [] [] pos) (fun D σ H => tb (wTry X.K Wout D l) D σ H) := by
  refine ⟨fun pins s σ H D I h => ?_⟩
  have ok := I.ok
  have hfr : X.A.frames = some (X.env :: X.outer) := by rw [ok.frames, hs]
  refine wpAny_Try_except ?_
  refine wpAny_mono ((hb (wTry X.K Wout D l) (X.pn ++ pins) (fun e s₁ => wpAny (model X.prog X.w) X.A (noteFrame e X.env) (fun _ s₂ => wpAny (model X.prog X.w) X.A (setFlight e none) (fun _ s₃ =>
    wpAny (model X.prog X.w) X.A (handleBy e X.env (h₀ :: hds)) (SP X pins D) X.xe s₃) X.xe s₂) X.xe s₁) (fun u s' xx => ?_) PassesOwn.looking).run [] s σ H D (I.toTry _) h) (fun f s1 hsp => ?_) (fun e s1 he => he)
  · -- the catch
    obtain ⟨a, B, sI, pins', σ', H', cls, d, rfl, J', nb, up, sky, na, os, ag, w⟩ := xx
    have J : Inv X pins σ' H' sI := J'.ofTry ok
    have sky' : Sky B (X.env :: X.outer) a (Zc cls d) X.env.locals s'.heap := by rw [← hs]; exact sky
    show wpAny (model X.prog X.w) X.A (noteFrame (.ref a) X.env) _ _ _
    refine Sky.land Zc.steady hfr hf sky' fun h3 fl3 up3 => ?_
    have J3 : Inv X pins σ' H' { s' with heap := h3 } := J.landed nb fl3.1 (up.trans up3) os ag
    obtain ⟨oe3, vs3, he3, hz3, hd3⟩ := fl3.there
    have notFr : ∀ {h : Heap} {o : Obj} {vs : Array Value}, h.FunFrames B (X.env :: X.outer) → h.get? a = some o → o.data = .fields vs → a ∉ frs (X.env :: X.outer) := fun {h o vs} ff e dd hm => by
      obtain ⟨_, o', e', hnf⟩ := ff.mem hm
      rw [e] at e'; cases e'
      exact hnf _ dd
    have nfr := notFr fl3.2.2.1 he3 hd3
    have nL : a ≠ X.env.locals := fun z => nfr (List.mem_filterMap.mpr ⟨X.env, List.mem_cons_self, by rw [hf, z]⟩)
    have nSt : a ∉ frs X.stack := by rw [hs]; exact nfr
    have nI : sI.heap.get? a = none := by
      cases q : sI.heap.get? a with
      | none => rfl
      | some o =>
        have z := nb a o q nSt
        rw [fl3.2.1] at z; cases z
    have n0 : X.s_0.heap.get? a = none := by
      cases q : X.s_0.heap.get? a with
      | none => rfl
      | some o =>
        obtain ⟨o', z⟩ := J.base.there a o q (by rw [hex]; exact fun z => nomatch z)
        rw [nI] at z; cases z
    have np : ∀ p ∈ X.pn ++ pins, p.1 ≠ a := fun p hp z => by
      have e := (J.pin p hp).1
      rw [z, nI] at e; cases e
    have S3 := J3.suite0 a
    have go : ∀ {hds' : List ExceptHandler} {l' : List Cl}, HdsD X hds' l' → wTry X.K Wout D l' cls d σ' H' →
        wpAny (model X.prog X.w) X.A (handleBy (.ref a) X.env hds') (SP X pins D) X.xe { s' with heap := h3 } := by
      have LT : PySem.W.Looks (model X.prog X.w) h3 (typeOf (.ref a)) cls := fun A Q E s k q => wpAny_typeOf_ref (k _ _ he3) (by rw [hz3.1]; exact q)
      have test : ∀ {x : Str} {c : Value} {np : Pos} {Q : Value → Shared → Prop} {E : Value → Shared → Prop}, Names X x c → Q c { s' with heap := h3 } → wpAny (model X.prog X.w) (X.A.mark (some (.ref a))) (eval (.Name x np) X.env) Q E { s' with heap := h3 } := fun {x c np Q E} hc q => by
        obtain ⟨hg, hdbg, hm | ⟨hm, hv, hnn⟩⟩ := hc
        · exact ld_glob (X := X.suite a (X.pn ++ pins)) S3 hg hm q hdbg
        · exact ld_blt (X := X.suite a (X.pn ++ pins)) S3 hg hm hv q hnn hdbg
      intro hds' l' hk
      induction hk with
      | nil =>
        intro w
        refine wpAny_handleBy_nil ?_
        obtain ⟨k1, k2, k3, oe, vs, T, oT, ts', he, hz, hd, h1, hr⟩ := id fl3
        unfold PySem.passOn
        refine wpAny_bind (wpAny_field he hd h1 ?_)
        rw [if_neg (show ¬ ((Value.ref T == Value.none) = true) from by simp)]
        have fin : wpAny (model X.prog X.w) X.A (setFlight (.ref a) X.env.frame) (fun _ s4 => wpAny (model X.prog X.w) X.A (throw (.ref a) : Sem Flow) (SP X pins D) X.xe s4) X.xe { s' with heap := h3 } := by
          rw [hf]
          refine HandSPX.setFlight_upZ fl3 fun h4 hh4 up4 => wpAny_throw (tk _ _ ?_)
          exact ⟨a, B, sI, pins, σ', H', cls, d, rfl, J, nb, (up.trans up3).trans up4, .inr (.inr (by rw [hs]; exact hh4)), na, os, ag, w⟩
        first
          | exact wpAny_bind (wpAny_pure (wpAny_bind fin))
          | exact wpAny_bind fin
      | @cons x c ts b₀ suite np' pos' hds2 l2 hc hsu r ih =>
        intro w
        obtain ⟨b, hb1, hyes, hno⟩ := w
        refine wpAny_handleBy_cons (codeAny_handlers_test ?_) (by intro q; cases q)
        have LM := PySem.W.exm_one (M := model X.prog X.w) (J3.kIn) LT hb1
        refine test hc (LM.here ?_)
        cases b with
        | true =>
          refine codeAny_handlers_suite ?_
          refine HandSPX.lands_againZ fl3 fun h4 fl4 up4 => ?_
          have J4 : Inv X pins σ' H' { s' with heap := h4 } := J.landed nb fl4.1 ((up.trans up3).trans up4) os ag
          obtain ⟨oe4, vs4, he4, hz4, hd4⟩ := fl4.there
          have S4 := (J4.trackD (o := exV cls d a) he4 hd4 na n0 nL np (exV_ok he4 hz4 hd4)).suite0 a
          refine wpAny_mono ((hsu a cls d (X.pn ++ pins)).run [] _ _ _ _ S4 (hyes rfl a na)) (fun f s6 hsp => ?_) (fun _ _ z => False.elim z)
          cases f with
          | next =>
            obtain ⟨σ6, H6, S6, q6⟩ := hsp
            exact ⟨_, _, S6.unsuite0 ok, q6⟩
          | brk =>
            obtain ⟨σ6, H6, S6, q6⟩ := hsp
            exact ⟨_, _, S6.unsuite0 ok, q6⟩
          | cont =>
            obtain ⟨σ6, H6, S6, q6⟩ := hsp
            exact ⟨_, _, S6.unsuite0 ok, q6⟩
          | ret u =>
            obtain ⟨v6, σ6, H6, S6, r6, q6⟩ := hsp
            exact ⟨_, _, _, S6.unsuite0 ok, r6, q6⟩
        | false =>
          show wpAny _ X.A (handleBy (.ref a) X.env hds2) _ _ _
          exact ih (hno rfl)
      | @consN x n i c ts b₀ suite np' pos' hds2 l2 hN hi hln hc hsu r ih =>
        intro w
        obtain ⟨b, hb1, hyes, hno⟩ := w
        refine wpAny_handleBy_cons (codeAny_handlers_test ?_) (by intro q; cases q)
        have LM := PySem.W.exm_one (M := model X.prog X.w) (J3.kIn) LT hb1
        refine test hc (LM.here ?_)
        have hloc : Loc X.env.scope n := .inl hln
        cases b with
        | true =>
          refine codeAny_handlers_suite_as ?_
          refine HandSPX.lands_againZ fl3 fun h4 fl4 up4 => ?_
          have J4 : Inv X pins σ' H' { s' with heap := h4 } := J.landed nb fl4.1 ((up.trans up3).trans up4) os ag
          obtain ⟨oe4, vs4, he4, hz4, hd4⟩ := fl4.there
          have S4 := (J4.trackD (o := exV cls d a) he4 hd4 na n0 nL np (exV_ok he4 hz4 hd4)).suite0 a
          refine store_ok (X := X.suite a (X.pn ++ pins)) (v := .ref a) S4 hN hi hloc rfl (fun s5 S5 => ?_) (.inr hln)
          refine wpAny_mono ((hsu a cls d (X.pn ++ pins)).run [] s5 _ _ _ S5 (hyes rfl a na)) (fun f s6 hsp => ?_) (fun _ _ z => False.elim z)
          have end_ : ∀ {σ6 : St} {H6 : Hp} {Q : Shared → Prop}, Inv (X.suite a (X.pn ++ pins)) [] σ6 H6 s6 → (∀ s7, Inv X pins (σ6.set i none) H6 s7 → Q s7) →
              wpAny (model X.prog X.w) X.A (do bindName X.env n .none; unbindBehindTheSuite X.env n pos') (fun _ s7 => Q s7) X.xe s6 := fun {σ6 H6 Q} S6 hq => gone_ok (S6.unsuite0 ok) hN hi hln hq
          cases f with
          | next =>
            obtain ⟨σ6, H6, S6, q6⟩ := hsp
            exact end_ S6 fun s7 J7 => ⟨_, _, J7, q6⟩
          | brk =>
            obtain ⟨σ6, H6, S6, q6⟩ := hsp
            exact end_ S6 fun s7 J7 => ⟨_, _, J7, q6⟩
          | cont =>
            obtain ⟨σ6, H6, S6, q6⟩ := hsp
            exact end_ S6 fun s7 J7 => ⟨_, _, J7, q6⟩
          | ret u =>
            obtain ⟨v6, σ6, H6, S6, r6, q6⟩ := hsp
            exact end_ S6 fun s7 J7 => ⟨_, _, _, J7, r6, q6⟩
        | false =>
          show wpAny _ X.A (handleBy (.ref a) X.env hds2) _ _ _
          exact ih (hno rfl)
    exact go hh w
  · cases f with
    | next =>
      obtain ⟨σ', H', J', q⟩ := hsp
      exact wpAny_execs_nil ⟨σ', H', J'.ofTry ok, q⟩
    | brk =>
      obtain ⟨σ', H', J', q⟩ := hsp
      exact ⟨σ', H', J'.ofTry ok, q⟩
    | cont =>
      obtain ⟨σ', H', J', q⟩ := hsp
      exact ⟨σ', H', J'.ofTry ok, q⟩
    | ret u =>
      obtain ⟨v, σ', H', J', r, q⟩ := hsp
      exact ⟨v, σ', H', J'.ofTry ok, r, q⟩
end

/-! ### raise: a class without __init__ -/
section
variable {X : Cx} {C : Addr} {bmB : List Value} {B newId initId : String} {x : Str} {e : Expr} {te : TE} {p pos : Pos}
theorem pmk_e (F : ExcBaseFacts B newId initId bmB) (q : PySem.W.excIn X.K C bmB newId = true) (gC : X.mg x = some (.ref C)) (kC : PySem.W.keepIn X.K (.ref C) = true) (r : Raises X (.ref C)) (hg : Gl X x) (hdb : (x == ("__debug__" : Str)) = false)
    (he : PE X e te) (hs : starEach [e] X.env = (false, eval e X.env) :: starEach [] X.env) : PMk X (.Call (.Name x p) [e] [] pos) (fun σ H Q => te σ H fun _ H1 => Q (.ref C) none H1) := by
  intro pins s σ H Q I h
  refine wpAny_Call_Name_kw (ld_glob I hg gC ?_ hdb)
  refine PySem.W.callWith_K (h₀ := X.base) I.ok.mod.kin kC ?_ hs (by rfl)
  rw [hs]
  show wpAny _ _ (spliced ((false, eval e X.env) :: backTo pos (starEach [] X.env))) _ _ s
  refine Calls.spliced_cons (thn (he.run pins s σ H _ I h) fun u s1 ⟨v, H1, I1, r1, q1⟩ => ?_)
  refine Calls.spliced_nil ⟨I1.kIn, ?_⟩
  show wpAny _ _ (call (.ref C) [u]) _ _ _
  obtain ⟨bm, N, nm, qn, bs, hdct, sn, sub, ab, col, dd, k0, k1, k2, k3, k5, mN, hC, hN, hni, T⟩ := exc_obj I1.kIn q
  refine wpAny_call_exc_subT F T hC hN hni (fun h' a hm => ?_) (by show 1 ≤ sizeLine; rw [sizeLine_eq]; omega)
  exact mk_of I1 hm r q1 (I1.hok.gone hm.new)
end

/-! ### the __init__ of a class with a field: Base.__init__(self, 'text'); self.f = f -/
/-- what K says of the base class, at L -/
structure BsC (K : PySem.W.Frag) (L : Addr) : Prop where
  ty : PySem.W.typeIn K (.ref L) = some (.type "type")
  rd : PySem.W.readsIn K L (.type "type") = true
  ga : PySem.W.specialIn K (.ref L) "__getattribute__" = some (some (.builtin "type.__getattribute__"))
  iC : PySem.W.findCls K (.ref L) (.type "type") "__init__" = some (.val (.builtin "ValueError.__init__"))
section
variable {X : Cx} {e : Expr} {es : List Expr} {ta : TA} {x : Str} {p1 p2 pos : Pos}
theorem pe_binit {L : Addr} (B : BsC X.K L) (hg : Gl X x) (hm : X.mg x = some (.ref L)) (hdb : (x == ("__debug__" : Str)) = false) (ha : PA X (e :: es) ta) (hline : (p2.endLine == pos.line) = true)
    (hfew : methodCallForm ((e :: es).length + ([] : List Keyword).length) (backTo pos (starEach (e :: es) X.env)) (backToKw pos (keywordEach [] X.env)) = true)
    (he : starEach (e :: es) X.env = (false, eval e X.env) :: starEach es X.env) (hpl : (backTo pos (starEach es X.env)).any (·.1) = false) :
    PE X (.Call (.Attribute (.Name x p1) (Str.ofString "__init__") p2) (e :: es) [] pos) (tVeI X.K ta) := by
  refine ⟨fun pins s σ H Q I h => ?_⟩
  rw [arm_eval_Call]
  refine wpAny_bind (show wpAny _ _ (eval (.Name x p1) X.env) _ _ _ from ld_glob I hg hm ?_ hdb)
  refine wpAny_bind (wpAny_standAt ?_)
  have hpos : methodCallPos true (.Name x p1) X.env p2 pos = pure pos := by unfold methodCallPos; simp [hline]
  unfold methodCall
  rw [hfew]
  obtain ⟨m, fr⟩ := I.fr
  refine wpAny_bind (wpAny_holding (PySem.W.method_of_cls fr I.ok.mod.kin B.ga (PySem.W.cls_val fr I.ok.mod.kin B.ty B.rd B.iC (by decide +kernel) ?_)))
  refine wpAny_bind (wpAny_of_eq hpos ?_)
  show wpAny _ _ (callWith pos (Value.builtin "ValueError.__init__") [] (backTo pos (starEach (e :: es) X.env)) []) _ _ _
  refine PyProof.Rows.callWith_method1 (thn (ha.run pos pins _ σ H _ (I.tok _) h) fun us s1 ⟨vs, H1, I1, r1, a, C, ws, ev, hl, T, ea, q⟩ => ?_) he hpl
  subst ev
  cases r1 with
  | @cons _ u0 _ ur ra rw' =>
    obtain rfl : u0 = Value.ref a := ra
    have hlen : ur.length ≤ sizeLine := by
      rw [← Paired.length rw', sizeLine_eq]
      omega
    exact oinit_ok T I1 ea hlen fun s' J => ⟨.non, H1, J, rfl, q⟩
end
/-- the text of such a def -/
def initB (bs : String) (f : String) (st : Stmt) : Bool := match st with
  | .FunctionDef _ _ [.Expr (.Call (.Attribute (.Name x _) m ap) [.Name sf _, .Constant (.str _) _ _] [] cp) _, .Assign [.Attribute (.Name sf2 _) f2 _] (.Name y _) _] _ _ _ sc _ _ _ =>
    decide (x = Str.ofString bs) && decide (m = Str.ofString "__init__") && decide (sf = Str.ofString "self") && decide (sf2 = Str.ofString "self") && decide (f2 = Str.ofString f) && decide (y = Str.ofString f) &&
    (match sc.names.lookup (Str.ofString bs) with | some .globalImplicit => true | _ => false) && (match sc.names.lookup (Str.ofString "self") with | some .local => true | _ => false) && (match sc.names.lookup (Str.ofString f) with | some .local => true | _ => false) && (ap.endLine == cp.line)
  | _ => false
theorem initB_inv {bs f : String} {st : Stmt} (h : initB bs f st = true) : ∃ p1 p2 p3 z k p4 p5 p6 p7 p8 p9 p10, defBody st = [.Expr (.Call (.Attribute (.Name (Str.ofString bs) p1) (Str.ofString "__init__") p2) [.Name (Str.ofString "self") p3, .Constant (.str z) k p4] [] p5) p6, .Assign [.Attribute (.Name (Str.ofString "self") p7) (Str.ofString f) p8] (.Name (Str.ofString f) p9) p10] ∧
    (defScope st).names.lookup (Str.ofString bs) = some .globalImplicit ∧ (defScope st).names.lookup (Str.ofString "self") = some .local ∧ (defScope st).names.lookup (Str.ofString f) = some .local ∧ (p2.endLine == p5.line) = true := by
  unfold initB at h
  split at h
  · simp only [Bool.and_eq_true, decide_eq_true_eq] at h
    obtain ⟨⟨⟨⟨⟨⟨⟨⟨⟨rfl, rfl⟩, rfl⟩, rfl⟩, rfl⟩, rfl⟩, h1⟩, h2⟩, h3⟩, h4⟩ := h
    refine ⟨_, _, _, _, _, _, _, _, _, _, _, _, rfl, ?_, ?_, ?_, h4⟩
    · show _ = _
      revert h1; split <;> simp_all [defScope]
    · revert h2; split <;> simp_all [defScope]
    · revert h3; split <;> simp_all [defScope]
  · cases h
/-- what a class C with the field f says -/
structure FlC (K : PySem.W.Frag) (C fI : Addr) (f : String) : Prop where
  T : OexC K C
  no : PySem.W.findIn K (.ref C) (Str.ofString f) = some none
  iC : PySem.W.findIn K (.ref C) "__init__" = some (some (.ref fI))
  tI : PySem.W.typeIn K (.ref fI) = some (.type "function")
/-- its promise -/
def spInit (K : PySem.W.Frag) (C : Addr) (f : String) : Sp := fun vs H Q _ => ∃ (a : Addr) (y : V), vs = [.ref a, y] ∧ OexC K C ∧ PySem.W.findIn K (.ref C) (Str.ofString f) = some none ∧ H a = some (exo a C none) ∧
  ∀ dx, H dx = none → dx ≠ a → Q .non (upd (upd H dx (exd dx [(Str.ofString f, y)])) a (exo a C (some dx)))
theorem init_ok {P : Program} {w : World} {K : PySem.W.Frag} {mg : Str → Option Value} {base : Heap} {L C fI : Addr} {bs f : String} {qual : Str} {st : Stmt} {fd : FuncData} (F : Fun K "__init__" qual st fI fd) (S : FnScope [Str.ofString "self", Str.ofString f] [Str.ofString "self", Str.ofString f] (defScope st))
    (h : initB bs f st = true) (B : BsC K L) (hm : mg (Str.ofString bs) = some (.ref L)) (hdb : (Str.ofString bs == ("__debug__" : Str)) = false) (hf1 : (Str.ofString f == ("__debug__" : Str)) = false) (hf2 : (Str.ofString f == ("__classdict__" : Str)) = false) :
    FnOk P w K mg base CX0 1 fI fd [Str.ofString "self", Str.ofString f] (spInit K C f) := by
  obtain ⟨p1, p2, p3, z, k, p4, p5, p6, p7, p8, p9, p10, e, g1, g2, g3, g4⟩ := initB_inv h
  refine F.ok S (fun vs H Q E ⟨a, y, e, _⟩ => by rw [e]; rfl) (fun cdv A outer s H vs Q E hr hsp => ?_)
  rw [e]
  have v0 : PE (cxOf CX0 P w K mg base [Str.ofString "self", Str.ofString f] qual (defScope st) fI cdv A outer s H E).nox (.Name (Str.ofString "self") p3) (tVar 0) := pe_var (i := 0) rfl (.inl g2) (by decide +kernel) (by decide +kernel)
  have v0' : PE (cxOf CX0 P w K mg base [Str.ofString "self", Str.ofString f] qual (defScope st) fI cdv A outer s H E).nox (.Name (Str.ofString "self") p7) (tVar 0) := pe_var (i := 0) rfl (.inl g2) (by decide +kernel) (by decide +kernel)
  have v1 : PE (cxOf CX0 P w K mg base [Str.ofString "self", Str.ofString f] qual (defScope st) fI cdv A outer s H E).nox (.Name (Str.ofString f) p9) (tVar 1) := pe_var (i := 1) rfl (.inl g3) hf1 hf2
  refine ⟨_, pss_cons (ps_expr (pe_binit B g1 hm hdb (pa_cons v0 (pa_cons pe_str pa_nil)) g4 rfl rfl rfl)) (pss_one (ps_ost v0' v1)), ?_⟩
  obtain ⟨a, y, rfl, T, hno, ha, q⟩ := hsp
  refine ⟨.ref a, rfl, ?_⟩
  refine ⟨a, C, _, rfl, by show 1 ≤ 1000; decide, T, ha, ?_⟩
  refine ⟨y, rfl, .ref a, rfl, a, C, rfl, T, hno, .inl ⟨ha, fun dx n ne => q dx n ne⟩⟩
/-- C(e): what is asked of e's value v at H1 -/
def flAsk (K : PySem.W.Frag) (C : Addr) (f : String) (Q : XK) (v : V) (H1 : Hp) : Prop := [v].length ≤ 1000 ∧ ∀ a, H1 a = none → spInit K C f (.ref a :: ([v] ++ [])) (upd H1 a (exo a C none))
  (fun v H2 => v = .non ∧ ∃ (d : Addr) (fs : List (Str × V)), H2 a = some (exo a C (some d)) ∧ H2 d = some (exd d fs) ∧ H1 d = none ∧ Q (.ref C) (some d) (upd (del H2 a) d (.xd fs))) (fun _ _ _ => False)
theorem flAsk_of {K : PySem.W.Frag} {C fI : Addr} {f : String} {Q : XK} {v : V} {H1 : Hp} (T : FlC K C fI f) (h : ∀ d, H1 d = none → Q (.ref C) (some d) (upd H1 d (.xd [(Str.ofString f, v)]))) : flAsk K C f Q v H1 := by
  refine ⟨by show 1 ≤ 1000; decide, fun a ha => ⟨a, v, rfl, T.T, T.no, upd_same, fun dx n ne => ⟨rfl, dx, _, upd_same, by rw [upd_ne ne]; exact upd_same, by rw [upd_ne ne] at n; exact n, ?_⟩⟩⟩
  have n1 : H1 dx = none := by rw [upd_ne ne] at n; exact n
  have e : upd (del (upd (upd (upd H1 a (exo a C none)) dx (exd dx [(Str.ofString f, v)])) a (exo a C (some dx))) a) dx (.xd [(Str.ofString f, v)]) = upd H1 dx (.xd [(Str.ofString f, v)]) := by
    funext b
    by_cases hb : b = dx
    · subst hb; rw [upd_same, upd_same]
    · rw [upd_ne hb, upd_ne hb]
      by_cases hc : b = a
      · subst hc; rw [del_same, ha]
      · rw [del_ne hc, upd_ne hc, upd_ne hb, upd_ne hc]
  rw [e]
  exact h dx n1
theorem pmk_fl {X : Cx} {x : Str} {C fI : Addr} {fd : FuncData} {f : String} {e : Expr} {te : TE} {p pos : Pos} (T : FlC X.K C fI f) (G : FnOk X.prog X.w X.K X.mg X.base CX0 1 fI fd [Str.ofString "self", Str.ofString f] (spInit X.K C f)) (hb : Binds X.K fd [Str.ofString "self", Str.ofString f] []) (hr : Room 2 X.A)
    (hg : Gl X x) (hm : X.mg x = some (.ref C)) (hdb : (x == ("__debug__" : Str)) = false) (he : PE X e te) (hs : starEach [e] X.env = (false, eval e X.env) :: starEach [] X.env) :
    PMk X (.Call (.Name x p) [e] [] pos) (fun σ H Q => te σ H (flAsk X.K C f Q)) := by
  intro pins s σ H Q I h
  exact pmk_oex (ds := []) (dvs := []) T.T T.iC T.tI G hr hb .nil pass0 hg hm (pa_cons he pa_nil hs) hdb hs (by rfl) pins s σ H Q I h

/-! ### isinstance, fields of a caught exception -/
/-- what the class C says, so that isinstance asks its instances rightly, and for their fields -/
structure XcC (K : PySem.W.Frag) (C : Addr) : Prop where
  cl : (PySem.W.clsIn K C).isSome = true
  hg : PySem.W.findIn K (.ref C) "__getattribute__" = some (some (.builtin "BaseException.__getattribute__"))
  hk : PySem.W.findIn K (.ref C) "__getattr__" = some none
  hs : PySem.W.subIn K (.ref C) (.type "BaseException") = some true
  hd : PySem.W.hasDictIn K C = true
  ha : PySem.W.findIn K (.ref C) "__class__" = some (some (.builtin "object.__class__"))
  hn : PySem.W.specialIn K (.builtin "object.__class__") "__get__" = some (some (.builtin "getset_descriptor.__get__"))
  ht : PySem.W.takesIn K (.builtin "object.__class__") = some true
  hm : PySem.W.mroIn K C (.type "object") = some true
/-- its dict, if it has one, stands -/
def xdAt (H : Hp) : Option Addr → Prop
  | none => True
  | some dx => ∃ fs, H dx = some (.xd fs)
section
variable {X : Cx} {pins : List (Addr × Obj)} {σ : St} {H : Hp} {s : Shared}
theorem exv_inst {a C : Addr} {d : Option Addr} (I : Inv X pins σ H s) (e : H a = some (exV (.ref C) d a)) (hx : xdAt H d) : ∃ oe od, PySem.W.InstAt s.heap a oe C od := by
  obtain ⟨oe, vs, e1, z, hd⟩ := exV_at I.hok e
  obtain ⟨oc, od0, oda, osl⟩ := oe
  obtain ⟨h1, h2⟩ := z
  dsimp only at h1 h2 hd
  subst h1 h2 hd
  cases od0 with
  | none => exact ⟨_, none, e1, rfl, rfl, trivial⟩
  | some dx =>
    obtain ⟨fs, hf⟩ := hx
    obtain ⟨mA, hns, _⟩ : ObjOk X.prog X.w H s.heap dx (.xd fs) := I.hok dx _ hf
    obtain ⟨od, ho, _⟩ := lookIn_ns hns
    exact ⟨_, some od, e1, rfl, rfl, ho⟩
/-- isinstance(e, c) -/
def rIsX (K : PySem.W.Frag) : List V → Hp → VK → Prop := fun xs H Q => ∃ (a C : Addr) (d : Option Addr) (c : V) (cv : Value) (b : Bool), xs = [.ref a, c] ∧ H a = some (exV (.ref C) d a) ∧ xdAt H d ∧ XcC K C ∧ ClsV c cv ∧ PySem.W.kitOne K (.ref C) cv = some b ∧ Q (.bl b) H
theorem call_isX : CallR X (.builtin "isinstance") (rIsX X.K) := by
  intro pins s σ H xs us Q I r h
  obtain ⟨a, C, d, c, cv, b, rfl, e, hx, T, k, eb, q⟩ := h
  obtain ⟨u1, u2, rfl, r1, r2⟩ := vals2 r
  have e2 := k.eq r2
  subst e2
  cases (show u1 = Value.ref a from r1)
  obtain ⟨oe, od, J⟩ := exv_inst I e hx
  exact PySem.W.kia_one (PySem.W.kitx_exc T.cl T.hg T.hk T.hs T.ha T.hn T.ht T.hm) I.kIn J eb (fun z => nomatch z) fun tk => ⟨.bl b, H, I.tok tk, rfl, q⟩
/-- isinstance(e, (c1, c2, ..)) -/
def rIsXT (K : PySem.W.Frag) : List V → Hp → VK → Prop := fun xs H Q => ∃ (a C : Addr) (d : Option Addr) (tp : Addr) (cs : List V) (us : List Value) (b : Bool), xs = [.ref a, .ref tp] ∧ H a = some (exV (.ref C) d a) ∧ xdAt H d ∧ XcC K C ∧ H tp = some (.tup cs) ∧ Paired ClsV cs us ∧ PySem.W.kitAny K (.ref C) us = some b ∧ Q (.bl b) H
theorem call_isXT : CallR X (.builtin "isinstance") (rIsXT X.K) := by
  intro pins s σ H xs us Q I r h
  obtain ⟨a, C, d, tp, cs, ws, b, rfl, e, hx, T, hT, k, eb, q⟩ := h
  obtain ⟨u1, u2, rfl, r1, r2⟩ := vals2 r
  cases (show u1 = Value.ref a from r1)
  cases (show u2 = Value.ref tp from r2)
  obtain ⟨oe, od, J⟩ := exv_inst I e hx
  obtain ⟨_, its, rv, o, h1, h2, n, h3⟩ := (show ObjOk X.prog X.w H s.heap tp (.tup cs) from I.hok tp _ hT)
  have e3 := ClsV.all k rv
  subst e3
  obtain ⟨oc, od', dt, sl⟩ := o
  simp only at h2 h3
  subst h2 h3
  exact PySem.W.kia_tup (PySem.W.kitx_exc T.cl T.hg T.hk T.hs T.ha T.hn T.ht T.hm) I.kIn J h1 eb (fun z => nomatch z) fun tk => ⟨.bl b, H, I.tok tk, rfl, q⟩
/-- e.f -/
def tAtt (K : PySem.W.Frag) (f : Str) (te : TE) : TE := fun σ H Q => te σ H fun x H1 => ∃ (a C dd : Addr) (fs : List (Str × V)) (v : V), x = .ref a ∧ H1 a = some (exV (.ref C) (some dd) a) ∧ XcC K C ∧ PySem.W.findIn K (.ref C) f = some none ∧ H1 dd = some (.xd fs) ∧ fs.lookup f = some v ∧ Q v H1
theorem pe_att {e : Expr} {te : TE} {pos : Pos} {n : Str} (he : PE X e te) (hb : attributeBase e n X.env (eval e X.env) = eval e X.env) : PE X (.Attribute e n pos) (tAtt X.K n te) := by
  refine ⟨fun pins s σ H Q I h => ?_⟩
  refine attr_of hb (thn (he.run pins s σ H _ I h) fun u s1 hh => ?_)
  obtain ⟨x, H1, I1, rx, a, C, dd, fs, v, ex, ea, T, hno, ed, l, q⟩ := hh
  subst ex
  obtain rfl : u = Value.ref a := rx
  obtain ⟨oe, vs, e1, z, hd⟩ := exV_at I1.hok ea
  have hx : ObjOk X.prog X.w H1 s1.heap dd (.xd fs) := I1.hok dd _ ed
  obtain ⟨mA, hns, hr⟩ := hx
  obtain ⟨od, ho, hl⟩ := lookIn_ns hns
  obtain ⟨u, hu, ru⟩ := RelO.some_of (v := v) (o := mA n) (by rw [← l]; exact hr n)
  have J : PySem.W.InstAt s1.heap a oe C (some od) := ⟨e1, z.1, by unfold PySem.W.notCls; rw [hd] <;> rfl, by rw [z.2]; exact ho⟩
  exact HandSPX.exc_get I1.kIn J T.hg T.hk T.hs (PySem.W.findObj_own T.hd hno rfl (by rw [hl, hu])) (handed_of ru) ⟨v, H1, I1.tok _, ru, q⟩
end
end DP

/-! DpC: data in the abstract heap. F: what stays as it is; Own: the lists that may be changed, each with one owner. -/
namespace DP
open PySem (Addr sizeLine)
open L2 (V HO Hp upd upd_same upd_ne Rd St)

abbrev Own := List (Addr × HO)
abbrev ads (O : Own) : List Addr := O.map (·.1)
theorem ads_app (A B : Own) : ads (A ++ B) = ads A ++ ads B := List.map_append

/-- where the classes stand -/
class CT where
  cat : String → Option Addr
variable [CT]
/-- the fields of a caught exception -/
def XdOf (F : Hp) (dd : Option Addr) (fs : List String) (vs : List V) : Prop := match dd with
  | none => fs = []
  | some dx => F dx = some (.xd ((fs.map PySem.Str.ofString).zip vs))
mutual
inductive Rep (F : Hp) : D → V → Own → Prop where
  | non : Rep F .non .non []
  | bl (b : Bool) : Rep F (.bl b) (.bl b) []
  | int (i : Int) : Rep F (.int i) (.int i) []
  | str (s : PySem.Str) : Rep F (.str s) (.str s) []
  | tup {a : Addr} {vs : List V} {ds : List D} {O : Own} : F a = some (.tup vs) → RepL F ds vs O → Rep F (.tup ds) (.ref a) O
  | fro {a : Addr} {vs : List V} {ds : List D} : Rd F a (.lst vs) → RepL F ds vs [] → Rep F (.lst false ds) (.ref a) []
  | own {a : Addr} {vs : List V} {ds : List D} {O : Own} : RepL F ds vs O → Rep F (.lst true ds) (.ref a) ((a, .lst vs) :: O)
  | exc {a C : Addr} {dd : Option Addr} {c : String} {fs : List String} {vs : List V} {ds : List D} : CT.cat c = some C → F a = some (exV (.ref C) dd a) → XdOf F dd fs vs → RepL F ds vs [] → fs.length = ds.length ∧ fs = fldsOf c → Rep F (.exc c fs ds) (.ref a) []
  | dfr {a : Addr} {ks : List L2.Key} {vs : List V} {ds : List D} : F a = some (.dK (ks.zip vs)) → RepL F ds vs [] → ks.length = ds.length → Rep F (.dct false ks ds) (.ref a) []
  | dow {a : Addr} {ks : List L2.Key} {vs : List V} {ds : List D} {O : Own} : RepL F ds vs O → ks.length = ds.length → Rep F (.dct true ks ds) (.ref a) ((a, .dK (ks.zip vs)) :: O)
  | ifr {a C dx : Addr} {c : String} {fs : List String} {vs : List V} {ds : List D} : CT.cat c = some C → F a = some (.ins C dx ((fs.map PySem.Str.ofString).zip vs)) → F dx = some (.own a) → RepL F ds vs [] → fs.length = ds.length → Rep F (.ins false c fs ds) (.ref a) []
  | iow {a C dx : Addr} {c : String} {fs : List String} {vs : List V} {ds : List D} {O : Own} : CT.cat c = some C → RepL F ds vs O → fs.length = ds.length → Rep F (.ins true c fs ds) (.ref a) ((a, .ins C dx ((fs.map PySem.Str.ofString).zip vs)) :: (dx, .own a) :: O)
inductive RepL (F : Hp) : List D → List V → Own → Prop where
  | nil : RepL F [] [] []
  | cons {d : D} {v : V} {ds : List D} {vs : List V} {O1 O2 : Own} : Rep F d v O1 → RepL F ds vs O2 → RepL F (d :: ds) (v :: vs) (O1 ++ O2)
end

def Sub (F F' : Hp) : Prop := ∀ a u, F a = some u → F' a = some u
omit [CT] in
theorem Sub.refl (F : Hp) : Sub F F := fun _ _ h => h
omit [CT] in
theorem Sub.trans {F F' F'' : Hp} (h : Sub F F') (h' : Sub F' F'') : Sub F F'' := fun a u e => h' a u (h a u e)
omit [CT] in
theorem Sub.rd {F F' : Hp} (h : Sub F F') {a : Addr} {u : HO} (r : Rd F a u) : Rd F' a u := by
  rcases r with r | ⟨o, r⟩
  · exact .inl (h _ _ r)
  · exact .inr ⟨o, h _ _ r⟩

omit [CT] in
theorem XdOf.mono {F F' : Hp} (s : Sub F F') {dd : Option Addr} {fs : List String} {vs : List V} (h : XdOf F dd fs vs) : XdOf F' dd fs vs := by
  cases dd with
  | none => exact h
  | some dx => exact s _ _ h
mutual
theorem Rep.mono {F F' : Hp} (s : Sub F F') : ∀ {d : D} {v : V} {O : Own}, Rep F d v O → Rep F' d v O
  | .non, _, _, .non => .non
  | .bl _, _, _, .bl b => .bl b
  | .int _, _, _, .int i => .int i
  | .str _, _, _, .str x => .str x
  | .tup _, _, _, .tup e r => .tup (s _ _ e) (RepL.mono s r)
  | .lst _ _, _, _, .fro e r => .fro (s.rd e) (RepL.mono s r)
  | .lst _ _, _, _, .own r => .own (RepL.mono s r)
  | .exc _ _ _, _, _, .exc c e x r l => .exc c (s _ _ e) (x.mono s) (RepL.mono s r) l
  | .dct _ _ _, _, _, .dfr e r l => .dfr (s _ _ e) (RepL.mono s r) l
  | .dct _ _ _, _, _, .dow r l => .dow (RepL.mono s r) l
  | .ins _ _ _ _, _, _, .ifr c e e2 r l => .ifr c (s _ _ e) (s _ _ e2) (RepL.mono s r) l
  | .ins _ _ _ _, _, _, .iow c r l => .iow c (RepL.mono s r) l
theorem RepL.mono {F F' : Hp} (s : Sub F F') : ∀ {ds : List D} {vs : List V} {O : Own}, RepL F ds vs O → RepL F' ds vs O
  | [], _, _, .nil => .nil
  | _ :: _, _, _, .cons a b => .cons (Rep.mono s a) (RepL.mono s b)
end
theorem RepL.len {F : Hp} : ∀ {ds : List D} {vs : List V} {O : Own}, RepL F ds vs O → ds.length = vs.length
  | [], _, _, .nil => rfl
  | _ :: _, _, _, .cons _ b => by simp [RepL.len b]
mutual
theorem Rep.free {F : Hp} : ∀ {d : D} {v : V} {O : Own}, Rep F d v O → d.isFz = true → O = []
  | .non, _, _, .non, _ => rfl
  | .bl _, _, _, .bl b, _ => rfl
  | .int _, _, _, .int i, _ => rfl
  | .str _, _, _, .str x, _ => rfl
  | .tup _, _, _, .tup e r, h => RepL.free r (by simpa [D.isFz] using h)
  | .lst _ _, _, _, .fro e r, _ => rfl
  | .lst _ _, _, _, .own r, h => by simp [D.isFz] at h
  | .exc _ _ _, _, _, .exc _ _ _ _ _, _ => rfl
  | .dct _ _ _, _, _, .dfr _ _ _, _ => rfl
  | .dct _ _ _, _, _, .dow _ _, h => by simp [D.isFz] at h
  | .ins _ _ _ _, _, _, .ifr _ _ _ _ _, _ => rfl
  | .ins _ _ _ _, _, _, .iow _ _ _, h => by simp [D.isFz] at h
theorem RepL.free {F : Hp} : ∀ {ds : List D} {vs : List V} {O : Own}, RepL F ds vs O → isFzL ds = true → O = []
  | [], _, _, .nil, _ => rfl
  | _ :: _, _, _, .cons a b, h => by
    simp only [isFzL, Bool.and_eq_true] at h
    rw [Rep.free a h.1, RepL.free b h.2]; rfl
end
omit [CT] in
mutual
theorem fz_fz : ∀ d : D, d.fz.fz = d.fz
  | .non => rfl | .bl _ => rfl | .int _ => rfl | .str _ => rfl
  | .tup xs => by simp only [D.fz, fzL_fzL xs]
  | .lst _ xs => by simp only [D.fz, fzL_fzL xs]
  | .exc _ _ xs => by simp only [D.fz, fzL_fzL xs]
  | .dct _ _ xs => by simp only [D.fz, fzL_fzL xs]
  | .ins _ _ _ xs => by simp only [D.fz, fzL_fzL xs]
theorem fzL_fzL : ∀ ds : List D, fzL (fzL ds) = fzL ds
  | [] => rfl
  | x :: xs => by simp only [fzL, fz_fz x, fzL_fzL xs]
end
omit [CT] in
mutual
theorem isFz_fz : ∀ d : D, d.fz.isFz = true
  | .non => rfl | .bl _ => rfl | .int _ => rfl | .str _ => rfl
  | .tup xs => by simp only [D.fz, D.isFz, isFzL_fzL xs]
  | .lst _ xs => by simp only [D.fz, D.isFz, isFzL_fzL xs, Bool.not_false, Bool.true_and]
  | .exc _ _ xs => by simp only [D.fz, D.isFz, isFzL_fzL xs]
  | .dct _ _ xs => by simp only [D.fz, D.isFz, isFzL_fzL xs, Bool.not_false, Bool.true_and]
  | .ins _ _ _ xs => by simp only [D.fz, D.isFz, isFzL_fzL xs, Bool.not_false, Bool.true_and]
theorem isFzL_fzL : ∀ ds : List D, isFzL (fzL ds) = true
  | [] => rfl
  | x :: xs => by simp only [fzL, isFzL, isFz_fz x, isFzL_fzL xs, Bool.true_and]
end
omit [CT] in
mutual
theorem fz_of : ∀ d : D, d.isFz = true → d.fz = d
  | .non, _ => rfl | .bl _, _ => rfl | .int _, _ => rfl | .str _, _ => rfl
  | .tup xs, h => by simp only [D.fz, fzL_of xs (by simpa [D.isFz] using h)]
  | .lst o xs, h => by
    simp only [D.isFz, Bool.and_eq_true] at h
    have ho : o = false := by simpa using h.1
    simp only [D.fz, fzL_of xs h.2, ho]
  | .exc c fs xs, h => by simp only [D.fz, fzL_of xs (by simpa [D.isFz] using h)]
  | .dct o _ xs, h => by
    simp only [D.isFz, Bool.and_eq_true] at h
    have ho : o = false := by simpa using h.1
    simp only [D.fz, fzL_of xs h.2, ho]
  | .ins o _ _ xs, h => by
    simp only [D.isFz, Bool.and_eq_true] at h
    have ho : o = false := by simpa using h.1
    simp only [D.fz, fzL_of xs h.2, ho]
theorem fzL_of : ∀ ds : List D, isFzL ds = true → fzL ds = ds
  | [], _ => rfl
  | x :: xs, h => by
    simp only [isFzL, Bool.and_eq_true] at h
    simp only [fzL, fz_of x h.1, fzL_of xs h.2]
end
omit [CT] in
theorem fzL_map (ds : List D) : fzL ds = ds.map D.fz := by
  induction ds with
  | nil => rfl
  | cons x xs ih => simp only [fzL, List.map_cons, ih]
omit [CT] in
theorem fzL_length (ds : List D) : (fzL ds).length = ds.length := by rw [fzL_map, List.length_map]
omit [CT] in
mutual
theorem py_fz : ∀ d : D, d.fz.py = d.py
  | .non => rfl | .bl _ => rfl | .int _ => rfl | .str _ => rfl
  | .tup xs => by simp only [D.fz, D.py, pyL_fzL xs]
  | .lst _ xs => by simp only [D.fz, D.py, pyL_fzL xs]
  | .exc _ _ xs => rfl
  | .dct _ _ xs => by cases xs <;> rfl
  | .ins _ _ _ xs => rfl
theorem pyL_fzL : ∀ ds : List D, pyL (fzL ds) = pyL ds
  | [] => rfl
  | x :: xs => by simp only [fzL, pyL, py_fz x, pyL_fzL xs]
end

/-! ### the heap: what is held -/
structure Held (F : Hp) (O : Own) (H : Hp) : Prop where
  f : Sub F H
  o : ∀ p ∈ O, H p.1 = some p.2
  nd : (ads O).Nodup
  dj : ∀ a ∈ ads O, F a = none
structure Next (F : Hp) (O : Own) (H F' : Hp) (O' : Own) (H' : Hp) : Prop where
  held : Held F' O' H'
  f : Sub F F'
  nf : ∀ a, F' a ≠ none → F a ≠ none ∨ a ∈ ads O ∨ H a = none
  no : ∀ a ∈ ads O', a ∈ ads O ∨ H a = none
  st : ∀ a u, H a = some u → a ∉ ads O → H' a = some u
  gr : ∀ a, H' a = none → H a = none
omit [CT] in
theorem Held.perm {F : Hp} {O O' : Own} {H : Hp} (h : Held F O H) (p : O.Perm O') : Held F O' H :=
  ⟨h.f, fun q hq => h.o q (p.mem_iff.mpr hq), (p.map _).nodup_iff.mp h.nd, fun a ha => h.dj a ((p.map _).mem_iff.mpr ha)⟩
omit [CT] in
theorem Held.right {F : Hp} {A B : Own} {H : Hp} (h : Held F (A ++ B) H) : Held F B H :=
  ⟨h.f, fun q hq => h.o q (List.mem_append_right _ hq), by have := h.nd; rw [ads_app, List.nodup_append] at this; exact this.2.1, fun a ha => h.dj a (by rw [ads_app]; exact List.mem_append_right _ ha)⟩
omit [CT] in
theorem Held.left {F : Hp} {A B : Own} {H : Hp} (h : Held F (A ++ B) H) : Held F A H := (h.perm List.perm_append_comm).right
omit [CT] in
theorem Next.refl {F : Hp} {O : Own} {H : Hp} (h : Held F O H) : Next F O H F O H :=
  ⟨h, Sub.refl _, fun _ z => .inl z, fun _ z => .inl z, fun _ _ e _ => e, fun _ e => e⟩
omit [CT] in
theorem Next.perm {F : Hp} {O : Own} {H F' : Hp} {O' O'' : Own} {H' : Hp} (n : Next F O H F' O' H') (p : O'.Perm O'') : Next F O H F' O'' H' :=
  ⟨n.held.perm p, n.f, n.nf, fun a ha => n.no a ((p.map _).mem_iff.mpr ha), n.st, n.gr⟩
omit [CT] in
theorem Next.perm_from {F : Hp} {O O0 : Own} {H F' : Hp} {O' : Own} {H' : Hp} (n : Next F O H F' O' H') (p : O.Perm O0) : Next F O0 H F' O' H' :=
  ⟨n.held, n.f, fun a z => (n.nf a z).imp id (Or.imp (fun q => (p.map _).mem_iff.mp q) id), fun a ha => (n.no a ha).imp (fun q => (p.map _).mem_iff.mp q) id, fun a u e z => n.st a u e fun q => z ((p.map _).mem_iff.mp q), n.gr⟩
omit [CT] in
theorem Next.drop {F : Hp} {O : Own} {H F' : Hp} {A B : Own} {H' : Hp} (n : Next F O H F' (A ++ B) H') : Next F O H F' B H' :=
  ⟨n.held.right, n.f, n.nf, fun a ha => n.no a (by rw [ads_app]; exact List.mem_append_right _ ha), n.st, n.gr⟩
omit [CT] in
theorem Next.trans {F : Hp} {O : Own} {H F1 : Hp} {O1 : Own} {H1 F2 : Hp} {O2 : Own} {H2 : Hp} (n : Next F O H F1 O1 H1) (m : Next F1 O1 H1 F2 O2 H2) : Next F O H F2 O2 H2 := by
  refine ⟨m.held, n.f.trans m.f, fun a z => ?_, fun a ha => ?_, fun a u e z => ?_, fun a e => n.gr a (m.gr a e)⟩
  · rcases m.nf a z with q | q | q
    · exact n.nf a q
    · exact .inr (n.no a q)
    · exact .inr (.inr (n.gr a q))
  · rcases m.no a ha with q | q
    · exact n.no a q
    · exact .inr (n.gr a q)
  · refine m.st a u (n.st a u e z) fun q => ?_
    rcases n.no a q with q | q
    · exact z q
    · rw [e] at q; cases q
omit [CT] in
/-- what is not touched stays -/
theorem Next.frame {F : Hp} {R O : Own} {H F' : Hp} {O' : Own} {H' : Hp} (h : Held F (R ++ O) H) (n : Next F O H F' O' H') : Next F (R ++ O) H F' (R ++ O') H' := by
  have hm : ads (R ++ O) = ads R ++ ads O := List.map_append
  have hm' : ads (R ++ O') = ads R ++ ads O' := List.map_append
  have nd := h.nd
  rw [hm, List.nodup_append] at nd
  have off : ∀ a ∈ ads R, a ∉ ads O := fun a ha hb => nd.2.2 a ha a hb rfl
  have inH : ∀ a ∈ ads R, ∃ u, H a = some u := fun a ha => by
    obtain ⟨p, hp, e⟩ := List.mem_map.mp ha
    exact ⟨p.2, by rw [← e]; exact h.o p (List.mem_append_left _ hp)⟩
  have off' : ∀ a ∈ ads R, a ∉ ads O' := fun a ha hb => by
    rcases n.no a hb with q | q
    · exact off a ha q
    · obtain ⟨u, e⟩ := inH a ha
      rw [e] at q; cases q
  refine ⟨⟨n.held.f, fun p hp => ?_, ?_, fun a ha => ?_⟩, n.f, fun a z => ?_, fun a ha => ?_, fun a u e z => ?_, n.gr⟩
  · rcases List.mem_append.mp hp with hp | hp
    · exact n.st _ _ (h.o p (List.mem_append_left _ hp)) (off _ (List.mem_map.mpr ⟨p, hp, rfl⟩))
    · exact n.held.o p hp
  · rw [hm', List.nodup_append]
    exact ⟨nd.1, n.held.nd, fun a ha b hb e => off' a ha (e ▸ hb)⟩
  · rw [hm'] at ha
    rcases List.mem_append.mp ha with ha | ha
    · cases q : F' a with
      | none => rfl
      | some u =>
        rcases n.nf a (by rw [q]; simp) with z | z | z
        · exact absurd (h.dj a (by rw [hm]; exact List.mem_append_left _ ha)) z
        · exact absurd z (off a ha)
        · obtain ⟨u', e⟩ := inH a ha
          rw [e] at z; cases z
    · exact n.held.dj a ha
  · rcases n.nf a z with q | q | q
    · exact .inl q
    · exact .inr (.inl (by rw [hm]; exact List.mem_append_right _ q))
    · exact .inr (.inr q)
  · rw [hm'] at ha
    rcases List.mem_append.mp ha with ha | ha
    · exact .inl (by rw [hm]; exact List.mem_append_left _ ha)
    · rcases n.no a ha with q | q
      · exact .inl (by rw [hm]; exact List.mem_append_right _ q)
      · exact .inr q
  · exact n.st a u e fun q => z (by rw [hm]; exact List.mem_append_right _ q)
omit [CT] in
theorem Held.fresh {F : Hp} {O : Own} {H : Hp} (h : Held F O H) {p : Addr} (e : H p = none) : F p = none ∧ p ∉ ads O := by
  refine ⟨?_, fun q => ?_⟩
  · cases z : F p with
    | none => rfl
    | some u => rw [h.f _ _ z] at e; cases e
  · obtain ⟨r, hr, z⟩ := List.mem_map.mp q
    have := h.o r hr
    rw [z, e] at this; cases this
omit [CT] in
/-- a new object that will never change -/
theorem Next.newF {F : Hp} {O : Own} {H : Hp} (h : Held F O H) {p : Addr} (e : H p = none) (u : HO) : Next F O H (upd F p u) O (upd H p u) := by
  obtain ⟨e1, e2⟩ := h.fresh e
  refine ⟨⟨fun a w z => ?_, fun q hq => ?_, h.nd, fun a ha => ?_⟩, fun a w z => ?_, fun a z => ?_, fun a ha => .inl ha, fun a w z _ => ?_, fun a z => ?_⟩
  · by_cases hb : a = p
    · subst hb; rw [upd_same] at z ⊢; exact z
    · rw [upd_ne hb] at z ⊢; exact h.f _ _ z
  · have hb : q.1 ≠ p := fun z => e2 (z ▸ List.mem_map.mpr ⟨q, hq, rfl⟩)
    rw [upd_ne hb]; exact h.o q hq
  · have hb : a ≠ p := fun z => e2 (z ▸ ha)
    rw [upd_ne hb]; exact h.dj a ha
  · have hb : a ≠ p := fun q => by rw [q, e1] at z; cases z
    rw [upd_ne hb]; exact z
  · by_cases hb : a = p
    · exact .inr (.inr (hb ▸ e))
    · rw [upd_ne hb] at z; exact .inl z
  · have hb : a ≠ p := fun q => by rw [q, e] at z; cases z
    rw [upd_ne hb]; exact z
  · by_cases hb : a = p
    · rw [hb]; exact e
    · rw [upd_ne hb] at z; exact z
omit [CT] in
/-- a new list that may be changed -/
theorem Next.newO {F : Hp} {O : Own} {H : Hp} (h : Held F O H) {p : Addr} (e : H p = none) (u : HO) : Next F O H F ((p, u) :: O) (upd H p u) := by
  obtain ⟨e1, e2⟩ := h.fresh e
  refine ⟨⟨fun a w z => ?_, fun q hq => ?_, ?_, fun a ha => ?_⟩, Sub.refl _, fun a z => .inl z, fun a ha => ?_, fun a w z _ => ?_, fun a z => ?_⟩
  · have hb : a ≠ p := fun q => by rw [q, e1] at z; cases z
    rw [upd_ne hb]; exact h.f _ _ z
  · rcases List.mem_cons.mp hq with rfl | hq
    · exact upd_same
    · have hb : q.1 ≠ p := fun z => e2 (z ▸ List.mem_map.mpr ⟨q, hq, rfl⟩)
      rw [upd_ne hb]; exact h.o q hq
  · show (p :: ads O).Nodup
    exact List.nodup_cons.mpr ⟨e2, h.nd⟩
  · rcases List.mem_cons.mp (show a ∈ p :: ads O from ha) with rfl | ha
    · exact e1
    · exact h.dj a ha
  · rcases List.mem_cons.mp (show a ∈ p :: ads O from ha) with rfl | ha
    · exact .inr e
    · exact .inl ha
  · have hb : a ≠ p := fun q => by rw [q, e] at z; cases z
    rw [upd_ne hb]; exact z
  · by_cases hb : a = p
    · rw [hb]; exact e
    · rw [upd_ne hb] at z; exact z
omit [CT] in
/-- a list of one's own is changed -/
theorem Next.write {F : Hp} {O : Own} {H : Hp} {a : Addr} {u : HO} (h : Held F ((a, u) :: O) H) (u' : HO) : Next F ((a, u) :: O) H F ((a, u') :: O) (upd H a u') := by
  have nd := h.nd
  have nd' : a ∉ ads O ∧ (ads O).Nodup := List.nodup_cons.mp nd
  have ha : F a = none := h.dj a (List.mem_cons_self)
  refine ⟨⟨fun b w z => ?_, fun q hq => ?_, nd, fun b hb => h.dj b hb⟩, Sub.refl _, fun b z => .inl z, fun b hb => .inl hb, fun b w z hb => ?_, fun b z => ?_⟩
  · have hb : b ≠ a := fun q => by rw [q, ha] at z; cases z
    rw [upd_ne hb]; exact h.f _ _ z
  · rcases List.mem_cons.mp hq with rfl | hq
    · exact upd_same
    · have hb : q.1 ≠ a := fun z => nd'.1 (z ▸ List.mem_map.mpr ⟨q, hq, rfl⟩)
      rw [upd_ne hb]; exact h.o q (List.mem_cons_of_mem _ hq)
  · have hn : b ≠ a := fun q => hb (q ▸ List.mem_cons_self)
    rw [upd_ne hn]; exact z
  · by_cases hb : b = a
    · rw [hb, upd_same] at z; cases z
    · rw [upd_ne hb] at z; exact z

/-! ### freezing -/
def addF (F : Hp) : Own → Hp
  | [] => F
  | p :: O => upd (addF F O) p.1 p.2
omit [CT] in
theorem addF_out {F : Hp} {a : Addr} : ∀ {O : Own}, a ∉ ads O → addF F O a = F a
  | [], _ => rfl
  | p :: O, h => by
    have h' : a ≠ p.1 ∧ a ∉ ads O := by simpa [ads] using h
    show upd (addF F O) p.1 p.2 a = F a
    rw [upd_ne h'.1, addF_out h'.2]
omit [CT] in
theorem addF_in {F : Hp} : ∀ {O : Own}, (ads O).Nodup → ∀ p ∈ O, addF F O p.1 = some p.2
  | [], _, p, h => by cases h
  | q :: O, nd, p, h => by
    have nd' : q.1 ∉ ads O ∧ (ads O).Nodup := List.nodup_cons.mp nd
    show upd (addF F O) q.1 q.2 p.1 = some p.2
    rcases List.mem_cons.mp h with e | h
    · rw [e]; exact upd_same
    · have hb : p.1 ≠ q.1 := fun z => nd'.1 (z ▸ List.mem_map.mpr ⟨p, h, rfl⟩)
      rw [upd_ne hb]; exact addF_in nd'.2 p h
omit [CT] in
theorem Next.freeze {F : Hp} {A B : Own} {H : Hp} (h : Held F (A ++ B) H) : Next F (A ++ B) H (addF F A) B H := by
  have hm : ads (A ++ B) = ads A ++ ads B := List.map_append
  have nd := h.nd
  rw [hm, List.nodup_append] at nd
  have cas : ∀ a, a ∈ ads A ∨ a ∉ ads A := fun a => Classical.em _
  refine ⟨⟨fun a u e => ?_, fun p hp => h.o p (List.mem_append_right _ hp), nd.2.1, fun a ha => ?_⟩, fun a u e => ?_, fun a z => ?_, fun a ha => .inl (by rw [hm]; exact List.mem_append_right _ ha), fun a u e _ => e, fun a e => e⟩
  · rcases cas a with q | q
    · obtain ⟨p, hp, z⟩ := List.mem_map.mp q
      have e1 := addF_in (F := F) nd.1 p hp
      rw [z] at e1
      rw [e1] at e; cases e
      rw [← z]; exact h.o p (List.mem_append_left _ hp)
    · rw [addF_out q] at e; exact h.f _ _ e
  · have q : a ∉ ads A := fun q => nd.2.2 a q a ha rfl
    rw [addF_out q]
    exact h.dj a (by rw [hm]; exact List.mem_append_right _ ha)
  · have q : a ∉ ads A := fun q => by
      have := h.dj a (by rw [hm]; exact List.mem_append_left _ q)
      rw [e] at this; cases this
    rw [addF_out q]; exact e
  · rcases cas a with q | q
    · exact .inr (.inl (by rw [hm]; exact List.mem_append_left _ q))
    · rw [addF_out q] at z; exact .inl z
mutual
/-- all that it owns is known to F' -/
theorem Rep.froz {F F' : Hp} (s : Sub F F') : ∀ {d : D} {v : V} {O : Own}, Rep F d v O → (∀ p ∈ O, F' p.1 = some p.2) → Rep F' d.fz v []
  | .non, _, _, .non, _ => .non
  | .bl _, _, _, .bl b, _ => .bl b
  | .int _, _, _, .int i, _ => .int i
  | .str _, _, _, .str x, _ => .str x
  | .tup _, _, _, .tup e r, h => by
    rw [D.fz]
    exact .tup (s _ _ e) (RepL.froz s r h)
  | .lst _ _, _, _, .fro e r, h => by
    rw [D.fz]
    exact .fro (s.rd e) (RepL.froz s r fun p hp => by cases hp)
  | .lst _ _, _, _, .own r, h => by
    rw [D.fz]
    exact .fro (.inl (h _ List.mem_cons_self)) (RepL.froz s r fun p hp => h p (List.mem_cons_of_mem _ hp))
  | .exc _ _ _, _, _, .exc c e x r l, h => by
    rw [D.fz]
    exact .exc c (s _ _ e) (x.mono s) (RepL.froz s r fun p hp => by cases hp) (by rw [fzL_length]; exact l)
  | .dct _ _ _, _, _, .dfr e r l, h => by
    rw [D.fz]
    exact .dfr (s _ _ e) (RepL.froz s r fun p hp => by cases hp) (by rw [fzL_length]; exact l)
  | .dct _ _ _, _, _, .dow r l, h => by
    rw [D.fz]
    exact .dfr (h _ List.mem_cons_self) (RepL.froz s r fun p hp => h p (List.mem_cons_of_mem _ hp)) (by rw [fzL_length]; exact l)
  | .ins _ _ _ _, _, _, .ifr c e e2 r l, h => by
    rw [D.fz]
    exact .ifr c (s _ _ e) (s _ _ e2) (RepL.froz s r fun p hp => by cases hp) (by rw [fzL_length]; exact l)
  | .ins _ _ _ _, _, _, .iow c r l, h => by
    rw [D.fz]
    exact .ifr c (h _ List.mem_cons_self) (h _ (List.mem_cons_of_mem _ List.mem_cons_self)) (RepL.froz s r fun p hp => h p (List.mem_cons_of_mem _ (List.mem_cons_of_mem _ hp))) (by rw [fzL_length]; exact l)
theorem RepL.froz {F F' : Hp} (s : Sub F F') : ∀ {ds : List D} {vs : List V} {O : Own}, RepL F ds vs O → (∀ p ∈ O, F' p.1 = some p.2) → RepL F' (fzL ds) vs []
  | [], _, _, .nil, _ => .nil
  | _ :: _, _, _, .cons a b, h => by
    rw [fzL]
    exact RepL.cons (O1 := []) (O2 := []) (Rep.froz s a fun p hp => h p (List.mem_append_left _ hp)) (RepL.froz s b fun p hp => h p (List.mem_append_right _ hp))
end
omit [CT] in
theorem addF_sub {F : Hp} {A B : Own} {H : Hp} (h : Held F (A ++ B) H) : Sub F (addF F A) := (Next.freeze h).f
theorem Rep.frozen {F : Hp} {A B : Own} {H : Hp} {d : D} {v : V} (r : Rep F d v A) (h : Held F (A ++ B) H) : Rep (addF F A) d.fz v [] :=
  r.froz (addF_sub h) (addF_in h.left.nd)
theorem RepL.frozen {F : Hp} {A B : Own} {H : Hp} {ds : List D} {vs : List V} (r : RepL F ds vs A) (h : Held F (A ++ B) H) : RepL (addF F A) (fzL ds) vs [] :=
  r.froz (addF_sub h) (addF_in h.left.nd)

theorem RepL.append {F : Hp} : ∀ {ds : List D} {vs : List V} {O : Own} {es : List D} {us : List V} {P : Own}, RepL F ds vs O → RepL F es us P → RepL F (ds ++ es) (vs ++ us) (O ++ P)
  | [], _, _, _, _, _, .nil, s => s
  | _ :: _, _, _, _, _, _, .cons a b, s => by
    rw [List.append_assoc]
    exact .cons a (RepL.append b s)
/-- one item of a list: its part and the rest -/
theorem RepL.nth {F : Hp} : ∀ {ds : List D} {vs : List V} {O : Own} {j : Nat} {d : D}, RepL F ds vs O → ds[j]? = some d → ∃ v A B C, vs[j]? = some v ∧ Rep F d v B ∧ O = A ++ B ++ C ∧
    ∀ {F' : Hp} {d' : D} {v' : V} {B' : Own}, Sub F F' → Rep F' d' v' B' → RepL F' (ds.set j d') (vs.set j v') (A ++ B' ++ C)
  | [], _, _, _, _, .nil, e => by simp at e
  | x :: xs, _, _, 0, d, .cons (O1 := O1) (O2 := O2) a b, e => by
    simp at e; subst e
    refine ⟨_, [], O1, O2, rfl, a, by simp, fun {F' d' v' B'} s r => ?_⟩
    simp only [List.set_cons_zero, List.nil_append]
    exact .cons r (b.mono s)
  | x :: xs, _, _, j + 1, d, .cons (O1 := O1) (O2 := O2) a b, e => by
    obtain ⟨v, A, B, C, h1, h2, h3, h4⟩ := RepL.nth (j := j) b (by simpa using e)
    refine ⟨v, O1 ++ A, B, C, by simpa using h1, h2, by rw [h3]; simp [List.append_assoc], fun {F' d' v' B'} s r => ?_⟩
    simp only [List.set_cons_succ]
    have q := RepL.cons (a.mono s) (h4 s r)
    rw [show O1 ++ A ++ B' ++ C = O1 ++ (A ++ B' ++ C) by simp [List.append_assoc]]
    exact q
theorem RepL.nth_none {F : Hp} {ds : List D} {vs : List V} {O : Own} (r : RepL F ds vs O) {j : Nat} (e : ds[j]? = none) : vs[j]? = none := by
  rw [List.getElem?_eq_none_iff] at e ⊢
  rw [← r.len]; exact e

/-! ### names -/
inductive SimE (F : Hp) : Env → St → Own → Prop where
  | nil : SimE F [] [] []
  | no {env : Env} {σ : St} {O : Own} (s : Option V) : SimE F env σ O → SimE F (none :: env) (s :: σ) O
  | yes {d : D} {v : V} {env : Env} {σ : St} {O1 O2 : Own} : Rep F d v O1 → SimE F env σ O2 → SimE F (some d :: env) (some v :: σ) (O1 ++ O2)
theorem SimE.mono {F F' : Hp} (s : Sub F F') {env : Env} {σ : St} {O : Own} (h : SimE F env σ O) : SimE F' env σ O := by
  induction h with
  | nil => exact .nil
  | no t _ ih => exact .no t ih
  | yes r _ ih => exact .yes (r.mono s) ih
theorem SimE.len {F : Hp} {env : Env} {σ : St} {O : Own} (h : SimE F env σ O) : env.length = σ.length := by
  induction h with
  | nil => rfl
  | no t _ ih => simp [ih]
  | yes r _ ih => simp [ih]
theorem SimE.take {F : Hp} {env : Env} {σ : St} {O : Own} (h : SimE F env σ O) : ∀ {i : Nat} {d : D}, env[i]? = some (some d) → ∃ v A B, σ[i]? = some (some v) ∧ Rep F d v A ∧ SimE F (env.set i none) σ B ∧ O.Perm (A ++ B) := by
  induction h with
  | nil => intro i d e; simp at e
  | no t _ ih =>
    intro i d e
    cases i with
    | zero => simp at e
    | succ i =>
      obtain ⟨v, A, B, h1, h2, h3, h4⟩ := ih (i := i) (by simpa using e)
      exact ⟨v, A, B, by simpa using h1, h2, .no t h3, h4⟩
  | @yes d0 v0 env σ O1 O2 r hs ih =>
    intro i d e
    cases i with
    | zero =>
      simp at e; subst e
      exact ⟨v0, O1, O2, rfl, r, .no _ hs, List.Perm.refl _⟩
    | succ i =>
      obtain ⟨v, A, B, h1, h2, h3, h4⟩ := ih (i := i) (by simpa using e)
      refine ⟨v, A, O1 ++ B, by simpa using h1, h2, .yes r h3, ?_⟩
      have q : (O1 ++ O2).Perm (O1 ++ (A ++ B)) := h4.append_left _
      refine q.trans ?_
      rw [← List.append_assoc, ← List.append_assoc]
      exact List.perm_append_comm.append_right _
/-- a slot that holds nothing is filled, wherever its place in the frame may be -/
theorem SimE.put {F : Hp} {env : Env} {σ : St} {O : Own} (h : SimE F env σ O) : ∀ {i : Nat} {d : D} {v : V} {A : Own}, env[i]? = some none → Rep F d v A → ∃ B, SimE F (env.set i (some d)) (σ.set i (some v)) B ∧ B.Perm (A ++ O) := by
  induction h with
  | nil => intro i d v A e; simp at e
  | @no env σ O t hs ih =>
    intro i d v A e r
    cases i with
    | zero => exact ⟨A ++ O, .yes r hs, List.Perm.refl _⟩
    | succ i =>
      obtain ⟨B, h1, h2⟩ := ih (i := i) (by simpa using e) r
      exact ⟨B, .no t h1, h2⟩
  | @yes d0 v0 env σ O1 O2 r0 hs ih =>
    intro i d v A e r
    cases i with
    | zero => simp at e
    | succ i =>
      obtain ⟨B, h1, h2⟩ := ih (i := i) (by simpa using e) r
      refine ⟨O1 ++ B, .yes r0 h1, ?_⟩
      refine (h2.append_left _).trans ?_
      rw [← List.append_assoc, ← List.append_assoc]
      exact List.perm_append_comm.append_right _
omit [CT] in
theorem set_self {α : Type} {l : List α} {i : Nat} {a : α} (h : l[i]? = some a) : l.set i a = l := by
  apply List.ext_getElem?
  intro j
  by_cases e : i = j
  · subst e
    rw [List.getElem?_set_self (by have := (List.getElem?_eq_some_iff.mp h).1; exact this), h]
  · rw [List.getElem?_set_ne e]
/-- a slot is emptied -/
theorem SimE.wipe {F : Hp} {env : Env} {σ : St} {O : Own} (h : SimE F env σ O) (i : Nat) : ∃ A B, SimE F (env.set i none) σ B ∧ O.Perm (A ++ B) := by
  cases e : env[i]? with
  | none => 
    rw [List.set_eq_of_length_le (by simpa using e)]
    exact ⟨[], O, h, List.Perm.refl _⟩
  | some o =>
    cases o with
    | none => rw [set_self e]; exact ⟨[], O, h, List.Perm.refl _⟩
    | some d =>
      obtain ⟨v, A, B, _, _, h3, h4⟩ := h.take e
      exact ⟨A, B, h3, h4⟩
/-- an empty slot: the frame's value there doesn't matter -/
theorem SimE.any {F : Hp} {env : Env} {σ : St} {O : Own} (h : SimE F env σ O) : ∀ {i : Nat} (s : Option V), env[i]? = some none → SimE F env (σ.set i s) O := by
  induction h with
  | nil => intro i s e; simp at e
  | no t hs ih =>
    intro i s e
    cases i with
    | zero => exact .no s hs
    | succ i => exact .no t (ih s (by simpa using e))
  | yes r hs ih =>
    intro i s e
    cases i with
    | zero => simp at e
    | succ i => exact .yes r (ih s (by simpa using e))
/-- a name is stored -/
theorem SimE.store {F : Hp} {env : Env} {σ : St} {O : Own} (h : SimE F env σ O) {i : Nat} (hi : i < env.length) {d : D} {v : V} {A : Own} (r : Rep F d v A) : ∃ Z B C, SimE F (env.set i (some d)) (σ.set i (some v)) C ∧ O.Perm (Z ++ B) ∧ C.Perm (A ++ B) := by
  obtain ⟨Z, B, h1, h2⟩ := h.wipe i
  obtain ⟨C, h3, h4⟩ := h1.put (i := i) (by rw [List.getElem?_set_self hi]) r
  rw [List.set_set] at h3
  exact ⟨Z, B, C, h3, h2, h4⟩
end DP

/-! DpD: what operators do with data, against the rules by values. -/
namespace DP
open PySem (Addr sizeLine wpAny model Value Shared)
open L2
variable [CT]

/-- some rule that holds -/
def anyR (X : Cx) (f : Value → Value → PySem.Sem Value) : R2 := fun x y H Q => ∃ r : R2, OpR X f r ∧ r x y H Q
theorem any_ok {X : Cx} {f : Value → Value → PySem.Sem Value} : OpR X f (anyR X f) := by
  intro pins s σ H x y v u Q I rx ry h
  obtain ⟨r, hr, q⟩ := h
  exact hr pins s σ H x y v u Q I rx ry q
def anyC (X : Cx) (f : Value) : List V → Hp → VK → Prop := fun xs H Q => ∃ r : List V → Hp → VK → Prop, CallR X f r ∧ r xs H Q
theorem anyC_ok {X : Cx} {f : Value} : CallR X f (anyC X f) := by
  intro pins s σ H xs us Q I rx h
  obtain ⟨r, hr, q⟩ := h
  exact hr pins s σ H xs us Q I rx q
def anyU (X : Cx) (f : Value → PySem.Sem Value) : V → Hp → VK → Prop := fun x H Q => ∃ r : V → Hp → VK → Prop, UnR X f r ∧ r x H Q
theorem anyU_ok {X : Cx} {f : Value → PySem.Sem Value} : UnR X f (anyU X f) := by
  intro pins s σ H x v Q I rx h
  obtain ⟨r, hr, q⟩ := h
  exact hr pins s σ H x v Q I rx q

/-- what is wanted of a result d: O was used up for it, Oe stands -/
def Res (F : Hp) (O Oe : Own) (H : Hp) (Qv : VK) (d : D) : Prop :=
  ∀ F' Od v H', Next F (O ++ Oe) H F' (Od ++ Oe) H' → Rep F' d v Od → Qv v H'
section
variable {F : Hp} {O Oe Z Od : Own} {H : Hp} {Qv : VK} {d : D} {v : V}
theorem Next.keep {O' : Own} (h : Held F O H) (p : O.Perm (Z ++ O')) : Next F O H F O' H := ((Next.refl h).perm p).drop
theorem Next.keep2 {O' : Own} (h : Held F (O ++ Oe) H) (p : O.Perm (Z ++ O')) : Next F (O ++ Oe) H F (O' ++ Oe) H :=
  Next.keep (Z := Z) h (by rw [← List.append_assoc]; exact p.append_right _)
theorem Res.at (q : Res F O Oe H Qv d) (h : Held F (O ++ Oe) H) (r : Rep F d v Od) (p : O.Perm (Z ++ Od)) : Qv v H := q F Od v H (Next.keep2 h p) r
theorem Res.atom (q : Res F O Oe H Qv d) (h : Held F (O ++ Oe) H) (r : Rep F d v []) : Qv v H := q.at h r (Z := O) (by simp)
theorem Res.int {i : Int} (q : Res F O Oe H Qv (.int i)) (h : Held F (O ++ Oe) H) : Qv (.int i) H := q.atom h (.int i)
theorem Res.bl {i : Bool} (q : Res F O Oe H Qv (.bl i)) (h : Held F (O ++ Oe) H) : Qv (.bl i) H := q.atom h (.bl i)
theorem Res.str {i : PySem.Str} (q : Res F O Oe H Qv (.str i)) (h : Held F (O ++ Oe) H) : Qv (.str i) H := q.atom h (.str i)
/-- a new list of items that were owned by what is used up -/
theorem Res.newL {ds : List D} {vs : List V} (q : Res F O Oe H Qv (.lst true ds)) (h : Held F (O ++ Oe) H) (r : RepL F ds vs Od) (p : O.Perm (Z ++ Od)) {a : Addr} (ha : H a = none) : Qv (.ref a) (upd H a (.lst vs)) := by
  have n1 := Next.keep2 h p
  have n2 := Next.newO n1.held ha (.lst vs)
  exact q F ((a, .lst vs) :: Od) (.ref a) _ (n1.trans n2) (.own r)
theorem Res.newT {ds : List D} {vs : List V} (q : Res F O Oe H Qv (.tup ds)) (h : Held F (O ++ Oe) H) (r : RepL F ds vs Od) (p : O.Perm (Z ++ Od)) {a : Addr} (ha : H a = none) : Qv (.ref a) (upd H a (.tup vs)) := by
  have n1 := Next.keep2 h p
  have n2 := Next.newF n1.held ha (.tup vs)
  exact q _ Od (.ref a) _ (n1.trans n2) (.tup upd_same (r.mono n2.f))

/-- a list, as the heap has it -/
theorem Rep.lstI {o : Bool} {ds : List D} (r : Rep F (.lst o ds) v O) (h : Held F (O ++ Oe) H) : ∃ a vs O', v = .ref a ∧ Rd H a (.lst vs) ∧ RepL F ds vs O' ∧ (∃ Z, O.Perm (Z ++ O')) ∧ (o = true → H a = some (.lst vs) ∧ O = (a, .lst vs) :: O') ∧ (o = false → O = [] ∧ O' = []) := by
  cases r with
  | fro e r => exact ⟨_, _, [], rfl, h.f.rd e, r, ⟨[], by simp⟩, fun z => by simp at z, fun _ => ⟨rfl, rfl⟩⟩
  | @own a vs ds O' r =>
    have e : H a = some (.lst vs) := h.o (a, .lst vs) (by simp)
    exact ⟨a, vs, O', rfl, .inl e, r, ⟨[(a, .lst vs)], by simp⟩, fun _ => ⟨e, rfl⟩, fun z => by simp at z⟩
theorem Rep.tupI {ds : List D} (r : Rep F (.tup ds) v O) (h : Held F (O ++ Oe) H) : ∃ a vs, v = .ref a ∧ F a = some (.tup vs) ∧ H a = some (.tup vs) ∧ RepL F ds vs O := by
  cases r with
  | tup e r => exact ⟨_, _, rfl, e, h.f _ _ e, r⟩
theorem Rep.intI {i : Int} (r : Rep F (.int i) v O) : v = .int i ∧ O = [] := by cases r; exact ⟨rfl, rfl⟩
theorem Rep.strI {i : PySem.Str} (r : Rep F (.str i) v O) : v = .str i ∧ O = [] := by cases r; exact ⟨rfl, rfl⟩
theorem Rep.blI {i : Bool} (r : Rep F (.bl i) v O) : v = .bl i ∧ O = [] := by cases r; exact ⟨rfl, rfl⟩
theorem Rep.nonI (r : Rep F .non v O) : v = .non ∧ O = [] := by cases r; exact ⟨rfl, rfl⟩
theorem SqL.rd {K : PySem.W.Frag} {a : Addr} {xs : List V} (r : Rd H a (.lst xs)) : SqL K H a xs := .inl r
end

section
variable {X : Cx}
/-- list + list, either may be the script -/
def rCat2 : R2 := fun x y H Q => ∃ l b xs zs, x = .ref l ∧ y = .ref b ∧ Rd H l (.lst xs) ∧ Rd H b (.lst zs) ∧ xs.length + zs.length ≤ sizeLine ∧ ∀ p, H p = none → Q (.ref p) (upd H p (.lst (xs ++ zs)))
theorem op_cat2 : OpR X (PySem.binaryOp .Add) rCat2 := by
  intro pins s σ H x y v u Q I rx ry h
  obtain ⟨l, b, xs, zs, rfl, rfl, hH, hB, hz, q⟩ := h
  cases rx; cases ry
  obtain ⟨z1, its1, n1, r1, e1⟩ := hH.ok I.hok
  obtain ⟨z2, its2, n2, r2, e2⟩ := hB.ok I.hok
  have hl1 := r1.length
  have hl2 := r2.length
  refine PySem.P.add_list e1 e2 ?_ (by simp only [List.size_toArray]; omega)
  rw [show its1.toArray ++ its2.toArray = (its1 ++ its2).toArray by simp]
  refine ⟨.ref s.heap.objs.size, upd H s.heap.objs.size (.lst (xs ++ zs)), ?_, rfl, q _ I.fresh⟩
  exact Inv.lnew (t' := s.toks) I (r1.append r2) (by rw [List.length_append]; exact hz)
/-- list * int, it may be the script -/
def rRep2 : R2 := fun x y H Q => ∃ l k xs, x = .ref l ∧ y = .int k ∧ Rd H l (.lst xs) ∧ -(2 ^ 63) ≤ k ∧ k < 2 ^ 63 ∧ xs.length * k.toNat ≤ sizeLine ∧ ∀ p, H p = none → Q (.ref p) (upd H p (.lst (List.replicate k.toNat xs).flatten))
theorem op_rep2 : OpR X (PySem.binaryOp .Mult) rRep2 := by
  intro pins s σ H x y v u Q I rx ry h
  obtain ⟨l, k, xs, rfl, rfl, hH, h1, h2, hz, q⟩ := h
  cases rx
  obtain ⟨t, rfl⟩ := ry
  obtain ⟨z, its, n, r, e⟩ := hH.ok I.hok
  have hl := r.length
  have few : its.toArray.size * k.toNat ≤ sizeLine := by rw [List.size_toArray, ← hl]; exact hz
  have cap : ¬ its.toArray.size * k.toNat > (2 ^ 63 - 1) / 8 := by
    have : (sizeLine : Nat) ≤ (2 ^ 63 - 1) / 8 := by decide
    omega
  have fit : ¬ (!PySem.Builtin.List.listFitsIndex k) = true := by
    rw [PySem.fitsIndex_both h1 h2]; simp
  have long : ¬ PySem.Builtin.List.listTooLong (its.toArray.size * k.toNat) = true := by
    rw [notLongL few]; simp
  have f0 : ∀ m : Nat, List.foldl (fun x1 x2 => x1 ++ x2) #[] (List.replicate m its.toArray) = (List.replicate m its).flatten.toArray := fun m => by
    have := foldl_rep its m []
    rw [List.nil_append] at this
    exact this
  have new : List.foldl (fun x1 x2 => x1 ++ x2) #[] (List.replicate (if its.toArray.isEmpty = true then 0 else k.toNat) its.toArray) = (List.replicate k.toNat its).flatten.toArray := by
    rw [f0]
    cases its with
    | nil => simp
    | cons a r' => rw [if_neg (by simp)]
  have ty : s.TypeIs (.ref l) "list" := ⟨_, e, rfl⟩
  refine PySem.wpAny_binaryOp_repeat_ref (T := "list") (U := "int") (by decide) ty (fun s' => PySem.typeIs_int s' k t) PySem.noFill_list_mul PySem.F.fills_int_mul PySem.F.slot_int_rmul PySem.repeat_list PySem.F.slot_int_index.lookup ?_
  refine PySem.call_meets PySem.F.slot_int_rmul (PySem.typeIs_int s k t) PySem.F.entry_int_rmul (PySem.F.args_int_rmul_2 _ _) (PySem.int___rmul___int_list k t l its.toArray n) ⟨e, rfl, ty, ?_⟩
  refine PySem.call_meets PySem.F.slot_list_mul ty PySem.F.entry_list_mul (PySem.F.args_list_mul_2 _ _) (PySem.AutoListH.list___mul___list_int_3 l its.toArray n k t fit cap long) ⟨e, ?_⟩
  rw [new]
  refine ⟨.ref s.heap.objs.size, upd H s.heap.objs.size (.lst (List.replicate k.toNat xs).flatten), ?_, rfl, q _ I.fresh⟩
  exact Inv.lnew (t' := s.toks) I (r.rep k.toNat) (by rw [PyProof.Rows.lm_len_rep_flat, Nat.mul_comm]; exact hz)
theorem op_powW : OpR X (PySem.binaryOp .Pow) (rI PowOk fun i j => .int (i ^ j.toNat)) := opI fun _ _ _ _ _ _ _ hc q => PyProof.Rows.pow_int hc.1 hc.2 q

theorem repL_rep {F : Hp} {ds : List D} {vs : List V} (r : RepL F ds vs []) : ∀ n : Nat, RepL F (repD ds n) (List.replicate n vs).flatten []
  | 0 => .nil
  | n + 1 => by
    rw [List.replicate_succ, List.flatten_cons]
    exact RepL.append (O := []) (P := []) r (repL_rep r n)

theorem bin_ok {o : Op} {d1 d2 : D} {Q : D → Prop} {F : Hp} {O1 O2 Oe : Own} {H : Hp} {v1 v2 : V} {Qv : VK} (w : binD o d1 d2 Q) (r1 : Rep F d1 v1 O1) (r2 : Rep F d2 v2 O2) (h : Held F ((O1 ++ O2) ++ Oe) H)
    (k : ∀ d, Q d → Res F (O1 ++ O2) Oe H Qv d) : anyR X (PySem.binaryOp (opOf o)) v1 v2 H Qv := by
  unfold binD at w
  split at w
  · obtain ⟨rfl, rfl⟩ := r1.intI; obtain ⟨rfl, rfl⟩ := r2.intI
    exact ⟨_, op_add, _, _, rfl, rfl, (k _ w).int h⟩
  · obtain ⟨rfl, rfl⟩ := r1.strI; obtain ⟨rfl, rfl⟩ := r2.strI
    exact ⟨_, op_add_str, _, _, rfl, rfl, w.1, (k _ w.2).str h⟩
  · obtain ⟨a, vs, O1', rfl, e1, q1, ⟨Z1, p1⟩, _⟩ := r1.lstI (Oe := O2 ++ Oe) (by rw [← List.append_assoc]; exact h)
    obtain ⟨b, us, O2', rfl, e2, q2, ⟨Z2, p2⟩, _⟩ := r2.lstI (Oe := O1 ++ Oe) (h.perm (by rw [← List.append_assoc]; exact List.perm_append_comm.append_right _))
    refine ⟨_, op_cat2, _, _, _, _, rfl, rfl, e1, e2, by rw [← q1.len, ← q2.len]; exact w.1, fun p hp => ?_⟩
    refine (k _ w.2).newL h (q1.append q2) (Z := Z1 ++ Z2) ?_ hp
    refine (p1.append p2).trans ?_
    rw [List.append_assoc, List.append_assoc]
    refine List.Perm.append_left _ ?_
    rw [← List.append_assoc, ← List.append_assoc]
    exact List.perm_append_comm.append_right _
  · obtain ⟨a, vs, rfl, _, e1, q1⟩ := r1.tupI (Oe := O2 ++ Oe) (by rw [← List.append_assoc]; exact h)
    obtain ⟨b, us, rfl, _, e2, q2⟩ := r2.tupI (Oe := O1 ++ Oe) (h.perm (by rw [← List.append_assoc]; exact List.perm_append_comm.append_right _))
    obtain ⟨w1, w2, w3, w4⟩ := w
    have n1 : vs ≠ [] := fun z => w1 (by have := q1.len; rw [z] at this; simpa using this)
    have n2 : us ≠ [] := fun z => w2 (by have := q2.len; rw [z] at this; simpa using this)
    refine ⟨_, op_catT, _, _, _, _, rfl, rfl, SqT.of e1, SqT.of e2, n1, by rw [← q1.len, ← q2.len]; exact w3, fun z => absurd z n2, fun _ p hp => ?_⟩
    exact (k _ w4).newT h (q1.append q2) (Z := []) (by simp) hp
  · obtain ⟨rfl, rfl⟩ := r1.intI; obtain ⟨rfl, rfl⟩ := r2.intI
    exact ⟨_, op_sub, _, _, rfl, rfl, (k _ w).int h⟩
  · obtain ⟨rfl, rfl⟩ := r1.intI; obtain ⟨rfl, rfl⟩ := r2.intI
    exact ⟨_, op_mulW, _, _, rfl, rfl, w.1, (k _ w.2).int h⟩
  · rename_i o' a n
    obtain ⟨rfl, rfl⟩ := r2.intI
    obtain ⟨w1, w2, w3, w4⟩ := w
    rw [List.append_nil] at h k
    obtain ⟨l, vs, O1', rfl, e1, q1, ⟨Z1, p1⟩, _⟩ := r1.lstI h
    have n0 := Next.keep2 h p1
    have n1 := n0.trans (Next.freeze n0.held)
    have rl := q1.frozen n0.held
    refine ⟨_, op_rep2, _, _, _, rfl, rfl, e1, w1, w2, by rw [← q1.len]; exact w3, fun p hp => ?_⟩
    have n2 := Next.newO n1.held hp (.lst (List.replicate n.toNat vs).flatten)
    exact k _ w4 _ [(p, .lst (List.replicate n.toNat vs).flatten)] (.ref p) _ (n1.trans n2) (.own (repL_rep rl _))
  · obtain ⟨rfl, rfl⟩ := r1.intI; obtain ⟨rfl, rfl⟩ := r2.intI
    exact ⟨_, op_fdivW, _, _, rfl, rfl, w.1, (k _ w.2).int h⟩
  · obtain ⟨rfl, rfl⟩ := r1.intI; obtain ⟨rfl, rfl⟩ := r2.intI
    exact ⟨_, op_mod, _, _, rfl, rfl, w.1, (k _ w.2).int h⟩
  · obtain ⟨rfl, rfl⟩ := r1.intI; obtain ⟨rfl, rfl⟩ := r2.intI
    exact ⟨_, op_powW, _, _, rfl, rfl, w.1, (k _ w.2).int h⟩
  · obtain ⟨rfl, rfl⟩ := r1.intI; obtain ⟨rfl, rfl⟩ := r2.intI
    exact ⟨_, op_shl, _, _, rfl, rfl, w.1, (k _ w.2).int h⟩
  · obtain ⟨rfl, rfl⟩ := r1.intI; obtain ⟨rfl, rfl⟩ := r2.intI
    exact ⟨_, op_shr, _, _, rfl, rfl, w.1, (k _ w.2).int h⟩
  · obtain ⟨rfl, rfl⟩ := r1.intI; obtain ⟨rfl, rfl⟩ := r2.intI
    exact ⟨_, op_and, _, _, rfl, rfl, (k _ w).int h⟩
  · exact w.elim
end
end DP

/-! DpDl: list < list, of ints, as long. -/
namespace DP
open PySem L2 PySem.SeqAt
open Sem (wp)
open AutoSeq1 (wpAny_loadPart')
theorem lt_loopAt (l b : Addr) (items items2 : Array Value) (n n2 : Nat) (dd dd2 : Option Addr) (sl sl2 : Array (Option Value)) (is js : List Int) (hsz : items.size = items2.size) (h1 : is.length = items.size) (h2 : js.length = items2.size)
    (e1 : ∀ j (h : j < items.size), ∃ t, items[j] = .int (is.getD j 0) t) (e2 : ∀ j (h : j < items2.size), ∃ t, items2[j] = .int (js.getD j 0) t) (k : Nat) :
    ∀ i : Nat, items.size - i = k → Meets (Builtin.«list.__eq__.loop» ⟨[.ref l, .ref b, rawInt i, rawInt 0], []⟩)
      (fun A R s => s.heap.get? l = some { cls := .type "list", dict := dd, data := .seq items n, slots := sl } ∧ s.heap.get? b = some { cls := .type "list", dict := dd2, data := .seq items2 n2, slots := sl2 } ∧
        R (.ok (.ret (.bool (ltI (is.drop i) (js.drop i))))) s) := by
  induction k with
  | zero =>
    intro i hk prog w A R s h
    obtain ⟨hp, g, d, tk, os⟩ := s; obtain ⟨hl, hb, h⟩ := h
    wp_walk using wpAny_loadPart' hl, wpAny_loadPart' hb
    have hi1 : items[((i : Nat) : Int).toNat]? = none := by simp; omega
    have hi2 : items2[((i : Nat) : Int).toNat]? = none := by simp; omega
    have hd : is.drop i = [] := by simp; omega
    rw [hd] at h
    rw [hi1, hi2]
    wp_walk using wpAny_loadPart' hl, wpAny_loadPart' hb
    show R (.ok (.ret (.bool (decide (items.size < items2.size))))) _
    rw [hsz]
    simpa [ltI] using h
  | succ k ih =>
    intro i hk prog w A R s h
    obtain ⟨hp, g, d, tk, os⟩ := s; obtain ⟨hl, hb, h⟩ := h
    wp_walk using wpAny_loadPart' hl, wpAny_loadPart' hb
    have hlt : i < items.size := by omega
    have hlt2 : i < items2.size := by omega
    have hi1 : items[((i : Nat) : Int).toNat]? = some items[i] := by simp [hlt]
    have hi2 : items2[((i : Nat) : Int).toNat]? = some items2[i] := by simp [hlt2]
    have hc : ((i : Int) + 1) = ((i + 1 : Nat) : Int) := by push_cast; rfl
    obtain ⟨t1, q1⟩ := e1 i hlt
    obtain ⟨t2, q2⟩ := e2 i hlt2
    have d1 : is.drop i = is.getD i 0 :: is.drop (i + 1) := by
      rw [List.drop_eq_getElem_cons (by omega), List.getD_eq_getElem?_getD, List.getElem?_eq_getElem (by omega), Option.getD_some]
    have d2 : js.drop i = js.getD i 0 :: js.drop (i + 1) := by
      rw [List.drop_eq_getElem_cons (by omega), List.getD_eq_getElem?_getD, List.getElem?_eq_getElem (by omega), Option.getD_some]
    rw [d1, d2, ltI] at h
    rw [hi1, hi2, q1, q2]
    refine wpAny_bind (EqAt.int_int _ _ _ _ prog w _ _ ?_)
    by_cases hb' : is.getD i 0 = js.getD i 0
    · rw [if_pos hb'] at h
      rw [hb', show (js.getD i 0 == js.getD i 0) = true by simp]
      wp_walk
      rw [hc]
      exact ⟨plainId_quiet MeetsSeq3.plain_eq_loop _, codeAny_builtin MeetsSeq3.entry_eq_loop (by
        rw [Around.under_plainId MeetsSeq3.plain_eq_loop _]
        exact ih (i + 1) (by omega) prog w A R _ ⟨hl, hb, h⟩)⟩
    · rw [if_neg hb'] at h
      rw [show (is.getD i 0 == js.getD i 0) = false by simpa using hb']
      wp_walk using wpAny_loadPart' hl, wpAny_loadPart' hb
      rw [hi1, hi2, q1, q2]
      show wpAny _ _ (compareOp .Lt (.int (is.getD i 0) t1) (.int (js.getD i 0) t2) >>= fun v => ret v) _ _ _
      exact wpAny_bind (wpAny_lt_int (wpAny_pure h))
theorem list_ltAt (l b : Addr) (items items2 : Array Value) (n n2 : Nat) (dd dd2 : Option Addr) (sl sl2 : Array (Option Value)) (is js : List Int) (hsz : items.size = items2.size) (h1 : is.length = items.size) (h2 : js.length = items2.size)
    (e1 : ∀ j (h : j < items.size), ∃ t, items[j] = .int (is.getD j 0) t) (e2 : ∀ j (h : j < items2.size), ∃ t, items2[j] = .int (js.getD j 0) t) :
    Meets (Builtin.«list.__lt__» ⟨[.ref l, .ref b], []⟩)
      (fun A R s => s.heap.get? l = some { cls := .type "list", dict := dd, data := .seq items n, slots := sl } ∧ s.heap.get? b = some { cls := .type "list", dict := dd2, data := .seq items2 n2, slots := sl2 } ∧
        R (.ok (.ret (.bool (ltI is js)))) s) := by
  intro prog w A R s h
  obtain ⟨hp, g, d, tk, os⟩ := s; obtain ⟨hl, hb, h⟩ := h
  have f3 := AutoSeq1.sub_list_list
  wp_walk using wpAny_loadPart' hl, wpAny_loadPart' hb
  exact ⟨plainId_quiet MeetsSeq3.plain_eq_loop _, codeAny_builtin MeetsSeq3.entry_eq_loop (by
    rw [Around.under_plainId MeetsSeq3.plain_eq_loop _]
    exact lt_loopAt l b items items2 n n2 dd dd2 sl sl2 is js hsz h1 h2 e1 e2 _ 0 rfl prog w A R _ ⟨hl, hb, h⟩)⟩
theorem vals_int {is : List Int} {its : List Value} (r : Vals (is.map V.int) its) : is.length = its.length ∧ ∀ j (h : j < its.toArray.size), ∃ t, its.toArray[j] = .int (is.getD j 0) t := by
  have hl := r.length
  rw [List.length_map] at hl
  refine ⟨hl, fun j h => ?_⟩
  have hj : j < is.length := by simpa [hl] using h
  have e : (is.map V.int)[j]? = some (.int (is.getD j 0)) := by
    rw [List.getElem?_map, List.getElem?_eq_getElem hj, List.getD_eq_getElem?_getD, List.getElem?_eq_getElem hj]; rfl
  obtain ⟨u, hu, ru⟩ := r.get e
  obtain ⟨t, rfl⟩ := ru
  refine ⟨t, ?_⟩
  have : its.toArray[j]? = some (Value.int (is.getD j 0) t) := by simpa using hu
  rw [Array.getElem?_eq_getElem h] at this
  exact Option.some.inj this
section
variable {X : Cx}
def rLtL (K : PySem.W.Frag) : R2 := fun x y H Q => ∃ a b is js, x = .ref a ∧ y = .ref b ∧ SqL K H a (is.map V.int) ∧ SqL K H b (js.map V.int) ∧ is.length = js.length ∧ Q (.bl (ltI is js)) H
theorem op_ltL (hu : X.A.units + 65 < cLine) : OpR X (compareOp .Lt) (rLtL X.K) := by
  intro pins s σ H x y v u Q I rx ry h
  obtain ⟨a, b, is, js, rfl, rfl, ha, hb, hl, q⟩ := h
  cases rx
  cases ry
  obtain ⟨its, rv, ⟨⟨cls, dd, data, sls⟩, n, ho, hc, hdn, hdt⟩, _⟩ := I.list ha
  obtain ⟨its2, rv2, ⟨⟨cls2, dd2, data2, sls2⟩, n2, ho2, hc2, hdn2, hdt2⟩, _⟩ := I.list hb
  simp only at hc hdt hc2 hdt2
  subst hc hdt hc2 hdt2
  obtain ⟨l1, e1⟩ := vals_int rv
  obtain ⟨l2, e2⟩ := vals_int rv2
  show wpAny _ _ (richCompare .Lt (.ref a) (.ref b)) _ _ _
  exact richCompare_meets_room (op := .Lt) ⟨_, ho, rfl⟩ ⟨_, ho2, rfl⟩ F.slot_list_lt F.entry_list_lt (F.args_list_lt_2 _ _) (list_ltAt a b its.toArray its2.toArray n n2 dd dd2 sls sls2 is js (by simp; omega) (by simp; omega) (by simp; omega) e1 e2)
    ⟨ho, ho2, (fun x => nomatch x), .bl _, H, I, rfl, q⟩ (by omega)
end
end DP

/-! DpE: comparisons, truth, items, slices, built-in functions. -/
namespace DP
open PySem (Addr sizeLine wpAny model Value Shared)
open L2
variable [CT]

/-- all that r owns stands in H -/
def Own.inH (O : Own) (H : Hp) : Prop := ∀ p ∈ O, H p.1 = some p.2
theorem Own.inH.left {A B : Own} {H : Hp} (h : Own.inH (A ++ B) H) : Own.inH A H := fun p hp => h p (List.mem_append_left _ hp)
theorem Own.inH.right {A B : Own} {H : Hp} (h : Own.inH (A ++ B) H) : Own.inH B H := fun p hp => h p (List.mem_append_right _ hp)
mutual
theorem Rep.dp {K : PySem.W.Frag} {F H : Hp} (s : Sub F H) : ∀ {d : D} {v : V} {O : Own}, Rep F d v O → Own.inH O H → d.py.hasDict = false → Dp K H v d.py
  | .non, _, _, .non, _, _ => .non
  | .bl _, _, _, .bl b, _, _ => .bl b
  | .int _, _, _, .int i, _, _ => .int i
  | .str _, _, _, .str x, _, _ => .str x
  | .tup _, _, _, .tup e r, h, n => by
    rw [D.py] at n ⊢
    exact .tup (SqT.of (s _ _ e)) (RepL.dp s r h (by simpa only [PySem.PyData.hasDict] using n))
  | .lst _ _, _, _, .fro e r, h, n => by
    rw [D.py] at n ⊢
    exact .lst (.inl (s.rd e)) (RepL.dp s r h (by simpa only [PySem.PyData.hasDict] using n))
  | .lst _ _, _, _, .own r, h, n => by
    rw [D.py] at n ⊢
    exact .lst (SqL.of (h _ List.mem_cons_self)) (RepL.dp s r (fun p hp => h p (List.mem_cons_of_mem _ hp)) (by simpa only [PySem.PyData.hasDict] using n))
  | .exc _ _ _, _, _, _, _, n => by simp [D.py, badPy, PySem.PyData.hasDict] at n
  | .dct _ ks xs, _, _, _, _, n => by
    rw [D.py] at n
    split at n <;> simp [badPy, PySem.PyData.hasDict] at n
  | .ins _ _ _ _, _, _, _, _, n => by simp [D.py, badPy, PySem.PyData.hasDict] at n
theorem RepL.dp {K : PySem.W.Frag} {F H : Hp} (s : Sub F H) : ∀ {ds : List D} {vs : List V} {O : Own}, RepL F ds vs O → Own.inH O H → PySem.PyData.hasDictAll (pyL ds) = false → DpAll K H vs (pyL ds)
  | [], _, _, .nil, _, _ => .nil
  | _ :: _, _, _, .cons a b, h, n => by
    rw [pyL] at n ⊢
    simp only [PySem.PyData.hasDictAll, Bool.or_eq_false_iff] at n
    exact .cons (Rep.dp s a h.left n.1) (RepL.dp s b h.right n.2)
end
omit [CT] in
theorem shaped_nd {d : PySem.PyData} (h : PySem.SeqAt.shaped d = true) : d.hasDict = false := PySem.PyData.hasDict_of_canLay _ (PySem.SeqAt.canLay_of_shaped h)
omit [CT] in
theorem pyL_map (ds : List D) : pyL ds = ds.map D.py := by
  induction ds with
  | nil => rfl
  | cons x xs ih => simp only [pyL, List.map_cons, ih]
omit [CT] in
theorem inD_py (x : D) (ys : List D) : inD x ys = (pyL ys).any fun z => PySem.PyData.eqv z x.py := by
  rw [pyL_map, List.any_map]; rfl
theorem eqV_py {F : Hp} {x y : D} {v u : V} {O P : Own} (fx : flatD x = true) (fy : flatD y = true) (rx : Rep F x v O) (ry : Rep F y u P) : eqV v u = PySem.PyData.eqv x.py y.py := by
  cases rx with
  | tup _ _ => simp [flatD] at fx
  | fro _ _ => simp [flatD] at fx
  | own _ => simp [flatD] at fx
  | exc _ _ _ _ _ => simp [flatD] at fx
  | dfr _ _ _ => simp [flatD] at fx
  | dow _ _ => simp [flatD] at fx
  | ifr _ _ _ _ _ => simp [flatD] at fx
  | iow _ _ _ => simp [flatD] at fx
  | non => cases ry <;> first | rfl | simp [flatD] at fy
  | bl b => cases ry <;> first | rfl | simp [flatD] at fy
  | int i => cases ry <;> first | rfl | simp [flatD] at fy
  | str s => cases ry <;> first | rfl | simp [flatD] at fy
theorem flatV_of {F : Hp} {x : D} {v : V} {O : Own} (fx : flatD x = true) (rx : Rep F x v O) : flatV v = true := by
  cases rx <;> first | rfl | simp [flatD] at fx
theorem flatL_of {F : Hp} : ∀ {ds : List D} {vs : List V} {O : Own}, RepL F ds vs O → ds.all flatD = true → vs.all flatV = true
  | [], _, _, .nil, _ => rfl
  | _ :: _, _, _, .cons a b, h => by
    rw [List.all_cons, Bool.and_eq_true] at h ⊢
    exact ⟨flatV_of h.1 a, flatL_of b h.2⟩
theorem inV_of {F : Hp} {x : D} {v : V} {P : Own} (fx : flatD x = true) (rx : Rep F x v P) : ∀ {ds : List D} {vs : List V} {O : Own}, RepL F ds vs O → ds.all flatD = true → inV v vs = inD x ds
  | [], _, _, .nil, _ => rfl
  | _ :: _, _, _, .cons a b, h => by
    rw [List.all_cons, Bool.and_eq_true] at h
    show (eqV _ v || inV v _) = (_ || inD x _)
    rw [eqV_py h.1 fx a rx, inV_of fx rx b h.2]

section
variable {X : Cx} {F : Hp} {O1 O2 : Own} {H : Hp} {v1 v2 : V} {Qv : VK} {x y : D}
theorem Rep.lstB {o : Bool} {ds : List D} {v : V} {O : Own} (r : Rep F (.lst o ds) v O) (s : Sub F H) (h : Own.inH O H) : ∃ a vs P, v = .ref a ∧ Rd H a (.lst vs) ∧ RepL F ds vs P ∧ Own.inH P H := by
  cases r with
  | fro e r => exact ⟨_, _, [], rfl, s.rd e, r, fun p hp => by cases hp⟩
  | own r => exact ⟨_, _, _, rfl, .inl (h _ List.mem_cons_self), r, fun p hp => h p (List.mem_cons_of_mem _ hp)⟩
theorem Rep.tupB {ds : List D} {v : V} {O : Own} (r : Rep F (.tup ds) v O) (s : Sub F H) : ∃ a vs, v = .ref a ∧ H a = some (.tup vs) ∧ RepL F ds vs O := by
  cases r with
  | tup e r => exact ⟨_, _, rfl, s _ _ e, r⟩
theorem Rep.non_iff {d : D} {v : V} {O : Own} (r : Rep F d v O) : decide (v = .non) = d.isNon := by
  cases r <;> rfl
theorem Rep.nnon_iff {d : D} {v : V} {O : Own} (r : Rep F d v O) : (!decide (v = .non)) = !d.isNon := by
  cases r <;> rfl

theorem repL_intsQ : ∀ {is : List Int} {vs : List V} {O : Own}, RepL F (is.map D.int) vs O → vs = is.map V.int
  | [], _, _, .nil => rfl
  | i :: is, _, _, .cons r rr => by
    obtain ⟨rfl, rfl⟩ := r.intI
    rw [repL_intsQ rr]; rfl
theorem ints_at {K : PySem.W.Frag} {o : Bool} {is : List Int} {v : V} {O : Own} (r : Rep F (.lst o (is.map D.int)) v O) (s : Sub F H) (h : Own.inH O H) : ∃ a, v = .ref a ∧ SqL K H a (is.map V.int) := by
  cases r with
  | fro e r => exact ⟨_, rfl, by rw [← repL_intsQ r]; exact .inl (s.rd e)⟩
  | own r => exact ⟨_, rfl, by rw [← repL_intsQ r]; exact SqL.of (h _ List.mem_cons_self)⟩
theorem len_isEmptyQ {α β : Type} {xs : List α} {ys : List β} (h : xs.length = ys.length) : xs.isEmpty = ys.isEmpty := by
  cases xs <;> cases ys <;> simp_all
theorem op_eqNil {X : Cx} (hu : X.A.units < PySem.cLine) : OpR X (PySem.compareOp .Eq) (fun x y H Q => ∃ a b vs, x = .ref a ∧ y = .ref b ∧ SqL X.K H a vs ∧ SqL X.K H b [] ∧ Q (.bl vs.isEmpty) H) := by
  intro pins s σ H x y v u Q I rx ry h
  obtain ⟨a, b, vs, rfl, rfl, ha, hb, q⟩ := h
  cases rx
  cases ry
  obtain ⟨its, rv, h1, _⟩ := I.list ha
  obtain ⟨its2, rv2, h2, _⟩ := I.list hb
  have l1 := rv.length
  have l2 := rv2.length
  have e1 : s.heap.IsList a its.toArray := by
    obtain ⟨o, n, ho, hc, hdn, hdt⟩ := h1
    exact ⟨o, ho, hc, n, hdt⟩
  have e2 : s.heap.IsList b its2.toArray := by
    obtain ⟨o, n, ho, hc, hdn, hdt⟩ := h2
    exact ⟨o, ho, hc, n, hdt⟩
  simp only [List.length_nil] at l2
  have n2 : its2.toArray.size = 0 := by simp; cases its2 with | nil => rfl | cons _ _ => cases l2
  cases vs with
  | nil =>
    have n1 : its.toArray.size = 0 := by simp; cases its with | nil => rfl | cons _ _ => cases l1
    refine PySem.SeqAt.eq_listAt (e := fun _ => true) e1 e2 (by omega) hu (fun j h1 h2 => by omega) ?_
    rw [n1]
    exact ⟨.bl _, H, I, rfl, q⟩
  | cons x xs =>
    have n1 : its.toArray.size ≠ 0 := by
      simp only [List.length_cons] at l1
      simp
      intro z
      subst z
      cases l1
    refine PySem.SeqAt.eq_list_lengthsAt e1 e2 (by rw [n2]; simpa using n1) hu ?_
    exact ⟨.bl _, H, I, rfl, q⟩
theorem op_isB {X : Cx} : OpR X (PySem.compareOp .Is) (fun x y H Q => ∃ a b, x = .bl a ∧ y = .bl b ∧ Q (.bl (decide (a = b))) H) := by
  intro pins s σ H x y v u Q I rx ry h
  obtain ⟨m, n, rfl, rfl, q⟩ := h
  cases (show v = PySem.Value.bool m from rx)
  cases (show u = PySem.Value.bool n from ry)
  by_cases e : m = n
  · subst e
    exact PySem.wpAny_is_self rfl ⟨.bl true, H, I, rfl, by simpa using q⟩
  · exact PySem.wpAny_is_other rfl (fun z => e (PySem.Value.bool.inj z)) ⟨.bl false, H, I, rfl, by simpa [e] using q⟩
theorem op_isNotB {X : Cx} : OpR X (PySem.compareOp .IsNot) (fun x y H Q => ∃ a b, x = .bl a ∧ y = .bl b ∧ Q (.bl (!decide (a = b))) H) := by
  intro pins s σ H x y v u Q I rx ry h
  obtain ⟨m, n, rfl, rfl, q⟩ := h
  cases (show v = PySem.Value.bool m from rx)
  cases (show u = PySem.Value.bool n from ry)
  by_cases e : m = n
  · subst e
    exact PySem.wpAny_isNot_self rfl ⟨.bl false, H, I, rfl, by simpa using q⟩
  · exact PySem.wpAny_isNot_other rfl (fun z => e (PySem.Value.bool.inj z)) ⟨.bl true, H, I, rfl, by simpa [e] using q⟩
theorem cmp_ok {o : CO} {Q : Bool → Prop} (w : cmpD o x y Q) (r1 : Rep F x v1 O1) (r2 : Rep F y v2 O2) (s : Sub F H) (h1 : Own.inH O1 H) (h2 : Own.inH O2 H) (hu : X.A.units + 65 < PySem.cLine)
    (k : ∀ b, Q b → Qv (.bl b) H) : anyR X (PySem.compareOp (cmpOf o)) v1 v2 H Qv := by
  unfold cmpD at w
  split at w
  · unfold eqD at w
    split at w
    · obtain ⟨rfl, rfl⟩ := r1.strI; obtain ⟨rfl, rfl⟩ := r2.strI
      exact ⟨_, op_eq, rfl, by simpa only [V.str.injEq] using k _ w⟩
    · exact ⟨_, op_eqD (by omega), _, _, r1.dp s h1 (shaped_nd w.1), r2.dp s h2 (shaped_nd w.2.1), w.1, w.2.1, k _ w.2.2⟩
  · unfold eqD at w
    split at w
    · obtain ⟨rfl, rfl⟩ := r1.strI; obtain ⟨rfl, rfl⟩ := r2.strI
      exact ⟨_, op_ne, rfl, by simpa only [V.str.injEq] using k _ w⟩
    · exact ⟨_, op_neD (by omega), _, _, r1.dp s h1 (shaped_nd w.1), r2.dp s h2 (shaped_nd w.2.1), w.1, w.2.1, k _ w.2.2⟩
  · obtain ⟨rfl, rfl⟩ := r1.intI; obtain ⟨rfl, rfl⟩ := r2.intI
    exact ⟨_, op_lt, _, _, rfl, rfl, k _ w⟩
  · obtain ⟨rfl, rfl⟩ := r1.intI; obtain ⟨rfl, rfl⟩ := r2.intI
    exact ⟨_, op_le, _, _, rfl, rfl, k _ w⟩
  · obtain ⟨rfl, rfl⟩ := r1.intI; obtain ⟨rfl, rfl⟩ := r2.intI
    exact ⟨_, op_gt, _, _, rfl, rfl, k _ w⟩
  · obtain ⟨rfl, rfl⟩ := r1.intI; obtain ⟨rfl, rfl⟩ := r2.intI
    exact ⟨_, op_ge, _, _, rfl, rfl, k _ w⟩
  · obtain ⟨is, js, rfl, rfl, hl, w⟩ := w
    obtain ⟨a, rfl, q1⟩ := ints_at (K := X.K) r1 s h1
    obtain ⟨b, rfl, q2⟩ := ints_at (K := X.K) r2 s h2
    exact ⟨_, op_ltL hu, a, b, is, js, rfl, rfl, q1, q2, hl, k _ w⟩
  · obtain ⟨rfl, rfl⟩ := r2.nonI
    exact ⟨_, op_isN, rfl, by rw [r1.non_iff]; exact k _ w⟩
  · obtain ⟨rfl, rfl⟩ := r2.nonI
    exact ⟨_, op_notN, rfl, by rw [r1.nnon_iff]; exact k _ w⟩
  · cases r1; cases r2
    exact ⟨_, op_isB, _, _, rfl, rfl, k _ w⟩
  · cases r1; cases r2
    exact ⟨_, op_isNotB, _, _, rfl, rfl, k _ w⟩
  · rename_i d _ _ ys _
    have q := r2.dp (K := X.K) s h2 (by rw [D.py]; exact shaped_nd w.2.1)
    rw [D.py] at q
    exact ⟨_, op_inD hu, _, _, r1.dp s h1 (shaped_nd w.1), q, w.1, w.2.1, by rw [← inD_py]; exact k _ w.2.2⟩
  · have q := r2.dp (K := X.K) s h2 (by rw [D.py]; exact shaped_nd w.2.1)
    rw [D.py] at q
    exact ⟨_, op_notInD hu, _, _, r1.dp s h1 (shaped_nd w.1), q, w.1, w.2.1, by rw [← inD_py]; exact k _ w.2.2⟩
  · obtain ⟨a, vs, rfl, e, q⟩ := r2.tupB s
    exact ⟨_, op_in_seq, a, vs, rfl, .inr (SqT.of e), flatV_of w.1 r1, flatL_of q w.2.1, by rw [inV_of w.1 r1 q w.2.1]; exact k _ w.2.2⟩
  · obtain ⟨a, vs, rfl, e, q⟩ := r2.tupB s
    exact ⟨_, op_notIn_seq, a, vs, rfl, .inr (SqT.of e), flatV_of w.1 r1, flatL_of q w.2.1, by rw [inV_of w.1 r1 q w.2.1]; exact k _ w.2.2⟩
  · obtain ⟨rfl, rfl⟩ := r1.strI; obtain ⟨rfl, rfl⟩ := r2.strI
    obtain ⟨c, rfl, w⟩ := w
    exact ⟨_, op_in_sign, c, _, rfl, rfl, k _ w⟩
  · obtain ⟨rfl, rfl⟩ := r1.strI; obtain ⟨rfl, rfl⟩ := r2.strI
    obtain ⟨c, rfl, w⟩ := w
    exact ⟨_, op_notIn_sign, c, _, rfl, rfl, k _ w⟩
  · obtain ⟨a, vs, P, rfl, q1, q2, _⟩ := r1.lstB s h1
    obtain ⟨b, vs2, P2, rfl, q3, q4, _⟩ := r2.lstB s h2
    cases q4
    exact ⟨_, op_eqNil (by omega), a, b, vs, rfl, rfl, .inl q1, .inl q3, k _ (by rw [show vs.isEmpty = _ from (len_isEmptyQ q2.len).symm]; exact w)⟩
  · exact w.elim

theorem len_isEmpty {α β : Type} {xs : List α} {ys : List β} (h : xs.length = ys.length) : xs.isEmpty = ys.isEmpty := by
  cases xs <;> cases ys <;> simp_all
omit [CT] in
theorem zip_isEmpty {α β : Type} {xs : List α} {ys : List β} (h : ys.length = xs.length) : (xs.zip ys).isEmpty = ys.isEmpty := by
  cases xs <;> cases ys <;> simp_all
theorem tru_of {d : D} {v : V} {O : Own} {K : PySem.W.Frag} {Q : Bool → Prop} (w : truD d Q) (r : Rep F d v O) (s : Sub F H) (h : Own.inH O H) : TruV K v H (truthD d) ∧ Q (truthD d) := by
  refine ⟨?_, w.2⟩
  cases r with
  | non => rfl
  | bl b => rfl
  | int i => rfl
  | str z =>
    refine ⟨w.1, ?_⟩
    show (z.length != 0) = ((z.length : Int) != 0)
    cases z.length <;> rfl
  | tup e r => exact .inr (.inl ⟨_, SqT.of (s _ _ e), by rw [truthD, len_isEmpty r.len]⟩)
  | fro e r => exact .inl ⟨_, .inl (s.rd e), by rw [truthD, len_isEmpty r.len]⟩
  | own r => exact .inl ⟨_, SqL.of (h _ List.mem_cons_self), by rw [truthD, len_isEmpty r.len]⟩
  | exc _ _ _ _ _ => exact w.1.elim
  | dfr e r l => exact .inr (.inr ⟨_, s _ _ e, by rw [truthD, zip_isEmpty (r.len.symm.trans l.symm), len_isEmpty r.len]⟩)
  | dow r l => exact .inr (.inr ⟨_, h _ List.mem_cons_self, by rw [truthD, zip_isEmpty (r.len.symm.trans l.symm), len_isEmpty r.len]⟩)
  | ifr _ _ _ _ _ => exact w.1.elim
  | iow _ _ _ => exact w.1.elim

/-- some rule of a subscript -/
def anyI (X : Cx) : R2 := fun x y H Q => ∃ r : R2, IxR X r ∧ r x y H Q
theorem anyI_ok {X : Cx} : IxR X (anyI X) := by
  intro value slice pins s σ H x y v u Q I rx ry h hs
  obtain ⟨r, hr, q⟩ := h
  exact hr value slice pins s σ H x y v u Q I rx ry q hs
theorem atI_rep : ∀ {ds : List D} {vs : List V} {O : Own} {i : Int} {el : D}, RepL F ds vs O → atI ds i = some el → ∃ j v A B C, ds[j]? = some el ∧ ixN ds.length i = some j ∧ atI vs i = some v ∧ Rep F el v B ∧ O = A ++ B ++ C := by
  intro ds vs O i el r e
  unfold atI at e
  cases q : ixN ds.length i with
  | none => rw [q] at e; cases e
  | some j =>
    rw [q] at e
    have e' : ds[j]? = some el := e
    obtain ⟨v, A, B, C, h1, h2, h3, _⟩ := r.nth e'
    refine ⟨j, v, A, B, C, e', rfl, ?_, h2, h3⟩
    unfold atI
    rw [← r.len, q]
    exact h1
theorem str_at {z : PySem.Str} {k : Int} {el : D} (e : (atI z.cps.toList k).map (fun c => D.str ⟨#[c]⟩) = some el) : ∃ c, atI z.cps.toList k = some c ∧ el = .str ⟨#[c]⟩ := by
  cases q : atI z.cps.toList k with
  | none => rw [q] at e; cases e
  | some c => rw [q] at e; cases e; exact ⟨c, rfl, rfl⟩
theorem sub_ok {k : Int} {el : D} (w : subD x (.int k) = some el) (r : Rep F x v1 O1) (s : Sub F H) (h : Own.inH O1 H) (hz : szD x)
    (q : ∀ v B, Rep F el v B → (∀ p ∈ B, p ∈ O1) → Qv v H) : anyI X v1 (.int k) H Qv := by
  unfold subD at w
  split at w
  · rename_i o xs i e
    cases e
    cases r with
    | @fro a vs ds e1 r1 =>
      obtain ⟨j, v, A, B, C, _, _, h3, h4, h5⟩ := atI_rep r1 w
      exact ⟨_, ix_list, a, vs, k, v, rfl, rfl, .inl (s.rd e1), h3, q v B h4 fun p hp => by rw [h5]; simp [hp]⟩
    | @own a vs ds O r1 =>
      obtain ⟨j, v, A, B, C, _, _, h3, h4, h5⟩ := atI_rep r1 w
      exact ⟨_, ix_list, a, vs, k, v, rfl, rfl, SqL.of (h _ List.mem_cons_self), h3, q v B h4 fun p hp => List.mem_cons_of_mem _ (by rw [h5]; simp [hp])⟩
  · rename_i xs i e
    cases e
    obtain ⟨a, vs, rfl, e1, r1⟩ := r.tupB s
    obtain ⟨j, v, A, B, C, _, _, h3, h4, h5⟩ := atI_rep r1 w
    exact ⟨_, ix_tup, a, vs, k, v, rfl, rfl, SqT.of e1, h3, q v B h4 fun p hp => by rw [h5]; simp [hp]⟩
  · rename_i z i e
    cases e
    obtain ⟨rfl, rfl⟩ := r.strI
    obtain ⟨c, e1, rfl⟩ := str_at w
    exact ⟨_, ix_str, z, k, c, rfl, rfl, hz, e1, q _ [] (.str _) fun p hp => by cases hp⟩
  · cases w

/-! ### lists that are known -/
theorem RepL.nil_cons {d : D} {ds : List D} {vs : List V} (r : RepL F (d :: ds) vs []) : ∃ v us, vs = v :: us ∧ Rep F d v [] ∧ RepL F ds us [] := by
  generalize e : ([] : Own) = O at r
  cases r with
  | cons a b =>
    obtain ⟨h1, h2⟩ := List.append_eq_nil_iff.mp e.symm
    subst h1 h2
    exact ⟨_, _, rfl, a, b⟩
theorem RepL.mk {d : D} {ds : List D} {v : V} {vs : List V} (a : Rep F d v []) (b : RepL F ds vs []) : RepL F (d :: ds) (v :: vs) [] := RepL.cons (O1 := []) (O2 := []) a b
theorem RepL.drop0 : ∀ {ds : List D} {vs : List V} (n : Nat), RepL F ds vs [] → RepL F (ds.drop n) (vs.drop n) []
  | ds, vs, 0, r => by simpa using r
  | [], vs, n + 1, r => by cases r; exact .nil
  | d :: ds, vs, n + 1, r => by
    obtain ⟨v, us, rfl, a, b⟩ := r.nil_cons
    simpa using RepL.drop0 n b
theorem RepL.take0 : ∀ {ds : List D} {vs : List V} (n : Nat), RepL F ds vs [] → RepL F (ds.take n) (vs.take n) []
  | ds, vs, 0, r => by simpa using RepL.nil
  | [], vs, n + 1, r => by cases r; exact .nil
  | d :: ds, vs, n + 1, r => by
    obtain ⟨v, us, rfl, a, b⟩ := r.nil_cons
    simpa using RepL.mk a (RepL.take0 n b)
theorem fzL_drop (xs : List D) (n : Nat) : fzL (xs.drop n) = (fzL xs).drop n := by simp only [fzL_map, List.map_drop]
theorem fzL_take (xs : List D) (n : Nat) : fzL (xs.take n) = (fzL xs).take n := by simp only [fzL_map, List.map_take]
theorem cutD_fz (xs : List D) (lo hi : Option Int) : fzL (cutD xs lo hi) = cutD (fzL xs) lo hi := by
  unfold cutD
  rw [fzL_take, fzL_drop, fzL_length]
theorem RepL.cut0 {ds : List D} {vs : List V} (r : RepL F ds vs []) (lo hi : Option Int) : RepL F (cutD ds lo hi) (cutV vs lo hi) [] := by
  unfold cutD cutV
  rw [← r.len]
  exact RepL.take0 _ (RepL.drop0 _ r)
/-- some rule of a slice -/
def anyS (X : Cx) : V → Option Int → Option Int → Hp → VK → Prop := fun x lo hi H Q => ∃ r : V → Option Int → Option Int → Hp → VK → Prop, SlR X r ∧ r x lo hi H Q
theorem anyS_ok {X : Cx} : SlR X (anyS X) := by
  intro pins s σ H x v vl vu lo hi sl Q I rx hs pl pu h
  obtain ⟨r, hr, q⟩ := h
  exact hr pins s σ H x v vl vu lo hi sl Q I rx hs pl pu q
/-- x[lo:hi] of what nobody changes -/
theorem slc_ok {lo hi : Option Int} {Q : D → Prop} (w : slcD x lo hi Q) (r : Rep F x.fz v1 []) (s : Sub F H)
    (k0 : ∀ d v, Q d → Rep F d v [] → Qv v H) (kL : ∀ ds vs p, Q (.lst true ds) → RepL F ds vs [] → H p = none → Qv (.ref p) (upd H p (.lst vs)))
    (kT : ∀ ds vs p, Q (.tup ds) → RepL F ds vs [] → H p = none → Qv (.ref p) (upd H p (.tup vs))) : anyS X v1 lo hi H Qv := by
  unfold slcD at w
  split at w
  · rename_i xs
    rw [D.fz] at r
    cases r with
    | @fro a vs ds e1 r1 =>
      exact ⟨_, sl_list, a, vs, rfl, .inl (s.rd e1), fun p hp => kL _ _ p w (by rw [cutD_fz]; exact r1.cut0 lo hi) hp⟩
  · rw [D.fz] at r
    obtain ⟨rfl, _⟩ := r.strI
    exact ⟨_, sl_str, _, rfl, w.1, k0 _ _ w.2 (.str _)⟩
  · rename_i xs
    rw [D.fz] at r
    obtain ⟨a, vs, rfl, e1, r1⟩ := r.tupB s
    refine ⟨_, sl_tupA, a, vs, rfl, SqT.of e1, fun z => absurd ?_ w.1, fun _ p hp => kT _ _ p w.2 (by rw [cutD_fz]; exact r1.cut0 lo hi) hp⟩
    have hl : vs.length = xs.length := by rw [← r1.len, fzL_length]
    unfold cutD
    rw [hl] at z
    rw [z.1, z.2]; simp
  · exact w.elim

/-! ### isinstance of a built-in class -/
theorem isi_ok {t : String} {b : Bool} (w : isiD x t = some b) (r : Rep F x v1 O1) (s : Sub F H) (h : Own.inH O1 H) (k : Qv (.bl b) H) : anyC X (.builtin "isinstance") [v1, .ty t] H Qv := by
  have go : ∀ {T : String}, TyX X.K H v1 (.type T) → kitB T t = some b → anyC X (.builtin "isinstance") [v1, .ty t] H Qv := fun ty e => ⟨_, call_isi, _, _, _, _, b, rfl, ClsV.ty t, ty, kit_ty e, k⟩
  cases r with
  | non => exact go (.base .non) w
  | bl c => exact go (.base (.bl c)) w
  | int c => exact go (.base (.int c)) w
  | str c => exact go (.base (.str c)) w
  | tup e _ => exact go (.base (.tup (s _ _ e))) w
  | fro e _ =>
    rcases s.rd e with e | ⟨o, e⟩
    · exact go (.base (.lst e)) w
    · exact go (.base (.frz e)) w
  | own _ => exact go (.base (.lst (h _ List.mem_cons_self))) w
  | exc _ _ _ _ _ => cases w
  | dfr e _ _ => exact go (.base (.dK (s _ _ e))) w
  | dow _ _ => exact go (.base (.dK (h _ List.mem_cons_self))) w
  | ifr _ _ _ _ _ => cases w
  | iow _ _ _ => cases w

/-! ### built-in functions -/
def BI.val : BI → Value
  | .len => .builtin "len" | .abs => .builtin "abs" | .min2 => .builtin "min" | .max2 => .builtin "max" | .min3 => .builtin "min" | .max3 => .builtin "max" | .minL => .builtin "min" | .maxL => .builtin "max" | .sum => .builtin "sum" | .all => .builtin "all" | .any => .builtin "any"
  | .sorted => .builtin "sorted" | .list => .type "list" | .tuple => .type "tuple" | .str => .type "str" | .int => .type "int" | .repr => .builtin "repr" | .bool => .type "bool"
theorem intsD_rep : ∀ {ds : List D} {vs : List V} {O : Own} {ns : List Int}, RepL F ds vs O → intsD ds = some ns → vs = ns.map V.int ∧ O = [] ∧ ds = ns.map D.int
  | [], _, _, _, .nil, e => by cases e; exact ⟨rfl, rfl, rfl⟩
  | d :: ds, _, _, ns, .cons a b, e => by
    cases d with
    | int i =>
      simp only [intsD] at e
      cases q : intsD ds with
      | none => rw [q] at e; cases e
      | some ms =>
        rw [q] at e; cases e
        obtain ⟨rfl, rfl⟩ := a.intI
        obtain ⟨rfl, rfl, rfl⟩ := intsD_rep b q
        exact ⟨rfl, rfl, rfl⟩
    | _ => cases e
theorem blsD_rep : ∀ {ds : List D} {vs : List V} {O : Own} {ns : List Bool}, RepL F ds vs O → blsD ds = some ns → vs = ns.map V.bl
  | [], _, _, _, .nil, e => by cases e; rfl
  | d :: ds, _, _, ns, .cons a b, e => by
    cases d with
    | bl i =>
      simp only [blsD] at e
      cases q : blsD ds with
      | none => rw [q] at e; cases e
      | some ms =>
        rw [q] at e; cases e
        obtain ⟨rfl, rfl⟩ := a.blI
        rw [blsD_rep b q]; rfl
    | _ => cases e
theorem repL_ints (ns : List Int) : RepL F (ns.map D.int) (ns.map V.int) [] := by
  induction ns with
  | nil => exact .nil
  | cons n ns ih => exact .mk (.int n) ih
def pairAt (H : Hp) : V → Int × Int
  | .ref t => (match H t with | some (.tup [.int i, .int j]) => (i, j) | _ => (0, 0))
  | _ => (0, 0)
theorem prsD_rep : ∀ {ds : List D} {vs : List V} {O : Own} {ps : List (Int × Int)}, RepL F ds vs O → prsD ds = some ps → Sub F H → vs.map (pairAt H) = ps ∧ ∀ v ∈ vs, ∃ t, v = .ref t ∧ F t = some (.tup [.int (pairAt H v).1, .int (pairAt H v).2])
  | [], _, _, _, .nil, e, _ => by cases e; exact ⟨rfl, fun v hv => by cases hv⟩
  | d :: ds, _, _, ps, .cons a b, e, s => by
    unfold prsD at e
    split at e
    · rename_i e1; cases e1
    · rename_i i j xs e1
      cases e1
      cases q : prsD ds with
      | none => rw [q] at e; cases e
      | some ms =>
        rw [q] at e; cases e
        cases a with
        | @tup t vs _ _ e2 r2 =>
          have ev : vs = [.int i, .int j] := by
            cases r2 with
            | cons a1 b1 =>
              cases b1 with
              | cons a2 b2 =>
                cases b2
                rw [a1.intI.1, a2.intI.1]
          subst ev
          obtain ⟨h1, h2⟩ := prsD_rep b q s
          have hp : pairAt H (.ref t) = (i, j) := by simp only [pairAt, s _ _ e2]
          refine ⟨by rw [List.map_cons, hp, h1], fun v hv => ?_⟩
          rcases List.mem_cons.mp hv with rfl | hv
          · exact ⟨t, rfl, by rw [hp]; exact e2⟩
          · exact h2 v hv
    · cases e
theorem repL_prs : ∀ {vs : List V}, (∀ v ∈ vs, ∃ t, v = .ref t ∧ F t = some (.tup [.int (pairAt H v).1, .int (pairAt H v).2])) → RepL F ((vs.map (pairAt H)).map prD) vs []
  | [], _ => .nil
  | v :: vs, h => by
    obtain ⟨t, e, h1⟩ := h v List.mem_cons_self
    subst e
    exact .mk (.tup h1 (.mk (.int _) (.mk (.int _) .nil))) (repL_prs fun u hu => h u (List.mem_cons_of_mem _ hu))
def triAt (H : Hp) : V → Int × Int × Int
  | .ref t => (match H t with | some (.tup [.int i, .int j, .int k]) => (i, j, k) | _ => (0, 0, 0))
  | _ => (0, 0, 0)
theorem trsD_rep : ∀ {ds : List D} {vs : List V} {O : Own} {ps : List (Int × Int × Int)}, RepL F ds vs O → trsD ds = some ps → Sub F H → vs.map (triAt H) = ps ∧ ∀ v ∈ vs, ∃ t, v = .ref t ∧ F t = some (.tup [.int (triAt H v).1, .int (triAt H v).2.1, .int (triAt H v).2.2])
  | [], _, _, _, .nil, e, _ => by cases e; exact ⟨rfl, fun v hv => by cases hv⟩
  | d :: ds, _, _, ps, .cons a b, e, s => by
    unfold trsD at e
    split at e
    · rename_i e1; cases e1
    · rename_i i j k xs e1
      cases e1
      cases q : trsD ds with
      | none => rw [q] at e; cases e
      | some ms =>
        rw [q] at e; cases e
        cases a with
        | @tup t vs _ _ e2 r2 =>
          have ev : vs = [.int i, .int j, .int k] := by
            cases r2 with
            | cons a1 b1 =>
              cases b1 with
              | cons a2 b2 =>
                cases b2 with
                | cons a3 b3 =>
                  cases b3
                  rw [a1.intI.1, a2.intI.1, a3.intI.1]
          subst ev
          obtain ⟨h1, h2⟩ := trsD_rep b q s
          have hp : triAt H (.ref t) = (i, j, k) := by simp only [triAt, s _ _ e2]
          refine ⟨by rw [List.map_cons, hp, h1], fun v hv => ?_⟩
          rcases List.mem_cons.mp hv with rfl | hv
          · exact ⟨t, rfl, by rw [hp]; exact e2⟩
          · exact h2 v hv
    · cases e
theorem repL_trs : ∀ {vs : List V}, (∀ v ∈ vs, ∃ t, v = .ref t ∧ F t = some (.tup [.int (triAt H v).1, .int (triAt H v).2.1, .int (triAt H v).2.2])) → RepL F ((vs.map (triAt H)).map trD) vs []
  | [], _ => .nil
  | v :: vs, h => by
    obtain ⟨t, e, h1⟩ := h v List.mem_cons_self
    subst e
    exact .mk (.tup h1 (.mk (.int _) (.mk (.int _) (.mk (.int _) .nil)))) (repL_trs fun u hu => h u (List.mem_cons_of_mem _ hu))
/-- what stands is read as data -/
theorem pairs_nil {P : PySem.Program} {w : PySem.World} {h : PySem.Heap} {a : Addr} {H : Hp} (x : ObjOk P w H h a (.dK [])) : (a == PySem.sysModules) = false ∧ ∃ o n, h.get? a = some o ∧ o.cls = .type "dict" ∧ o.data = .dict #[] n := by
  obtain ⟨_, hn, vs, kv, o, es, ep, h1, h2, h3, _, h5, _⟩ := x
  cases kv
  have e : es = #[] := by
    have h6 := h5
    cases q : es.toList with
    | nil => exact Array.toList_eq_nil_iff.mp q
    | cons y ys => rw [q] at h6; cases h6
  subst e
  exact ⟨hn, o, ep, h1, h2.1, h3⟩
section
variable {P : PySem.Program} {w : PySem.World} {h₀ : PySem.Heap} {a : Addr} {o : PySem.Obj} {n : Nat} {its : List Value} {xs : List PySem.PyData} {as bs : List Addr}
theorem rk_list (h1 : h₀.get? a = some o) (h2 : o.cls = .type "list") (h3 : o.data = .seq its.toArray n) (h4 : PySem.ReadsAll h₀ its xs as) (hb : PySem.ReadAtMost h₀ (PySem.PyData.depthAll xs) bs)
    (hk : PySem.ReprAllK P w bs h₀ (PySem.PyData.depthAll xs) its (PySem.PyData.shownAll xs)) :
    ∃ bs', PySem.ReadAtMost h₀ (PySem.PyData.list xs).depth bs' ∧ PySem.ReprK P w bs' h₀ (PySem.PyData.list xs).depth (.ref a) (PySem.PyData.list xs).shown := by
  have r : PySem.Reads h₀ (.ref a) (.list xs) _ := .list h1 h2 h3 h4
  have hna : a ∉ bs := PySem.not_mem_of_deeper r (by simp only [PySem.PyData.depth]; omega) hb
  refine ⟨a :: bs, PySem.ReadAtMost.cons r (by simp only [PySem.PyData.depth]; omega) hb, ?_⟩
  simp only [PySem.PyData.depth, PySem.PyData.shown]
  cases its with
  | nil =>
    cases h4
    simp only [PySem.PyData.shownAll, PySem.listText_nil]
    exact PySem.ReprK.listEmpty h1 h2 h3
  | cons x l => exact PySem.ReprK.list h1 h2 h3 hna (by simpa using hk.length_eq) (fun i y e => hk.item i y (by simpa using e))
theorem rk_tuple (h1 : h₀.get? a = some o) (h2 : o.cls = .type "tuple") (h3 : o.data = .seq its.toArray n) (h4 : PySem.ReadsAll h₀ its xs as) (hb : PySem.ReadAtMost h₀ (PySem.PyData.depthAll xs) bs)
    (hk : PySem.ReprAllK P w bs h₀ (PySem.PyData.depthAll xs) its (PySem.PyData.shownAll xs)) :
    ∃ bs', PySem.ReadAtMost h₀ (PySem.PyData.tuple xs).depth bs' ∧ PySem.ReprK P w bs' h₀ (PySem.PyData.tuple xs).depth (.ref a) (PySem.PyData.tuple xs).shown := by
  have r : PySem.Reads h₀ (.ref a) (.tuple xs) _ := .tuple h1 h2 h3 h4
  have hna : a ∉ bs := PySem.not_mem_of_deeper r (by simp only [PySem.PyData.depth]; omega) hb
  refine ⟨a :: bs, PySem.ReadAtMost.cons r (by simp only [PySem.PyData.depth]; omega) hb, ?_⟩
  simp only [PySem.PyData.depth, PySem.PyData.shown]
  exact PySem.ReprK.tuple h1 h2 h3 hna hk
theorem rk_dict0 (h0 : (a == PySem.sysModules) = false) (h1 : h₀.get? a = some o) (h2 : o.cls = .type "dict") (h3 : o.data = .dict #[] n) :
    ∃ bs', PySem.ReadAtMost h₀ (PySem.PyData.dict []).depth bs' ∧ PySem.ReprK P w bs' h₀ (PySem.PyData.dict []).depth (.ref a) (PySem.PyData.dict []).shown := by
  have r : PySem.Reads h₀ (.ref a) (.dict []) _ := .dict (as := []) (bs := []) h1 h2 h3 .nil .nil
  refine ⟨[a], PySem.ReadAtMost.cons (n := (PySem.PyData.dict []).depth) r (Nat.le_refl _) (fun _ h => nomatch h), ?_⟩
  simp only [PySem.PyData.depth, PySem.PyData.shown, PySem.PyData.shownKv]
  exact PySem.ReprK.dict h1 h2 h3 h0 (by simp) .nil
theorem sb_list (h1 : h₀.get? a = some o) (h2 : o.cls = .type "list") (h3 : o.data = .seq its.toArray n) (h4 : PySem.ReadsAll h₀ its xs as) (hb : PySem.ReadAtMost h₀ (PySem.PyData.depthAll xs) bs)
    (hk : PySem.ReprAllK P w bs h₀ (PySem.PyData.depthAll xs) its (PySem.PyData.shownAll xs)) (hz : (PySem.PyData.list xs).shown.length ≤ sizeLine) : ∃ T idr, PySem.ShowsBy P w h₀ a (.list xs) T idr := by
  have hna : a ∉ bs := PySem.not_mem_of_deeper (.list h1 h2 h3 h4) (by simp only [PySem.PyData.depth]; omega) hb
  refine ⟨"list", "list.__repr__", PySem.F.slot_list_repr.toG, PySem.F.slot_list_str, PySem.F.slot_list_format, fun s hk0 => ⟨o, hk0 _ _ h1, h2⟩, fun A E s Q hg hu hk0 hQ => ?_⟩
  simp only [PySem.PyData.depth] at hu
  simp only [PySem.PyData.shown] at hQ hz
  cases its with
  | nil =>
    cases h4
    simp only [PySem.PyData.shownAll, PySem.listText_nil] at hQ
    exact PySem.call_list_repr_empty ⟨o, hk0 _ _ h1, h2⟩ (hk0 _ _ h1) h3 (hQ s.heap _ _ fun _ _ e => e)
  | cons x l => exact PySem.call_list_reprK h1 h2 h3 hna (by simpa using hk.length_eq) (fun i y e => hk.item i y (by simpa using e)) hg (fun b _ => PySem.Clear.nil b) hu hk0 hQ hz
theorem sb_tuple (h1 : h₀.get? a = some o) (h2 : o.cls = .type "tuple") (h3 : o.data = .seq its.toArray n) (h4 : PySem.ReadsAll h₀ its xs as) (hb : PySem.ReadAtMost h₀ (PySem.PyData.depthAll xs) bs)
    (hk : PySem.ReprAllK P w bs h₀ (PySem.PyData.depthAll xs) its (PySem.PyData.shownAll xs)) (hz : (PySem.PyData.tuple xs).shown.length ≤ sizeLine) : ∃ T idr, PySem.ShowsBy P w h₀ a (.tuple xs) T idr := by
  have hna : a ∉ bs := PySem.not_mem_of_deeper (.tuple h1 h2 h3 h4) (by simp only [PySem.PyData.depth]; omega) hb
  refine ⟨"tuple", "tuple.__repr__", PySem.F.slot_tuple_repr, PySem.F.slot_tuple_str, PySem.F.slot_tuple_format, fun s hk0 => ⟨o, hk0 _ _ h1, h2⟩, fun A E s Q hg hu hk0 hQ => ?_⟩
  simp only [PySem.PyData.depth] at hu
  simp only [PySem.PyData.shown] at hQ hz
  exact PySem.call_tuple_reprK h1 h2 h3 hna hk hg (fun b _ => PySem.Clear.nil b) hu hk0 hQ hz
theorem sb_dict0 (h0 : (a == PySem.sysModules) = false) (h1 : h₀.get? a = some o) (h2 : o.cls = .type "dict") (h3 : o.data = .dict #[] n) (hz : (PySem.PyData.dict []).shown.length ≤ sizeLine) : ∃ T idr, PySem.ShowsBy P w h₀ a (.dict []) T idr := by
  refine ⟨"dict", "dict.__repr__", PySem.F.slot_dict_repr, PySem.F.slot_dict_str, PySem.F.slot_dict_format, fun s hk0 => ⟨o, hk0 _ _ h1, h2⟩, fun A E s Q hg hu hk0 hQ => ?_⟩
  simp only [PySem.PyData.depth] at hu
  simp only [PySem.PyData.shown, PySem.PyData.shownKv] at hQ hz
  exact PySem.call_dict_reprK (as := []) (d := PySem.PyData.depthKv []) h1 h2 h3 h0 (by simp) .nil hg (fun b _ => PySem.Clear.nil b) hu hk0 hQ hz
end
theorem bad_ns : ¬ badPy.showable = true := by decide +kernel
structure FitsPy (p : PySem.PyData) : Prop where
  h : p.shown.length ≤ sizeLine
mutual
/-- what stands is read as data, and repr tells it -/
theorem Rep.reads {X : Cx} {pins : List (Addr × PySem.Obj)} {σ : St} {H : Hp} {st : Shared} (I : Inv X pins σ H st) {F : Hp} (s : Sub F H) : ∀ {d : D} {v : V} {O : Own}, Rep F d v O → Own.inH O H → ∀ u, RelV v u → d.py.showable = true → FitsPy d.py →
    (∃ as, PySem.Reads st.heap u d.py as) ∧ (∃ bs, PySem.ReadAtMost st.heap d.py.depth bs ∧ PySem.ReprK X.prog X.w bs st.heap d.py.depth u d.py.shown) ∧ ∀ a, u = .ref a → ∃ T idr, PySem.ShowsBy X.prog X.w st.heap a d.py T idr
  | .non, _, _, .non, _, _, r, _, _ => by cases r; exact ⟨⟨_, .none⟩, ⟨[], (fun _ h => nomatch h), by simp only [D.py, PySem.PyData.shown]; exact .of_is PySem.ReprIs.none _ _ _⟩, fun _ e => nomatch e⟩
  | .bl _, _, _, .bl b, _, _, r, _, _ => by cases r; exact ⟨⟨_, .bool b⟩, ⟨[], (fun _ h => nomatch h), by simp only [D.py, PySem.PyData.shown]; exact .of_is (PySem.ReprIs.bool b) _ _ _⟩, fun _ e => nomatch e⟩
  | .int _, _, _, .int i, _, _, r, n, _ => by obtain ⟨t, rfl⟩ := r; exact ⟨⟨_, .int i t⟩, ⟨[], (fun _ h => nomatch h), by simp only [D.py, PySem.PyData.shown]; exact .of_is (PySem.ReprIs.int t (by simpa [D.py, PySem.PyData.showable] using n)) _ _ _⟩, fun _ e => nomatch e⟩
  | .str _, _, _, .str x, _, _, r, _, z => by obtain ⟨t, rfl⟩ := r; exact ⟨⟨_, .str x t⟩, ⟨[], (fun _ h => nomatch h), by simp only [D.py, PySem.PyData.shown]; exact .of_is (PySem.ReprIs.str x t (by simpa only [D.py, PySem.PyData.shown] using z.h)) _ _ _⟩, fun _ e => nomatch e⟩
  | .tup _, _, _, .tup e q, h, u, r, n, z => by
    rw [D.py] at n z ⊢
    cases r
    obtain ⟨its, rv, ⟨o, ho, hc, k, hd⟩, _⟩ := I.tuple (SqT.of (s _ _ e))
    obtain ⟨⟨as, hr⟩, bs, hb, hk⟩ := RepL.reads I s q h its rv (by simpa only [PySem.PyData.showable] using n) (fun t ht => Nat.le_trans (PySem.tupleText_mem_le ht) (by simpa only [PySem.PyData.shown] using z.h))
    exact ⟨⟨_, .tuple ho hc hd hr⟩, rk_tuple ho hc hd hr hb hk, fun a e => by cases e; exact sb_tuple ho hc hd hr hb hk z.h⟩
  | .lst _ _, _, _, .fro (a := a) e q, h, u, r, n, z => by
    rw [D.py] at n z ⊢
    cases r
    obtain ⟨its, rv, ⟨o, k, ho, hc, _, hd⟩, _⟩ := I.list (.inl (s.rd e))
    obtain ⟨⟨as, hr⟩, bs, hb, hk⟩ := RepL.reads I s q h its rv (by simpa only [PySem.PyData.showable] using n) (fun t ht => Nat.le_trans (PySem.listText_mem_le ht) (by simpa only [PySem.PyData.shown] using z.h))
    exact ⟨⟨_, .list ho hc hd hr⟩, rk_list ho hc hd hr hb hk, fun a e => by cases e; exact sb_list ho hc hd hr hb hk z.h⟩
  | .lst _ _, _, _, .own (a := a) q, h, u, r, n, z => by
    rw [D.py] at n z ⊢
    cases r
    have e : H a = some (.lst _) := h _ List.mem_cons_self
    obtain ⟨its, rv, ⟨o, k, ho, hc, _, hd⟩, _⟩ := I.list (SqL.of e)
    obtain ⟨⟨as, hr⟩, bs, hb, hk⟩ := RepL.reads I s q (fun p hp => h p (List.mem_cons_of_mem _ hp)) its rv (by simpa only [PySem.PyData.showable] using n) (fun t ht => Nat.le_trans (PySem.listText_mem_le ht) (by simpa only [PySem.PyData.shown] using z.h))
    exact ⟨⟨_, .list ho hc hd hr⟩, rk_list ho hc hd hr hb hk, fun a e => by cases e; exact sb_list ho hc hd hr hb hk z.h⟩
  | .exc _ _ _, _, _, _, _, _, _, n, _ => by
    rw [D.py] at n
    exact absurd n bad_ns
  | .ins _ _ _ _, _, _, _, _, _, _, n, _ => by
    rw [D.py] at n
    exact absurd n bad_ns
  | .dct _ ks xs, _, _, q, h, u, r, n, z => by
    rw [D.py] at n z ⊢
    split
    · rename_i e
      rw [if_pos e] at z
      simp only [Bool.and_eq_true, List.isEmpty_iff] at e
      obtain ⟨rfl, rfl⟩ := e
      cases q with
      | @dfr a _ vs _ e q _ =>
        cases q
        cases r
        obtain ⟨h0, o, k, h1, h2, h3⟩ := pairs_nil (I.hok a _ (s _ _ e))
        exact ⟨⟨_, .dict (as := []) (bs := []) h1 h2 h3 .nil .nil⟩, rk_dict0 h0 h1 h2 h3, fun a e => by cases e; exact sb_dict0 h0 h1 h2 h3 z.h⟩
      | @dow a _ vs _ O q _ =>
        cases q
        cases r
        obtain ⟨h0, o, k, h1, h2, h3⟩ := pairs_nil (I.hok a _ (h _ List.mem_cons_self))
        exact ⟨⟨_, .dict (as := []) (bs := []) h1 h2 h3 .nil .nil⟩, rk_dict0 h0 h1 h2 h3, fun a e => by cases e; exact sb_dict0 h0 h1 h2 h3 z.h⟩
    · rename_i e
      rw [if_neg e] at n
      exact absurd n bad_ns
theorem RepL.reads {X : Cx} {pins : List (Addr × PySem.Obj)} {σ : St} {H : Hp} {st : Shared} (I : Inv X pins σ H st) {F : Hp} (s : Sub F H) : ∀ {ds : List D} {vs : List V} {O : Own}, RepL F ds vs O → Own.inH O H → ∀ us, Vals vs us → PySem.PyData.showableAll (pyL ds) = true → (∀ t ∈ PySem.PyData.shownAll (pyL ds), t.length ≤ sizeLine) →
    (∃ as, PySem.ReadsAll st.heap us (pyL ds) as) ∧ ∃ bs, PySem.ReadAtMost st.heap (PySem.PyData.depthAll (pyL ds)) bs ∧ PySem.ReprAllK X.prog X.w bs st.heap (PySem.PyData.depthAll (pyL ds)) us (PySem.PyData.shownAll (pyL ds))
  | [], _, _, .nil, _, _, r, _, _ => by cases r; exact ⟨⟨_, .nil⟩, [], (fun _ h => nomatch h), by simp only [pyL, PySem.PyData.shownAll]; exact .nil⟩
  | _ :: _, _, _, .cons a b, h, us, r, n, z => by
    rw [pyL] at n z ⊢
    simp only [PySem.PyData.showableAll, Bool.and_eq_true] at n
    cases r with
    | cons r1 r2 =>
      obtain ⟨⟨as, q1⟩, ⟨b1, hb1, k1⟩, _⟩ := Rep.reads I s a h.left _ r1 n.1 ⟨z _ (by simp only [PySem.PyData.shownAll]; exact List.mem_cons_self ..)⟩
      obtain ⟨⟨bs, q2⟩, b2, hb2, k2⟩ := RepL.reads I s b h.right _ r2 n.2 (fun t ht => z t (by simp only [PySem.PyData.shownAll]; exact List.mem_cons_of_mem _ ht))
      refine ⟨⟨_, .cons q1 q2⟩, b1 ++ b2, ?_, ?_⟩
      · simp only [PySem.PyData.depthAll]
        exact (hb1.mono (Nat.le_max_left _ _)).append (hb2.mono (Nat.le_max_right _ _))
      · simp only [PySem.PyData.depthAll, PySem.PyData.shownAll]
        exact .cons ((k1.more fun b hb => List.mem_append_left _ hb).level_le (Nat.le_max_left _ _)) (k2.more_le (fun b hb => List.mem_append_right _ hb) (Nat.le_max_right _ _))
end
/-- repr of data -/
def rReprD : List V → Hp → VK → Prop := fun xs H Q => ∃ (F : Hp) (x : V) (d : D) (O : Own), xs = [x] ∧ Rep F d x O ∧ Sub F H ∧ Own.inH O H ∧ d.py.showable = true ∧ d.py.depth ≤ 64 ∧ d.py.shown.length ≤ sizeLine ∧ Q (.str d.py.shown) H
theorem cr_repr (hg : X.A.guards = some []) (hu : X.A.units + 65 < PySem.cLine) : CallR X (.builtin "repr") rReprD := by
  intro pins s σ H xs us Q I r h
  obtain ⟨F, x, d, O, rfl, hd, hF, hO, hs, hp, hz, q⟩ := h
  obtain ⟨u, rfl, ru⟩ := vals1 r
  obtain ⟨_, _, rr⟩ := hd.reads I hF hO u ru hs ⟨hz⟩
  have fin : ∀ {h' : PySem.Heap} {t : Nat} {u' : PySem.Tok}, (∀ b o, s.heap.get? b = some o → h'.get? b = some o) → EP X pins σ Q (.str d.py.shown u') { s with heap := h', toks := t } := fun k => ⟨.str d.py.shown, H, I.kept k, ⟨_, rfl⟩, q⟩
  have go : ∀ {a : Addr}, u = .ref a → wpAny (model X.prog X.w) X.A (PySem.call (.builtin "repr") [u]) (EP X pins σ Q) X.xe s := fun {a} e => by
    subst e
    obtain ⟨T, idr, S⟩ := rr _ rfl
    exact PySem.call_repr_slot (by omega) (S.typeIs s fun _ _ e => e) S.slotRepr (S.call X.A.in1 X.xe s _ hg (by show X.A.units + 1 + d.py.depth < PySem.cLine; omega) (fun _ _ e => e) fun h' u tk k => ⟨_, _, rfl, fin k⟩)
  cases hd with
  | non => cases ru; exact PySem.P.repr_of_none (fin fun _ _ e => e)
  | bl b => cases ru; exact PySem.P.repr_of_bool (fin fun _ _ e => e)
  | int i => 
    obtain ⟨t, rfl⟩ := ru
    exact PySem.P.repr_of_int (by simpa [D.py, PySem.PyData.showable] using hs) (fin fun _ _ e => e)
  | str z =>
    obtain ⟨t, rfl⟩ := ru
    exact PySem.P.repr_of_str (fin fun _ _ e => e) hz
  | _ => exact go ru
end
end DP

/-! DpEb: sorted of triples of ints. -/
namespace DP
open PySem (Addr sizeLine wpAny model Value Shared PyData)
open PyProof.Rows
open L2

theorem dataLt_iii (x y z x' y' z' : Int) : PySem.W.dataLt (.tuple [.int x, .int y, .int z]) (.tuple [.int x', .int y', .int z']) = decide (x < x' ∨ (x = x' ∧ (y < y' ∨ (y = y' ∧ z < z')))) := by
  rw [PySem.W.dataLt_tuple, PySem.W.dataLt_cons (by simp [PySem.W.alike]), PySem.W.dataLt_cons (by simp [PySem.W.alike]), PySem.W.dataLt_cons (by simp [PySem.W.alike])]
  have e : PyProof.Rows.lexLt itemOrd (PySem.W.keyToksAll []) (PySem.W.keyToksAll []) = false := lex_irrefl _
  rw [e, PySem.W.dataLt_int, PySem.W.dataLt_int, PySem.W.dataLt_int]
  simp only [PySem.PyData.eqv, beq_iff_eq]
  by_cases h1 : x = x' <;> by_cases h2 : y = y' <;> by_cases h3 : z = z' <;> simp [h1, h2, h3]
instance {p q : Int × Int × Int} : Decidable (lex3 p q) := by unfold lex3; infer_instance
/-- sorted(xs), xs a list of triples of ints (k says which) -/
def rSortedTO (K : PySem.W.Frag) : List V → Hp → VK → Prop := fun vs H Q => ∃ (a : Addr) (xs : List V) (k : V → Int × Int × Int), vs = [V.ref a] ∧ SqL K H a xs ∧ (∀ x ∈ xs, ∃ t, x = V.ref t ∧ H t = some (.tup [.int (k x).1, .int (k x).2.1, .int (k x).2.2])) ∧
  ∀ ys p, ys.Perm xs → ys.Pairwise (fun x y => lex3 (k x) (k y)) → H p = none → Q (.ref p) (upd H p (.lst ys))
section
variable {X : Cx}
open PySem.W in
theorem cr_sortedTO (hu : X.A.units + 65 < PySem.cLine) : CallR X (.builtin "sorted") (rSortedTO X.K) := by
  intro pins s σ H vs us Q I r h
  obtain ⟨a, xs, k, rfl, hs, hx, q⟩ := h
  obtain ⟨its, rv, hl, hz⟩ := I.list hs
  obtain ⟨u, rfl, ru⟩ := vals1 r
  obtain rfl : u = Value.ref a := ru
  obtain ⟨e1, e2⟩ := refs_back rv fun x m => by
    obtain ⟨t, e, _⟩ := hx x m
    exact ⟨t, e⟩
  let enc : Value → PyData := fun u => .tuple [.int (k (backV u)).1, .int (k (backV u)).2.1, .int (k (backV u)).2.2]
  have hrd : ∀ u ∈ its, ∃ as, PySem.Reads s.heap u (enc u) as := fun v hv => by
    obtain ⟨t, rfl⟩ := e2 v hv
    have hm : V.ref t ∈ xs := by rw [e1]; exact List.mem_map.mpr ⟨_, hv, rfl⟩
    obtain ⟨t', e, ht⟩ := hx _ hm
    cases e
    exact Dp.reads I _ (.ref t) (.ref t) (.tup (SqT.of ht) (.cons (.int _) (.cons (.int _) (.cons (.int _) .nil)))) rfl
  have eid : ∀ l : List Value, EachIs (fun v b : Value => v = b) l l := fun l => by
    induction l with
    | nil => exact .nil
    | cons x l ih => exact .cons rfl ih
  have ide : ∀ {l m : List Value}, EachIs (fun v b : Value => v = b) l m → l = m := fun h => by
    induction h with
    | nil => rfl
    | cons a _ ih => rw [a, ih]
  have erd : ∀ l : List Value, (∀ u ∈ l, u ∈ its) → EachIs (fun v b => ∃ as, PySem.Reads s.heap v (enc b) as) l l := fun l => by
    induction l with
    | nil => intro _; exact .nil
    | cons x l ih => intro h; exact .cons (hrd x (h x List.mem_cons_self)) (ih fun u hu => h u (List.mem_cons_of_mem _ hu))
  have hle : dataLe false enc = fun p q => decide (lex3 (k (backV p)) (k (backV q))) := by
    funext p q
    show (!PySem.W.dataLt (enc q) (enc p)) = _
    rw [dataLt_iii, ← decide_not]
    congr 1
    unfold lex3
    simp only [eq_iff_iff]
    omega
  refine sorted_data (enc := enc) (bs := its) hl.isList (eid its) (erd its fun _ h => h) (AllAlike.of fun b b' => by simp [enc, alike, alikeAll]) (Sortable.tuples fun b => ⟨_, _, rfl⟩) (by rw [← rv.length]; exact hz) (fun b _ => by
    show X.A.units + 2 + (PyData.tuple _).depth < _
    simp only [PyData.depth, PyData.depthAll]; omega) fun out ho hr => ?_
  have ho2 := ide hr
  rw [hle] at ho2
  have hp : out.Perm its := by rw [ho2]; exact List.mergeSort_perm _ _
  have hsrt : out.Pairwise fun p q => lex3 (k (backV p)) (k (backV q)) := by
    rw [ho2]
    refine (List.pairwise_mergeSort (le := fun p q : Value => decide (lex3 (k (backV p)) (k (backV q)))) (fun a b c h1 h2 => ?_) (fun a b => ?_) its).imp fun h => of_decide_eq_true h
    · have h1 := of_decide_eq_true h1
      have h2 := of_decide_eq_true h2
      refine decide_eq_true ?_
      unfold lex3 at *
      omega
    · rw [Bool.or_eq_true, decide_eq_true_eq, decide_eq_true_eq]
      unfold lex3
      omega
  obtain ⟨n, hd⟩ : ∃ n, (sortedAll s.heap its out.toArray).get? (s.heap.objs.size + 1) = some (seqObj "list" out.toArray n) := sortedAll_at s.heap its out.toArray
  have h3 : ∀ u ∈ out, ∃ a, u = Value.ref a := fun u hu => e2 u (hp.mem_iff.mp hu)
  refine ⟨.ref (s.heap.objs.size + 1), upd H (s.heap.objs.size + 1) (.lst (out.map backV)), I.laid (t' := s.toks) (fun b o e => sortedAll_old e) (Nat.le_succ _) ⟨?_, out, n, vals_back h3, hd⟩, rfl, q _ _ ?_ ?_ (I.hok.fresh (Nat.le_succ _))⟩
  · rw [List.length_map, hp.length_eq, ← List.length_map backV, ← e1]; exact hz
  · rw [e1]; exact hp.map _
  · exact List.pairwise_map.mpr hsrt
end
end DP

/-! DpF: built-in functions by values; calls of defs (with the guards' stack known to be empty). -/
namespace DP
open PySem (Addr sizeLine wpAny model Value Shared Around FuncData BindsTo codeAny Str)
open PySem.W (Frag)
open L2
variable [CT]

section
variable {X : Cx} {F : Hp} {O : Own} {H : Hp} {vs : List V} {ds : List D} {Qv : VK}
theorem bi_ok {b : BI} {Q : D → Prop} (w : biD b ds Q) (r : RepL F ds vs O) (s : Sub F H) (h : Own.inH O H) (hc : hotB b = false → X.calm = true) (hg : X.A.guards = some []) (hu : X.A.units + 65 < PySem.cLine)
    (k0 : ∀ d v, Q d → Rep F d v [] → Qv v H) (kL : ∀ ds vs p, Q (.lst true ds) → RepL F ds vs [] → H p = none → Qv (.ref p) (upd H p (.lst vs)))
    (kT : ∀ ds vs p, Q (.tup ds) → RepL F ds vs [] → H p = none → Qv (.ref p) (upd H p (.tup vs))) : anyC X b.val vs H Qv := by
  have one : ∀ {d : D} {vs : List V} {O : Own}, RepL F [d] vs O → ∃ v, vs = [v] ∧ Rep F d v O := fun r => by
    cases r with
    | cons a b => cases b; exact ⟨_, rfl, by simpa using a⟩
  have two : ∀ {d e : D} {vs : List V} {O : Own}, RepL F [d, e] vs O → ∃ v u A B, vs = [v, u] ∧ Rep F d v A ∧ Rep F e u B := fun r => by
    cases r with
    | cons a b =>
      obtain ⟨u, rfl, c⟩ := one b
      exact ⟨_, u, _, _, rfl, a, c⟩
  have three : ∀ {d e f : D} {vs : List V} {O : Own}, RepL F [d, e, f] vs O → ∃ v u z A B C, vs = [v, u, z] ∧ Rep F d v A ∧ Rep F e u B ∧ Rep F f z C := fun r => by
    cases r with
    | cons a b =>
      obtain ⟨v, u, A, B, rfl, c, d⟩ := two b
      exact ⟨_, _, _, _, _, _, rfl, a, c, d⟩
  unfold biD at w
  split at w
  · obtain ⟨v, rfl, q⟩ := one r
    obtain ⟨a, us, P, rfl, e, q1, _⟩ := q.lstB s h
    exact ⟨_, call_len, _, _, rfl, .inl ⟨us, .inl e, rfl⟩, by rw [← q1.len]; exact k0 _ _ w (.int _)⟩
  · obtain ⟨v, rfl, q⟩ := one r
    obtain ⟨a, us, rfl, e, q1⟩ := q.tupB s
    exact ⟨_, call_len, _, _, rfl, .inr ⟨us, SqT.of e, rfl⟩, by rw [← q1.len]; exact k0 _ _ w (.int _)⟩
  · obtain ⟨v, rfl, q⟩ := one r
    obtain ⟨rfl, rfl⟩ := q.strI
    exact ⟨_, call_len, _, _, rfl, ⟨w.1, rfl⟩, k0 _ _ w.2 (.int _)⟩
  · obtain ⟨v, rfl, q⟩ := one r
    obtain ⟨rfl, rfl⟩ := q.intI
    exact ⟨_, call_abs, _, rfl, k0 _ _ w (.int _)⟩
  · obtain ⟨v, u, A, B, rfl, q1, q2⟩ := two r
    obtain ⟨rfl, rfl⟩ := q1.intI; obtain ⟨rfl, rfl⟩ := q2.intI
    exact ⟨_, call_min2 (hc rfl), _, _, rfl, k0 _ _ w (.int _)⟩
  · obtain ⟨v, u, A, B, rfl, q1, q2⟩ := two r
    obtain ⟨rfl, rfl⟩ := q1.intI; obtain ⟨rfl, rfl⟩ := q2.intI
    exact ⟨_, call_max2 (hc rfl), _, _, rfl, k0 _ _ w (.int _)⟩
  · rename_i i j k
    obtain ⟨v, u, z, A, B, C, rfl, q1, q2, q3⟩ := three r
    obtain ⟨rfl, rfl⟩ := q1.intI; obtain ⟨rfl, rfl⟩ := q2.intI; obtain ⟨rfl, rfl⟩ := q3.intI
    refine ⟨_, call_min3Nu (hc rfl), _, _, _, _, rfl, ?_, k0 _ _ w (.int _)⟩
    by_cases h1 : j < i <;> by_cases h2 : k < i <;> by_cases h3 : k < j <;> simp [nuMin3, nuMin2, nuLt, nuCB, h1, h2, h3]
  · rename_i i j k
    obtain ⟨v, u, z, A, B, C, rfl, q1, q2, q3⟩ := three r
    obtain ⟨rfl, rfl⟩ := q1.intI; obtain ⟨rfl, rfl⟩ := q2.intI; obtain ⟨rfl, rfl⟩ := q3.intI
    refine ⟨_, call_max3Nu (hc rfl), _, _, _, _, rfl, ?_, k0 _ _ w (.int _)⟩
    by_cases h1 : i < j <;> by_cases h2 : i < k <;> by_cases h3 : j < k <;> simp [nuMax3, nuMax2, nuLt, nuCB, h1, h2, h3]
  · obtain ⟨v, rfl, q⟩ := one r
    obtain ⟨a, us, P, rfl, e, q1, _⟩ := q.lstB s h
    obtain ⟨ns, e1, e2, w⟩ := w
    obtain ⟨rfl, _, _⟩ := intsD_rep q1 e1
    exact ⟨_, cr_min (hc rfl), a, ns, rfl, .inl e, e2, fun m hm hy => k0 _ _ (w m hm hy) (.int _)⟩
  · obtain ⟨v, rfl, q⟩ := one r
    obtain ⟨a, us, P, rfl, e, q1, _⟩ := q.lstB s h
    obtain ⟨ns, e1, e2, w⟩ := w
    obtain ⟨rfl, _, _⟩ := intsD_rep q1 e1
    exact ⟨_, cr_max (hc rfl), a, ns, rfl, .inl e, e2, fun m hm hy => k0 _ _ (w m hm hy) (.int _)⟩
  · obtain ⟨v, rfl, q⟩ := one r
    obtain ⟨a, us, P, rfl, e, q1, _⟩ := q.lstB s h
    obtain ⟨ns, e1, w⟩ := w
    obtain ⟨rfl, _, _⟩ := intsD_rep q1 e1
    exact ⟨_, cr_sum (hc rfl), a, ns, rfl, .inl e, k0 _ _ w (.int _)⟩
  · obtain ⟨v, rfl, q⟩ := one r
    obtain ⟨a, us, P, rfl, e, q1, _⟩ := q.lstB s h
    obtain ⟨ns, e1, w⟩ := w
    have e2 := blsD_rep q1 e1
    subst e2
    exact ⟨_, cr_all (hc rfl), a, ns, rfl, .inl e, k0 _ _ w (.bl _)⟩
  · obtain ⟨v, rfl, q⟩ := one r
    obtain ⟨a, us, P, rfl, e, q1, _⟩ := q.lstB s h
    obtain ⟨ns, e1, w⟩ := w
    have e2 := blsD_rep q1 e1
    subst e2
    exact ⟨_, cr_any (hc rfl), a, ns, rfl, .inl e, k0 _ _ w (.bl _)⟩
  · obtain ⟨v, rfl, q⟩ := one r
    obtain ⟨a, us, P, rfl, e, q1, _⟩ := q.lstB s h
    rcases w with ⟨ns, e1, w⟩ | ⟨ps, e1, w⟩ | ⟨ps, e1, w⟩
    · obtain ⟨rfl, _, _⟩ := intsD_rep q1 e1
      exact ⟨_, cr_sortedI, a, ns, rfl, .inl e, fun ns' p hp hs hn => kL _ _ p (w ns' hp hs) (repL_ints ns') hn⟩
    · obtain ⟨e2, e3⟩ := prsD_rep q1 e1 s
      refine ⟨_, cr_sortedPO, a, us, pairAt H, rfl, .inl e, fun x hx => ?_, fun ys p hs hb hn => ?_⟩
      · obtain ⟨t, e4, e5⟩ := e3 x hx
        exact ⟨t, e4, s _ _ e5⟩
      · have hp : ys.Perm us := hb.perm
        refine kL _ _ p (w (ys.map (pairAt H)) (e2 ▸ hp.map _) ?_) (repL_prs fun y hy => e3 y (hp.mem_iff.mp hy)) hn
        refine List.pairwise_map.mpr (List.Pairwise.imp ?_ (show ys.Pairwise fun x y => ltP (pairAt H) y x = false from hs))
        intro x y q
        have q' := SrtO.lexB_no.mp q
        unfold lexLe
        omega
    · obtain ⟨e2, e3⟩ := trsD_rep q1 e1 s
      refine ⟨_, cr_sortedTO hu, a, us, triAt H, rfl, .inl e, fun x hx => ?_, fun ys p hp hb hn => ?_⟩
      · obtain ⟨t, e4, e5⟩ := e3 x hx
        exact ⟨t, e4, s _ _ e5⟩
      · exact kL _ _ p (w (ys.map (triAt H)) (e2 ▸ hp.map _) (List.pairwise_map.mpr hb)) (repL_trs fun y hy => e3 y (hp.mem_iff.mp hy)) hn
  · obtain ⟨v, rfl, q⟩ := one r
    obtain ⟨a, us, P, rfl, e, q1, _⟩ := q.lstB s h
    have e2 := q1.free w.1
    subst e2
    exact ⟨_, call_list_of, a, us, rfl, .inl (.inl e), fun p hp => kL _ _ p w.2 q1 hp⟩
  · obtain ⟨v, rfl, q⟩ := one r
    obtain ⟨a, us, rfl, e, q1⟩ := q.tupB s
    have e2 := q1.free w.1
    subst e2
    exact ⟨_, call_list_of, a, us, rfl, .inr (SqT.of e), fun p hp => kL _ _ p w.2 q1 hp⟩
  · obtain ⟨v, rfl, q⟩ := one r
    obtain ⟨a, us, P, rfl, e, q1, _⟩ := q.lstB s h
    have e2 := q1.free w.1
    subst e2
    exact ⟨_, call_tuple_of, a, us, rfl, .inl ⟨.inl e, fun p hp => kT _ _ p w.2 q1 hp⟩⟩
  · obtain ⟨v, rfl, q⟩ := one r
    obtain ⟨rfl, rfl⟩ := q.intI
    exact ⟨_, call_str_int, _, rfl, w.1, k0 _ _ w.2 (.str _)⟩
  · obtain ⟨v, rfl, q⟩ := one r
    obtain ⟨rfl, rfl⟩ := q.strI
    exact ⟨_, SkE.call_str_str, _, rfl, k0 _ _ w (.str _)⟩
  · obtain ⟨v, rfl, q⟩ := one r
    obtain ⟨rfl, rfl⟩ := q.intI
    exact ⟨_, call_int1, .inl ⟨_, rfl, k0 _ _ w (.int _)⟩⟩
  · obtain ⟨v, rfl, q⟩ := one r
    obtain ⟨rfl, rfl⟩ := q.blI
    exact ⟨_, call_int1, .inr ⟨_, rfl, k0 _ _ w (.int _)⟩⟩
  · obtain ⟨v, rfl, q⟩ := one r
    exact ⟨_, cr_repr hg hu, F, v, _, _, rfl, q, s, h, w.1, w.2.1, w.2.2.1, k0 _ _ w.2.2.2 (.str _)⟩
  · obtain ⟨v, rfl, q⟩ := one r
    obtain ⟨rfl, rfl⟩ := q.intI
    exact ⟨_, call_bool1, .inl ⟨_, rfl, k0 _ _ w (.bl _)⟩⟩
  · obtain ⟨v, rfl, q⟩ := one r
    obtain ⟨rfl, rfl⟩ := q.blI
    exact ⟨_, call_bool1, .inr ⟨_, rfl, k0 _ _ w (.bl _)⟩⟩
  · exact w.elim
end

/-! ### calls of defs -/
/-- as the layer's FnOk, where no repr is under way -/
structure FnG (P : PySem.Program) (w : PySem.World) (K : Frag) (mg : Str → Option Value) (base : PySem.Heap) (k : Nat) (f : Addr) (fd : FuncData) (n : Nat) (ps : List Str) (sp : Sp) : Prop where
  len : ∀ vs H Q E, sp vs H Q E → vs.length = n
  run : ∀ (A : Around) (outer : List PySem.Env) (s : Shared) (H : Hp) (args : PySem.Args) (us : List Value) (vs : List V) (Q : VK) (E : XK), A.guards = some [] → Room k A → Env0 P w K mg base A outer s H →
    BindsTo s fd args (ps.zip us) → Vals vs us → sp vs H Q E → codeAny (model P w) A (.call (.ref f) args) (CR (L2.CX P w) outer P w H s Q E) s
theorem FnG.mono {P : PySem.Program} {w : PySem.World} {K : Frag} {mg : Str → Option Value} {base : PySem.Heap} {j k : Nat} {f : Addr} {fd : FuncData} {n : Nat} {ps : List Str} {sp : Sp} (G : FnG P w K mg base j f fd n ps sp) (h : j ≤ k) :
    FnG P w K mg base k f fd n ps sp := ⟨G.len, fun A o s H a us vs Q E g r => G.run A o s H a us vs Q E g (r.mono h)⟩
section
variable {X : Cx} {k n : Nat} {f : Addr} {fd : FuncData} {ps : List Str} {sp : Sp} {W : WX} {x : Str} {p pos : PySem.Pos} {e : PySem.Expr} {es : List PySem.Expr} {kws : List PySem.Keyword} {t tk : TA}
def tCallG (sp : Sp) (W : WX) (t : TA) : TE := fun σ H Q => t σ H fun vs H1 => sp vs H1 Q fun cls d H2 => W cls d σ H2
theorem run_G {pins : List (Addr × PySem.Obj)} {σ : St} {H : Hp} {s : Shared} {Q : VK} {args : PySem.Args} {us : List Value} {vs : List V} (G : FnG X.prog X.w X.K X.mg X.base k f fd n ps sp) (hg : X.A.guards = some []) (hr : Room k X.A)
    (tk : Takes X W) (I : Inv X pins σ H s) (hb : BindsTo s fd args (ps.zip us)) (r : Vals vs us) (h : sp vs H Q fun cls d H2 => W cls d σ H2) : codeAny (model X.prog X.w) X.A (.call (.ref f) args) (fun rs s' => match rs with
      | .ok (.ret u) => EP X pins σ Q u s'
      | .ok _ => False
      | .error e => X.xe e s') s := by
  refine PySem.codeAny_mono (G.run X.A X.stack s H args us vs Q _ hg hr I.env0 hb r h) fun rs s' q => ?_
  cases rs with
  | error e => exact tk e s' (XE.of_call I (fun _ _ _ z => z) q)
  | ok fl =>
    cases fl with
    | ret u => exact I.after q
    | next => exact False.elim q
    | brk => exact False.elim q
    | cont => exact False.elim q
theorem run_G' {pins : List (Addr × PySem.Obj)} {σ : St} {H : Hp} {s : Shared} {Q : VK} {us ws : List Value} {ks : List Str} {as : List Value} {vs : List V} (G : FnG X.prog X.w X.K X.mg X.base k f fd n ps sp) (hg : X.A.guards = some []) (hr : Room k X.A)
    (tk : Takes X W) (I : Inv X pins σ H s) (hb : BindsTo s fd ⟨us, ks.zip ws⟩ (ps.zip as)) (r : Vals vs as) (h : sp vs H Q fun cls d H2 => W cls d σ H2) : wpAny (model X.prog X.w) X.A (PySem.call (.ref f) us (ks.zip ws)) (EP X pins σ Q) X.xe s := by
  refine PySem.wpAny_call (PySem.codeAny_mono (run_G G hg hr tk I hb r h) fun rs s' q => ?_)
  cases rs with
  | error e => exact q
  | ok fl =>
    cases fl with
    | ret u => exact q
    | next => exact False.elim q
    | brk => exact False.elim q
    | cont => exact False.elim q
theorem pe_callG (G : FnG X.prog X.w X.K X.mg X.base k f fd n ps sp) (hg : X.A.guards = some []) (hr : Room k X.A) (tk : Takes X W) (hx : Gl X x) (hm : X.mg x = some (.ref f)) (hk : PySem.W.keepIn X.K (.ref f) = true)
    (hb : ∀ (s : Shared) (us : List Value), us.length = n → BindsTo s fd ⟨us, []⟩ (ps.zip us)) (ha : PA X (e :: es) t) (hdb : (x == ("__debug__" : Str)) = false)
    (he : PySem.starEach (e :: es) X.env = (false, PySem.eval e X.env) :: PySem.starEach es X.env) (hpl : (PySem.backTo pos (PySem.starEach es X.env)).any (·.1) = false) : PE X (.Call (.Name x p) (e :: es) [] pos) (tCallG sp W t) := by
  refine ⟨fun pins s σ H Q I h => ?_⟩
  refine PySem.wpAny_Call_Name_kw (ld_glob I hx hm ?_ hdb)
  refine PySem.W.callWith_K (h₀ := X.base) I.ok.mod.kin hk (thn (ha.run pos pins s σ H _ I h) fun us s1 ⟨vs, H1, I1, r, q⟩ => ⟨I1.kIn, ?_⟩) he hpl
  exact run_G' (ks := []) (ws := []) G hg hr tk I1 (hb s1 us (by rw [← r.length]; exact G.len _ _ _ _ q)) r q
theorem pe_callG0 (G : FnG X.prog X.w X.K X.mg X.base k f fd n ps sp) (hg : X.A.guards = some []) (hr : Room k X.A) (tk : Takes X W) (hx : Gl X x) (hm : X.mg x = some (.ref f)) (hk : PySem.W.keepIn X.K (.ref f) = true)
    (hb : ∀ (s : Shared) (us : List Value), us.length = n → BindsTo s fd ⟨us, []⟩ (ps.zip us)) (hdb : (x == ("__debug__" : Str)) = false) : PE X (.Call (.Name x p) [] [] pos) (tCallG sp W tNil) := by
  refine ⟨fun pins s σ H Q I h => ?_⟩
  refine PySem.wpAny_Call_Name_kw (ld_glob I hx hm ?_ hdb)
  exact PySem.W.callWith_K0 I.kIn hk (run_G' (us := []) (ks := []) (ws := []) G hg hr tk I (hb s [] (G.len _ _ _ _ h)) .nil h)
end
end DP

/-! DpG: readings over data; what a def promises over data. -/
namespace DP
open PySem (Addr sizeLine wpAny model Value Shared Around FuncData BindsTo codeAny Str Paired)
open PySem.W (Frag)
open L2
variable [CT]

def pick {α : Type} : List Bool → List α → List α
  | true :: bs, v :: vs => v :: pick bs vs
  | false :: bs, _ :: vs => pick bs vs
  | _, _ => []
/-- an error, as it lies in the heap -/
def RepX (mg : Str → Option Value) (F H : Hp) (x : Exc) (cls : Value) (dd : Option Addr) : Prop :=
  ∃ (C : Addr) (vs : List V), CT.cat x.cls = some C ∧ cls = .ref C ∧ XdOf F dd x.fs vs ∧ RepL F x.xs vs [] ∧ x.fs.length = x.xs.length ∧ x.fs = fldsOf x.cls
/-- a def's promise by its promise over data -/
def spM (mg : Str → Option Value) (n : Nat) (ios : List Bool) (sp : FSpec) : Sp := fun vs H Q E => ∃ ds F O Qd Rd, RepL F ds vs O ∧ Held F O H ∧ ds.length = n ∧ sp ds Qd Rd ∧
  (∀ r outs, Qd r outs → ∀ F' Or Oo v H', Next F O H F' (Or ++ Oo) H' → Rep F' r v Or → RepL F' outs (pick ios vs) Oo → Q v H') ∧
  (∀ x, Rd x → ∀ F' O' cls dd H', Next F O H F' O' H' → RepX mg F' H' x cls dd → E cls dd H')

/-- what is known of a def by its name -/
structure Ent where
  nm : String
  ps : List String
  ios : List Bool
  sp : FSpec
  kws : List (Nat × List String)
def look (L : List Ent) (f : String) : Option Ent := L.find? fun e => e.nm == f
def sigOf (L : List Ent) (me : List Nat) : Sig where
  sp := fun f => match look L f with | some e => e.sp | none => fun _ _ _ => False
  ios := fun f => match look L f with | some e => e.ios | none => []
  ps := fun f => match look L f with | some e => e.ps | none => []
  me := me
/-- a def that is known: where it stands, what it promises, how its parameters are bound -/
structure KnE (P : PySem.Program) (w : PySem.World) (K : Frag) (mg : Str → Option Value) (base : PySem.Heap) (k : Nat) (e : Ent) : Prop where
  ok : ∃ (a : Addr) (fd : FuncData), mg (Str.ofString e.nm) = some (.ref a) ∧ PySem.W.keepIn K (.ref a) = true ∧ FnG P w K mg base k a fd e.ps.length (e.ps.map Str.ofString) (spM mg e.ps.length e.ios e.sp) ∧
    (∀ (s : Shared) (us : List Value), us.length = e.ps.length → BindsTo s fd ⟨us, []⟩ ((e.ps.map Str.ofString).zip us)) ∧
    (∀ kw ∈ e.kws, ∃ ix, kwIx e.ps kw.2 kw.1 = some ix ∧ ix.length = e.ps.length ∧ (∀ j ∈ ix, j < kw.1 + kw.2.length) ∧ ∀ (s : Shared) (us ws : List Value), us.length = kw.1 → ws.length = kw.2.length →
      BindsTo s fd ⟨us, (kw.2.map Str.ofString).zip ws⟩ ((e.ps.map Str.ofString).zip (atAll (us ++ ws) ix)))
/-- the chain behind an own class of errors -/
def bmVE : List Value := [.type "ValueError", .type "Exception", .type "BaseException", .type "object"]
/-- what is known of a class of errors -/
structure XwC (P : PySem.Program) (w : PySem.World) (K : Frag) (mg : Str → Option Value) (base : PySem.Heap) (c : String) (C : Addr) : Prop where
  gC : mg (Str.ofString c) = some (.ref C)
  kC : PySem.W.keepIn K (.ref C) = true
  xC : XcC K C
  tC : PySem.W.typeIn K (.ref C) = some (.type "type")
  ve : PySem.W.kitOne K (.ref C) (.type "ValueError") = some true
  made : match fldTab.lookup c with
    | none => PySem.W.excIn K C bmVE "ValueError.__new__" = true
    | some f => ∃ (fI : Addr) (fd : FuncData), FlC K C fI f ∧ FnOk P w K mg base CX0 1 fI fd [Str.ofString "self", Str.ofString f] (spInit K C f) ∧ Binds K fd [Str.ofString "self", Str.ofString f] []
/-- what is known of the classes -/
structure Xw (cl : List String) (P : PySem.Program) (w : PySem.World) (K : Frag) (mg : Str → Option Value) (base : PySem.Heap) : Prop where
  at_ : ∀ k ∈ cl, ∃ D, CT.cat k = some D
  tab : ∀ c C, CT.cat c = some C → (excTab.lookup c).isSome = true
  one : ∀ c C, CT.cat c = some C → XwC P w K mg base c C
  two : ∀ c C k D, CT.cat c = some C → CT.cat k = some D → PySem.W.kitOne K (.ref C) (.ref D) = subX c k ∧ PySem.W.exmOne K (.ref C) (.ref D) = subX c k
def bnames : List String := ["ValueError", "len", "abs", "min", "max", "sum", "all", "any", "sorted", "list", "tuple", "str", "int", "repr", "bool", "isinstance", "range", "zip", "enumerate", "reversed", "set", "dict"]
structure Wd (L : List Ent) (gl : List (String × D)) (cl : List String) (P : PySem.Program) (w : PySem.World) (K : Frag) (mg : Str → Option Value) (base : PySem.Heap) (k : Nat) : Prop where
  kn : ∀ e ∈ L, KnE P w K mg base k e
  bn : ∀ b ∈ bnames, mg (Str.ofString b) = none
  gl : ∀ p ∈ gl, ∃ u v, mg (Str.ofString p.1) = some u ∧ RelV v u ∧ ∀ F, Rep F p.2 v []
  xw : Xw cl P w K mg base
/-- where one stands is known -/
structure Cok (L : List Ent) (c : SC) (X : Cx) (W : WX) : Prop where
  N : X.N = c.N
  sc : X.env.scope = c.sc
  nd : X.N.Nodup
  calm : c.hot = false → X.calm = true
  st : ∀ x, (c.st.names.lookup x = some .local ∨ c.st.names.lookup x = some .cell) → Loc X.env.scope x ∧ (X.fn x = true ∨ X.env.scope.names.lookup x = some .local)
  hg : X.A.guards = some []
  hu : X.A.units + 65 < PySem.cLine
  tk : Takes X W
  kw : ∀ q ∈ c.kws, ∃ e, look L q.1 = some e ∧ q.2 ∈ e.kws
  fn : ∀ q ∈ c.fns, ∃ e, look L q.1 = some e ∧ e.ps.length = q.2
  wd : ∃ k, (c.hot = false → Room k X.A) ∧ 2 ≤ k ∧ Wd L c.gl c.cls X.prog X.w X.K X.mg X.base k

/-- where an argument that may have changed stands: a name's slot, or nowhere any more -/
def Back (σ : St) (i : Nat) (v : V) : Prop := σ[i]? = some (some v) ∨ σ.length ≤ i
section
variable (mg : Str → Option Value) (W : WX) (F : Hp) (O : Own) (σ : St) (H : Hp)
def okE (Q : VK) (K : KD) : Prop := ∀ d env', K d env' → ∀ F' Od Oe v H', Next F O H F' (Od ++ Oe) H' → Rep F' d v Od → SimE F' env' σ Oe → Q v H'
def okX (R : KX) : Prop := ∀ x env', R x env' → ∀ F' O' cls dd H', Next F O H F' O' H' → SimE F' env' σ O' → RepX mg F' H' x cls dd → W cls dd σ H'
def okT (Q : Bool → Hp → Prop) (K : Bool → Env → Prop) : Prop := ∀ b env', K b env' → ∀ F' Oe H', Next F O H F' Oe H' → SimE F' env' σ Oe → Q b H'
def okL (n : Nat) (Q : List V → Hp → Prop) (K : List D → Env → Prop) : Prop := ∀ ds env', K ds env' → ds.length = n → ∀ F' Od Oe vs H', Next F O H F' (Od ++ Oe) H' → RepL F' ds vs Od → SimE F' env' σ Oe → Q vs H'
def okA (fl : List Bool) (n : Nat) (Q : List V → Hp → Prop) (K : List D → List Nat → Env → Prop) : Prop := ∀ ds tk env', K ds tk env' → ds.length = n → ∀ F' Od Oe vs H', Next F O H F' (Od ++ Oe) H' → RepL F' ds vs Od → SimE F' env' σ Oe →
  Paired (Back σ) tk (pick fl vs) → Q vs H'
def okO (Q : Option Int → Hp → Prop) (K : Option Int → Env → Prop) : Prop := ∀ i env', K i env' → ∀ F' Oe H', Next F O H F' Oe H' → SimE F' env' σ Oe → Q i H'
end
variable {mg : Str → Option Value} {W : WX} {F F1 F2 : Hp} {O O1 O2 : Own} {σ : St} {H H1 H2 : Hp}
theorem okE.step {Q : VK} {K : KD} (h : okE F O σ H Q K) (n : Next F O H F1 O1 H1) : okE F1 O1 σ H1 Q K := fun d e k F2 Od Oe v H2 m => h d e k F2 Od Oe v H2 (n.trans m)
theorem okT.step {Q : Bool → Hp → Prop} {K : Bool → Env → Prop} (h : okT F O σ H Q K) (n : Next F O H F1 O1 H1) : okT F1 O1 σ H1 Q K := fun d e k F2 Oe H2 m => h d e k F2 Oe H2 (n.trans m)
theorem okX.step {R : KX} (h : okX mg W F O σ H R) (n : Next F O H F1 O1 H1) : okX mg W F1 O1 σ H1 R := fun x env' r F' O' cls dd H' m s q => h x env' r F' O' cls dd H' (n.trans m) s q

def tE (Γ : Sig) (mg : Str → Option Value) (W : WX) (e : E) : TE := fun σ H Q => ∃ env F O K R, SimE F env σ O ∧ Held F O H ∧ wpE Γ e env K R ∧ okE F O σ H Q K ∧ okX mg W F O σ H R
def tT (Γ : Sig) (mg : Str → Option Value) (W : WX) (e : E) : TT := fun σ H Q => ∃ env F O K R, SimE F env σ O ∧ Held F O H ∧ wpT Γ e env K R ∧ okT F O σ H Q K ∧ okX mg W F O σ H R
def tTo (Γ : Sig) (mg : Str → Option Value) (W : WX) (k : Bool) (es : Es) : TT := fun σ H Q => ∃ env F O K R, SimE F env σ O ∧ Held F O H ∧ wpTo Γ k es env K R ∧ okT F O σ H Q K ∧ okX mg W F O σ H R
def tTs (Γ : Sig) (mg : Str → Option Value) (W : WX) (es : Es) : TT := fun σ H Q => ∃ env F O K R, SimE F env σ O ∧ Held F O H ∧ wpTs Γ es env K R ∧ okT F O σ H Q K ∧ okX mg W F O σ H R
def tBo (Γ : Sig) (mg : Str → Option Value) (W : WX) (k : Bool) (es : Es) : TE := fun σ H Q => ∃ env F O K R, SimE F env σ O ∧ Held F O H ∧ wpBo Γ k es env K R ∧ okE F O σ H Q K ∧ okX mg W F O σ H R
def tEs (Γ : Sig) (mg : Str → Option Value) (W : WX) (es : Es) : TA := fun σ H Q => ∃ env F O K R, SimE F env σ O ∧ Held F O H ∧ wpEs Γ es env K R ∧ okL F O σ H es.len Q K ∧ okX mg W F O σ H R
def okLs (F : Hp) (O : Own) (σ : St) (H : Hp) (Q : List V → Hp → Prop) (K : List D → Env → Prop) : Prop := ∀ ds env', K ds env' → ∀ F' Od Oe vs H', Next F O H F' (Od ++ Oe) H' → RepL F' ds vs Od → SimE F' env' σ Oe → Q vs H'
def tDs (Γ : Sig) (mg : Str → Option Value) (W : WX) (fl : List Bool) (es : Es) : TA := fun σ H Q => ∃ env F O K R, SimE F env σ O ∧ Held F O H ∧ wpDs Γ es fl env K R ∧ okLs F O σ H Q K ∧ okX mg W F O σ H R
def tA (Γ : Sig) (mg : Str → Option Value) (W : WX) (fl : List Bool) (es : Es) : TA := fun σ H Q => ∃ env F O K R, SimE F env σ O ∧ Held F O H ∧ wpA Γ es fl env K R ∧ okA F O σ H fl es.len Q K ∧ okX mg W F O σ H R
def tOpt (Γ : Sig) (mg : Str → Option Value) (W : WX) (o : Eo) : TO := fun σ H Q => ∃ env F O K R, SimE F env σ O ∧ Held F O H ∧ wpO Γ o env K R ∧ okO F O σ H Q K ∧ okX mg W F O σ H R

/-- a looked-at value: it is the name's own, or a passing one -/
def BorOk (a : E) (F : Hp) (d : D) (v : V) (Od : Own) (env : Env) (σ : St) : Prop := match a with
  | .var i => Od = [] ∧ env[i]? = some (some d) ∧ σ[i]? = some (some v)
  | _ => Rep F d v Od
def okB (a : E) (F : Hp) (O : Own) (σ : St) (H : Hp) (Q : VK) (K : KD) : Prop := ∀ d env', K d env' → ∀ F' Od Oe v H', Next F O H F' (Od ++ Oe) H' → BorOk a F' d v Od env' σ → SimE F' env' σ Oe → Q v H'
def tB (Γ : Sig) (mg : Str → Option Value) (W : WX) (a : E) : TE := fun σ H Q => ∃ env F O K R, SimE F env σ O ∧ Held F O H ∧ bor a (fun Q' => wpE Γ a env Q' R) env K ∧ okB a F O σ H Q K ∧ okX mg W F O σ H R
/-- several looked-at values; those that pass are owned by Od -/
def BorsOk : Es → Hp → List D → List V → Own → St → Prop
  | .cons a as, F, d :: ds, v :: vs, Od, σ => ∃ A B, Od = A ++ B ∧ (match a with
      | .var i => A = [] ∧ σ[i]? = some (some v)
      | _ => Rep F d v A) ∧ BorsOk as F ds vs B σ
  | .nil, _, [], [], Od, _ => Od = []
  | _, _, _, _, _, _ => False
def okBs (as : Es) (F : Hp) (O : Own) (σ : St) (H : Hp) (Q : List V → Hp → Prop) (K : List D → Env → Prop) : Prop := ∀ ds env', K ds env' → ∀ F' Od Oe vs H', Next F O H F' (Od ++ Oe) H' → BorsOk as F' ds vs Od σ → SimE F' env' σ Oe → Q vs H'
def tBs (Γ : Sig) (mg : Str → Option Value) (W : WX) (as : Es) : TA := fun σ H Q => ∃ env F O K R, SimE F env σ O ∧ Held F O H ∧ wpBs Γ as env K R ∧ okBs as F O σ H Q K ∧ okX mg W F O σ H R

theorem get_iff {env : Env} {i : Nat} {Q : D → Prop} (h : get env i Q) : ∃ d, env[i]? = some (some d) ∧ Q d := by
  unfold get at h
  split at h
  · rename_i d e; exact ⟨d, e, h⟩
  · exact h.elim
/-- the walks of a loop: the items are known, nothing is changed -/
def Walk (F : Hp) (items : List D) (J : It) : Prop := ∀ F0 O0 H i, Held F0 O0 H → Sub F F0 →
  (∀ d, items[i]? = some d → J.go i H ∧ ∀ x H'', J.yld i H x H'' → ∃ F2, Next F0 O0 H F2 O0 H'' ∧ Rep F2 d x []) ∧ (items.length ≤ i → J.stop i H)
def okI (F : Hp) (O : Own) (σ : St) (H : Hp) (Q : It → Hp → Prop) (K : List D → Env → Prop) : Prop := ∀ items env', K items env' → ∀ F' Oe J H', Next F O H F' Oe H' → SimE F' env' σ Oe → Walk F' items J → Q J H'
def tI (Γ : Sig) (mg : Str → Option Value) (W : WX) (it : I) : TI := fun σ H Q => ∃ env F O K R, SimE F env σ O ∧ Held F O H ∧ wpI Γ it env K R ∧ okI F O σ H Q K ∧ okX mg W F O σ H R

mutual
def slots : T → List Nat
  | .nm i => [i]
  | .tp ts => slotsL ts
def slotsL : Ts → List Nat
  | .nil => []
  | .cons t ts => slots t ++ slotsL ts
end
/-- the frame may have changed at these slots alone, none of them the caller's -/
def Chg (me l : List Nat) (σ σ' : St) : Prop := σ'.length = σ.length ∧ (∀ j, j ∉ l → σ'[j]? = σ[j]?) ∧ ∀ j ∈ me, σ'[j]? = σ[j]?
theorem Chg.refl (me l : List Nat) (σ : St) : Chg me l σ σ := ⟨rfl, fun _ _ => rfl, fun _ _ => rfl⟩
theorem Chg.trans {me l : List Nat} {σ σ1 σ2 : St} (a : Chg me l σ σ1) (b : Chg me l σ1 σ2) : Chg me l σ σ2 := ⟨b.1.trans a.1, fun j h => (b.2.1 j h).trans (a.2.1 j h), fun j h => (b.2.2 j h).trans (a.2.2 j h)⟩
theorem Chg.wide {me l l' : List Nat} {σ σ1 : St} (a : Chg me l σ σ1) (h : ∀ j ∈ l, j ∈ l') : Chg me l' σ σ1 := ⟨a.1, fun j q => a.2.1 j fun z => q (h j z), a.2.2⟩
theorem Chg.one {me : List Nat} {σ : St} {i : Nat} {o : Option V} (h : i ∉ me) : Chg me [i] σ (σ.set i o) := by
  refine ⟨List.length_set, fun j q => List.getElem?_set_ne (by simpa using fun z => q (by simp [z])), fun j q => List.getElem?_set_ne (fun z => h (by rw [z]; exact q))⟩
def okG (me l : List Nat) (F : Hp) (O : Own) (σ : St) (H : Hp) (Q : St → Hp → Prop) (K : Env → Prop) : Prop := ∀ env', K env' → ∀ F' O' σ' H', Next F O H F' O' H' → SimE F' env' σ' O' → Chg me l σ σ' → Q σ' H'
def gT (me : List Nat) (t : T) : TG := fun v σ H Q => ∃ env F Od Oe d K, SimE F env σ Oe ∧ Held F (Od ++ Oe) H ∧ Rep F d v Od ∧ setT me t d env K ∧ okG me (slots t) F (Od ++ Oe) σ H Q K
def gTs (me : List Nat) (ts : Ts) : TGs := fun vs σ H Q => ∃ env F Od Oe ds K, SimE F env σ Oe ∧ Held F (Od ++ Oe) H ∧ RepL F ds vs Od ∧ setTs me ts ds env K ∧ okG me (slotsL ts) F (Od ++ Oe) σ H Q K

/-- a name's value is shared from now on -/
theorem freezeSlot {env : Env} (s : SimE F env σ O) (h : Held F O H) {i : Nat} {d : D} (e : env[i]? = some (some d)) :
    ∃ v F' O', σ[i]? = some (some v) ∧ Next F O H F' O' H ∧ Rep F' d.fz v [] ∧ SimE F' (env.set i (some d.fz)) σ O' := by
  obtain ⟨v, A, B, h1, h2, h3, h4⟩ := s.take e
  have hh := h.perm h4
  have n := Next.freeze hh
  have r := h2.frozen hh
  have hi : i < env.length := (List.getElem?_eq_some_iff.mp e).1
  obtain ⟨C, h5, h6⟩ := (h3.mono n.f).put (i := i) (by rw [List.getElem?_set_self hi]) r
  rw [List.set_set, set_self h1] at h5
  exact ⟨v, addF F A, C, h1, (n.perm_from h4.symm).perm h6.symm, r, h5⟩
/-- a name's value is looked at -/
theorem borUse {a : E} {d : D} {v : V} {Od Oe2 : Own} {env1 env2 : Env} (b : BorOk a F1 d v Od env1 σ) (st : still a d env2) (sub : Sub F1 F2) (s : SimE F2 env2 σ Oe2) (h : Held F2 (Od ++ Oe2) H2) :
    ∃ A, Rep F2 d v A ∧ Own.inH A H2 := by
  have gen : Rep F1 d v Od → ∃ A, Rep F2 d v A ∧ Own.inH A H2 := fun r => ⟨Od, r.mono sub, fun p hp => h.o p (List.mem_append_left _ hp)⟩
  cases a with
  | var i =>
    obtain ⟨rfl, _, e2⟩ := b
    obtain ⟨v', A, B, h1, h2, h3, h4⟩ := s.take (show env2[i]? = some (some d) from st)
    rw [e2] at h1; cases h1
    exact ⟨A, h2, fun p hp => h.right.o p (h4.mem_iff.mpr (List.mem_append_left _ hp))⟩
  | _ => exact gen b
theorem borsUse {env2 : Env} (s : SimE F2 env2 σ O2) : ∀ {as : Es} {ds : List D} {vs : List V} {Od : Own}, BorsOk as F1 ds vs Od σ → stills as ds env2 → Sub F1 F2 → Held F2 (Od ++ O2) H2 → ∃ A, RepL F2 ds vs A ∧ Own.inH A H2 := by
  intro as
  induction as using Es.rec (motive_1 := fun _ => True) (motive_3 := fun _ => True) (motive_4 := fun _ => True) (motive_5 := fun _ => True) (motive_6 := fun _ => True) with
  | nil =>
    intro ds vs Od b st sub h
    cases ds with
    | nil => cases vs with
      | nil => exact ⟨[], .nil, fun p hp => by cases hp⟩
      | cons _ _ => exact b.elim
    | cons _ _ => cases vs <;> exact b.elim
  | cons a as _ ih =>
    intro ds vs Od b st sub h
    cases ds with
    | nil => cases vs <;> exact b.elim
    | cons d ds =>
      cases vs with
      | nil => exact b.elim
      | cons v vs =>
        obtain ⟨A, B, rfl, q, b'⟩ := b
        have h' : Held F2 (B ++ O2) H2 := by rw [List.append_assoc] at h; exact h.right
        have hA : Held F2 (A ++ O2) H2 := h.perm (by rw [List.append_assoc]; exact (List.Perm.append_left A List.perm_append_comm).trans (by rw [← List.append_assoc])) |>.left
        obtain ⟨Q, q1, q2⟩ := ih b' st.2 sub h'
        obtain ⟨P, p1, p2⟩ : ∃ P, Rep F2 d v P ∧ Own.inH P H2 := by
          have gen : Rep F1 d v A → ∃ P, Rep F2 d v P ∧ Own.inH P H2 := fun r => ⟨A, r.mono sub, fun p hp => hA.o p (List.mem_append_left _ hp)⟩
          cases a with
          | var i =>
            obtain ⟨_, e2⟩ := q
            obtain ⟨v', A', B', h1, h2, h3, h4⟩ := s.take (show env2[i]? = some (some d) from st.1)
            rw [e2] at h1; cases h1
            exact ⟨A', h2, fun p hp => h'.right.o p (h4.mem_iff.mpr (List.mem_append_left _ hp))⟩
          | _ => exact gen q
        exact ⟨P ++ Q, .cons p1 q1, fun p hp => (List.mem_append.mp hp).elim (p2 p) (q2 p)⟩
  | _ => trivial
/-- the arguments that may have changed are given back -/
theorem putSim : ∀ {tk : List Nat} {outs : List D} {vs : List V} {env : Env} {O Oo : Own}, SimE F env σ O → RepL F outs vs Oo → Paired (Back σ) tk vs →
    ∃ Z B C, SimE F (putAll tk outs env) σ C ∧ O.Perm (Z ++ B) ∧ ∃ Y, (Oo ++ B).Perm (Y ++ C)
  | [], [], _, env, O, _, s, .nil, _ => ⟨[], O, O, s, by simp, [], by simp⟩
  | [], _ :: _, _ :: _, _, _, _, _, .cons _ _, h => nomatch h
  | _ :: _, [], [], _, _, _, _, .nil, h => nomatch h
  | i :: tk, o :: outs, v :: vs, env, O, _, s, .cons (O1 := A) (O2 := A2) r rs, .cons e0 es => by
    rcases e0 with e | e
    case inr =>
      obtain ⟨Z, B, C, k1, k2, Y, k3⟩ := putSim (tk := tk) s rs es
      have ee : env.set i (some o) = env := List.set_eq_of_length_le (by rw [s.len]; exact e)
      refine ⟨Z, B, C, ?_, k2, A ++ Y, ?_⟩
      · show SimE F (putAll tk outs (env.set i (some o))) σ C
        rw [ee]; exact k1
      · rw [List.append_assoc, List.append_assoc]
        exact List.Perm.append_left A k3
    have hi : i < env.length := by rw [s.len]; exact (List.getElem?_eq_some_iff.mp e).1
    obtain ⟨Z, B, C, h1, h2, h3⟩ := s.store hi r
    rw [set_self e] at h1
    obtain ⟨Z2, B2, C2, k1, k2, Y, k3⟩ := putSim (tk := tk) h1 rs es
    -- C ~ A ++ B ~ Z2 ++ B2; A2 ++ B2 ~ Y ++ C2
    refine ⟨Z, B, C2, k1, h2, Z2 ++ Y, ?_⟩
    have q1 : (A ++ A2 ++ B).Perm (A2 ++ (Z2 ++ B2)) := by
      refine List.Perm.trans ?_ (List.Perm.append_left A2 (h3.symm.trans k2))
      rw [← List.append_assoc]
      exact List.perm_append_comm.append_right _
    refine q1.trans ?_
    rw [List.append_assoc]
    refine List.Perm.trans ?_ (List.Perm.append_left Z2 k3)
    rw [← List.append_assoc, ← List.append_assoc]
    exact List.perm_append_comm.append_right _
end DP

/-! DpH: small facts of the kit's syntax; what loops walk. -/
namespace DP
open PySem (Addr sizeLine wpAny model Value Shared Around FuncData BindsTo codeAny Str Paired Expr)
open PySem.W (Frag)
open L2
variable [CT]

section
variable {X : Cx} {e : Expr} {es : List Expr}
theorem PE.weak {t t' : TE} (h : PE X e t) (k : ∀ σ H Q, t' σ H Q → t σ H Q) : PE X e t' := ⟨fun pins s σ H Q I q => h.run pins s σ H Q I (k σ H Q q)⟩
theorem PT.weak {t t' : TT} (h : PT X e t) (k : ∀ σ H Q, t' σ H Q → t σ H Q) : PT X e t' := ⟨fun pins s σ H Q I q => h.run pins s σ H Q I (k σ H Q q)⟩
theorem PW.weak {t t' : TT} (h : PW X e t) (k : ∀ σ H Q, t' σ H Q → t σ H Q) : PW X e t' := ⟨fun wh pins s σ H Q I q => h.run wh pins s σ H Q I (k σ H Q q)⟩
theorem PA.weak {t t' : TA} (h : PA X es t) (k : ∀ σ H Q, t' σ H Q → t σ H Q) : PA X es t' := ⟨fun pos pins s σ H Q I q => h.run pos pins s σ H Q I (k σ H Q q)⟩
theorem PTs.weak {t t' : TT} (h : PTs X es t) (k : ∀ σ H Q, t' σ H Q → t σ H Q) : PTs X es t' := ⟨fun pins s σ H Q I q => h.run pins s σ H Q I (k σ H Q q)⟩
theorem PI.weak {tg it : Expr} {t t' : TI} (h : PI X tg it t) (k : ∀ σ H Q, t' σ H Q → t σ H Q) : PI X tg it t' := ⟨fun pins s σ H R I q => h.run pins s σ H R I (k σ H R q)⟩
theorem PG.weak {tg : Expr} {t t' : TG} (h : PG X tg t) (k : ∀ v σ H Q, t' v σ H Q → t v σ H Q) : PG X tg t' := ⟨fun pins s σ H v u Q I r q => h.run pins s σ H v u Q I r (k v σ H Q q)⟩
theorem PGs.weak {tg : List Expr} {t t' : TGs} (h : PGs X tg t) (k : ∀ v σ H Q, t' v σ H Q → t v σ H Q) : PGs X tg t' := ⟨fun pins s σ H v u Q I r q => h.run pins s σ H v u Q I r (k v σ H Q q)⟩
end

theorem star_cons {e : Expr} {es : List Expr} {env : PySem.Env} (h : isStar e = false) : PySem.starEach (e :: es) env = (false, PySem.eval e env) :: PySem.starEach es env := by
  cases e <;> first | rfl | (simp [isStar] at h)
theorem chk_star {c : SC} {e : E} {ex : Expr} (h : chkE c e ex = true) : isStar ex = false := by
  cases ex <;> first | rfl | (cases e <;> simp [chkE, notSS] at h)
theorem chk_slice {c : SC} {e : E} {ex : Expr} (h : chkE c e ex = true) : PlainIx ex := by
  intro o i
  cases ex <;> first | rfl | (cases e <;> simp [chkE, notSS] at h)
theorem plain_all {c : SC} {env : PySem.Env} {pos : PySem.Pos} : ∀ {as : Es} {es : List Expr}, chkEs c as es = true → (PySem.backTo pos (PySem.starEach es env)).any (·.1) = false
  | .nil, [], _ => rfl
  | .cons a as, e :: es, h => by
    simp only [chkEs, Bool.and_eq_true] at h
    rw [star_cons (chk_star h.1)]
    show (false || (PySem.backTo pos (PySem.starEach es env)).any (·.1)) = false
    rw [plain_all h.2]; rfl
  | .nil, _ :: _, h => by simp [chkEs] at h
  | .cons _ _, [], h => by simp [chkEs] at h
theorem noSet_ok {e : Expr} {env : PySem.Env} (h : noSet e = true) : ∀ x, PySem.foldedSetIterable e env x = pure x := by
  intro x
  cases e <;> first | rfl | (simp [noSet] at h)
theorem noSet_mark {e : Expr} {op : PySem.CmpOp} (h : noSet e = true) : PySem.behindInMarks op e = false := by
  cases e <;> first | rfl | (simp [noSet] at h)

/-! ### enumerate(list, k) -/
section
open PySem
def Itek (K : PySem.W.Frag) (k : Int) (a : Addr) : It :=
  ⟨fun i H => ∃ (xs : List V) (x : V), SqL K H a xs ∧ xs[i]? = some x, fun i H v H' => ∃ T x, v = .ref T ∧ H T = none ∧ H' = upd H T (.tup [.int (k + (i : Nat)), x]) ∧ ∀ xs, SqL K H a xs → xs[i]? = some x, fun i H => ∃ xs : List V, SqL K H a xs ∧ xs.length ≤ i⟩
theorem enk_end {prog : Program} {w : World} {A : Around} {E : Value → Shared → Prop} {s : Shared} {e it l : Addr} {c : Int} {i : Nat} {items : Array Value} {old : Value} {Q : Option Value → Shared → Prop} (hh : A.handled = none)
    (he : IsEnum s.heap e it c old) (hit : s.heap.IsListIter it l i) (hl : s.heap.IsList l items) (hx : items[i]? = none)
    (hQ : ∀ h', Heap.ExtBut it s.heap h' → Q none { s with heap := h' }) : wpAny (PySem.model prog w) A (pyNext (.ref e)) Q E s := by
  have hT : s.TypeIs (.ref e) "enumerate" := ⟨_, he, rfl⟩
  unfold pyNext
  refine wpAny_bind (wpAny_attempt (wpAny_callSpecial?_slot (name := Str.ofString "__next__") hT F.slot_enumerate_next
    (wpAny_call_entry F.slot_enumerate_next hT F.entry_enumerate_next ?_ (F.args_enumerate_next_1 _))))
  show wpAny _ _ (field (.ref e) 2 >>= _) _ _ _
  refine wpAny_bind (wpAny_field he rfl (x := .ref it) rfl ?_)
  refine wpAny_bind (wpAny_nextOf_list_end hh hit hl hx fun h' x he' hx' => ?_)
  obtain ⟨o, ho, hc⟩ := hx'
  refine wpAny_bind (wpAny_isInstance (T := "StopIteration") (b := true) ⟨o, ho, hc⟩ isSubtype_stop ?_)
  exact wpAny_pure (hQ _ he')
theorem turn_enk {P : Program} {w : World} {K : PySem.W.Frag} {elts : List Expr} {kk : Nat} {tpos : Pos} (k : Int) (a e it : Addr) :
    Turn P w K (.Tuple elts kk tpos) (Itek K k a) [e, it] e (fun i h => (∃ old, IsEnum h e it (k + ((i : Nat) : Int)) old) ∧ h.IsListIter it a i ∧ e ≠ it) where
  mem := by simp
  obj := fun i h st b hb => by
    obtain ⟨⟨old, he⟩, ⟨o, ho, hc, hd⟩, _⟩ := st
    have e' : b = e ∨ b = it := by simpa using hb
    rcases e' with z | z
    · rw [z]; exact ⟨_, he, fun v q => nomatch q⟩
    · rw [z]; exact ⟨o, ho, fun v q => by rw [hd] at q; cases q⟩
  keep := fun i h h' st k => let ⟨⟨old, he⟩, hi, hne⟩ := st; ⟨⟨old, k e (by simp) _ he⟩, hi.at fun o q => k it (by simp) o q, hne⟩
  item := by
    intro X hP hw hK hc i pins s σ H E I hf st hg
    subst hP hw hK
    obtain ⟨⟨old, he⟩, hit, hne⟩ := st
    obtain ⟨xs, x, hq, hx⟩ := hg
    obtain ⟨its, rv, p, hz⟩ := I.list hq
    obtain ⟨u, hu, ru⟩ := rv.get hx
    have hel : e < s.heap.objs.size := Heap.lt_size he
    have hil : it < s.heap.objs.size := by obtain ⟨_, q, _⟩ := hit; exact Heap.lt_size q
    have hai : a ≠ it := fun z => by
      obtain ⟨o1, q1, q2, _⟩ := hit
      obtain ⟨o2, q3, q4, _⟩ := p.isList
      rw [z, q1] at q3; cases q3
      rw [q2] at q4
      exact absurd q4 (by simp)
    have hea : e ≠ a := fun z => by
      obtain ⟨o2, q3, q4, _⟩ := p.isList
      have he2 : s.heap.get? e = _ := he
      rw [z, q3] at he2
      rw [Option.some.inj he2] at q4
      exact absurd q4 (by simp)
    have D := Draws.list (prog := X.prog) (w := X.w) (A := X.A.in1) (I.ok.hd hc) it a hai its.toArray
    have hu' : its.toArray[i]? = some u := by simpa using hu
    refine wpAny_pyNext_enum_itemC D he ⟨hit, p.isList⟩ (Array.getElem?_eq_some_iff.mp hu').1 hne (by simp; exact ⟨hne, hea⟩) fun y h' tk py ho st' hT hsz hk => ?_
    have hy : y = u := by rw [hu'] at py; exact (Option.some.inj py).symm
    subst hy
    refine ⟨_, rfl, wpAny_letOwnedTupleGo_enum (s := { s with heap := h', toks := tk + 1 }) ho fun h'' he' sb => ?_⟩
    have hT2 : h''.get? s.heap.objs.size = some { cls := .type "tuple", data := .seq #[.int (k + (i : Nat)) tk, y] } := (sb.2 _ (Nat.ne_of_gt hel)).trans hT
    have new : ObjOk X.prog X.w (upd H s.heap.objs.size (.tup [.int (k + (i : Nat)), x])) h'' s.heap.objs.size (.tup [.int (k + (i : Nat)), x]) :=
      ⟨by show 2 ≤ sizeLine; decide, [.int (k + (i : Nat)) tk, y], .cons ⟨_, rfl⟩ (.cons ru .nil), ⟨_, hT2, rfl, _, rfl⟩⟩
    have I1 : Inv X pins σ (upd H s.heap.objs.size (.tup [.int (k + (i : Nat)), x])) { s with heap := h'', toks := tk + 1 } :=
      I.turnedNew (ch := [e, it]) (fun b ob hb q => (sb.2 b (fun z => hb (by simp [z]))).trans (hk b ob (fun z => hb (by simp [z])) (fun z => hb (by simp [z])) q)) hf (Nat.le_refl _) new
    refine ⟨.ref s.heap.objs.size, _, I1, rfl, ⟨_, x, rfl, I.hok.fresh (Nat.le_refl _), rfl, fun ys hy => by rw [I.list_inj hy hq]; exact hx⟩, ⟨⟨y, ?_⟩, st'.1.at fun o q => (sb.2 it (Ne.symm hne)).trans q, hne⟩, fun b hb => ?_⟩
    · have e1 : k + ((i + 1 : Nat) : Int) = k + (i : Int) + 1 := by omega
      rw [e1]; exact he'
    · have hb' : b < s.heap.objs.size := by
        have e' : b = e ∨ b = it := by simpa using hb
        rcases e' with z | z
        · rw [z]; exact hel
        · rw [z]; exact hil
      rw [upd_ne (Nat.ne_of_lt hb')]
      exact (hf b hb).1
  done := by
    intro X hP hw hK hc i pins s σ H E I hf st hg
    subst hP hw hK
    obtain ⟨⟨old, he⟩, hit, hne⟩ := st
    obtain ⟨xs, hq, hx⟩ := hg
    obtain ⟨its, rv, p, hz⟩ := I.list hq
    obtain ⟨f0, f1, f2, f3, f4, f5⟩ := hf it (by simp)
    have hl := rv.length
    have hai : a ≠ it := fun z => by
      obtain ⟨o1, q1, q2, _⟩ := hit
      obtain ⟨o2, q3, q4, _⟩ := p.isList
      rw [z, q1] at q3; cases q3
      rw [q2] at q4
      exact absurd q4 (by simp)
    refine enk_end (I.ok.hd hc) he hit p.isList (by simp; omega) fun h' eb => ⟨rfl, I.turned (t' := s.toks) (fun b o hb q => eb b o hb q) f0 f1 f3 f4 f5⟩
  self := fun A i s Q E st h => let ⟨⟨_, he⟩, _⟩ := st; wpAny_pyIter_enum he h
def iEnk (K : PySem.W.Frag) (ta : TA) : TI := fun σ H R => ta σ H fun vs H1 => ∃ k a xs, vs = [.ref a, .int k] ∧ SqL K H1 a xs ∧ -(2 ^ 63) ≤ k ∧ k < 2 ^ 63 ∧ R (Itek K k a) H1
theorem pi_enk {X : Cx} {e e2 : Expr} {ta : TA} {p pos tpos : Pos} {elts : List Expr} {kk : Nat} (hg : Gl X "enumerate") (hm : X.mg "enumerate" = none) (ha : PA X [e, e2] ta)
    (hs : starEach [e, e2] X.env = (false, eval e X.env) :: starEach [e2] X.env := by rfl) (hpl : (backTo pos (starEach [e2] X.env)).any (·.1) = false := by rfl) :
    PI X (.Tuple elts kk tpos) (.Call (.Name "enumerate" p) [e, e2] [] pos) (iEnk X.K ta) := by
  refine ⟨fun pins s σ H R I h => ?_⟩
  refine PyProof.Rows.Call_ (ld_blt I hg hm PyProof.Rows.boot_enumerate (PyProof.Rows.callWith_type1 (thn (ha.run pos pins s σ H _ I h) fun us s1 ⟨vs, H1, I1, r1, q1⟩ => ?_) hs hpl))
  obtain ⟨k, a, xs, ex, hq, k0, k1, q⟩ := q1
  subst ex
  cases r1 with
  | cons r rr =>
    cases rr with
    | cons r' rr =>
      cases rr
      cases r
      obtain ⟨t, rfl⟩ := r'
      obtain ⟨its, rv, p', hz⟩ := I1.list hq
      refine enum_begins (begins_list a its.toArray) p'.isList k0 k1 fun h' he hit hsz hk => wpAny_pyIter_enum he ?_
      have I2 : Inv X pins σ H1 { s1 with heap := h' } := I1.kept (t' := s1.toks) hk
      refine ⟨s1.heap.objs.size + 1, [s1.heap.objs.size + 1, s1.heap.objs.size], _, _, H1, rfl, I2, turn_enk k a (s1.heap.objs.size + 1) s1.heap.objs.size, ⟨⟨.none, by rw [show k + ((0 : Nat) : Int) = k by omega]; exact he⟩, ⟨_, hit, rfl, rfl⟩, Nat.succ_ne_self _⟩, fun b hb => ?_, q⟩
      have e' : b = s1.heap.objs.size + 1 ∨ b = s1.heap.objs.size := by simpa using hb
      have hle : s1.heap.objs.size ≤ b := by
        rcases e' with z | z
        · rw [z]; exact Nat.le_add_right _ _
        · rw [z]; exact Nat.le_refl _
      exact I1.fpOk hle (I1.hok.fresh hle)
end

/-! ### what loops walk -/
section
variable {K : Frag} {F : Hp}
theorem Walk.list {a : Addr} {vs : List V} {items : List D} (e : Rd F a (.lst vs)) (r : RepL F items vs []) : Walk F items (Itl K a) := by
  intro F0 O0 H i h s
  have eH : SqL K H a vs := .inl ((s.trans h.f).rd e)
  have uni : ∀ xs, SqL K H a xs → Rd H a (.lst vs) → True := fun _ _ _ => trivial
  refine ⟨fun d hd => ?_, fun hi => ⟨vs, eH, by rw [← r.len]; exact hi⟩⟩
  obtain ⟨v, A, B, C, h1, h2, h3, _⟩ := r.nth hd
  have hB : B = [] := by
    have : A ++ B ++ C = [] := h3.symm
    simp at this; exact this.2.1
  subst hB
  refine ⟨⟨vs, v, eH, h1⟩, fun x H'' y => ?_⟩
  obtain ⟨rfl, y⟩ := y
  have := y vs eH
  rw [h1] at this; cases this
  exact ⟨F0, Next.refl h, h2.mono s⟩
theorem Walk.tup {a : Addr} {vs : List V} {items : List D} (e : F a = some (.tup vs)) (r : RepL F items vs []) : Walk F items (Itt K a) := by
  intro F0 O0 H i h s
  have eH : SqT K H a vs := SqT.of (h.f _ _ (s _ _ e))
  refine ⟨fun d hd => ?_, fun hi => ⟨vs, eH, by rw [← r.len]; exact hi⟩⟩
  obtain ⟨v, A, B, C, h1, h2, h3, _⟩ := r.nth hd
  have hB : B = [] := by
    have : A ++ B ++ C = [] := h3.symm
    simp at this; exact this.2.1
  subst hB
  refine ⟨⟨vs, v, eH, h1⟩, fun x H'' y => ?_⟩
  obtain ⟨rfl, y⟩ := y
  have := y vs eH
  rw [h1] at this; cases this
  exact ⟨F0, Next.refl h, h2.mono s⟩
theorem Walk.str {z : Str} : Walk F (z.cps.toList.map fun c => .str ⟨#[c]⟩) (Its z) := by
  intro F0 O0 H i h s
  refine ⟨fun d hd => ?_, fun hi => ?_⟩
  · rw [List.getElem?_map] at hd
    cases q : z.cps.toList[i]? with
    | none => rw [q] at hd; cases hd
    | some c =>
      rw [q] at hd; cases hd
      have q' : z.cps[i]? = some c := by rw [← Array.getElem?_toList]; exact q
      refine ⟨(Array.getElem?_eq_some_iff.mp q').1, fun x H'' y => ?_⟩
      obtain ⟨rfl, c', e1, rfl⟩ := y
      rw [q'] at e1; cases e1
      exact ⟨F0, Next.refl h, .str _⟩
  · show z.cps.size ≤ i
    simpa using hi
theorem rng_at {lo c : Int} {n i : Nat} {d : D} (h : (rngD lo n c)[i]? = some d) : i < n ∧ d = .int (lo + (i : Nat) * c) := by
  unfold rngD at h
  rw [List.getElem?_map] at h
  by_cases hi : i < n
  · rw [List.getElem?_range hi] at h
    cases h
    exact ⟨hi, rfl⟩
  · rw [List.getElem?_eq_none (by simp; omega)] at h; cases h
theorem Walk.rng {lo : Int} {n : Nat} : Walk F (rngD lo n 1) (Itr lo n) := by
  intro F0 O0 H i h s
  refine ⟨fun d hd => ?_, fun hi => ?_⟩
  · obtain ⟨h1, rfl⟩ := rng_at hd
    refine ⟨h1, fun x H'' y => ?_⟩
    obtain ⟨rfl, rfl⟩ := y
    rw [Int.mul_one]
    exact ⟨F0, Next.refl h, .int _⟩
  · show n ≤ i
    simpa [rngD] using hi
theorem Walk.rngC {lo c : Int} {n : Nat} : Walk F (rngD lo n c) (Itc lo c n) := by
  intro F0 O0 H i h s
  refine ⟨fun d hd => ?_, fun hi => ?_⟩
  · obtain ⟨h1, rfl⟩ := rng_at hd
    refine ⟨h1, fun x H'' y => ?_⟩
    obtain ⟨rfl, rfl⟩ := y
    exact ⟨F0, Next.refl h, .int _⟩
  · show n ≤ i
    simpa [rngD] using hi
theorem RepL.nth0 {ds : List D} {vs : List V} (r : RepL F ds vs []) {j : Nat} {d : D} (e : ds[j]? = some d) : ∃ v, vs[j]? = some v ∧ Rep F d v [] := by
  obtain ⟨v, A, B, C, h1, h2, h3, _⟩ := r.nth e
  have hB : B = [] := by
    have : A ++ B ++ C = [] := h3.symm
    simp at this; exact this.2.1
  subst hB
  exact ⟨v, h1, h2⟩
theorem Walk.zip {a b : Addr} {vs us : List V} {xs ys : List D} (e : Rd F a (.lst vs)) (r : RepL F xs vs []) (e' : Rd F b (.lst us)) (r' : RepL F ys us []) : Walk F (xs.zipWith (fun x y => .tup [x, y]) ys) (Itz K a b) := by
  intro F0 O0 H i h s
  have eH : SqL K H a vs := .inl ((s.trans h.f).rd e)
  have eH' : SqL K H b us := .inl ((s.trans h.f).rd e')
  refine ⟨fun d hd => ?_, fun hi => ⟨vs, us, eH, eH', ?_⟩⟩
  · rw [List.getElem?_zipWith] at hd
    cases q1 : xs[i]? with
    | none => rw [q1] at hd; cases hd
    | some x =>
      cases q2 : ys[i]? with
      | none => rw [q1, q2] at hd; cases hd
      | some y =>
        rw [q1, q2] at hd; cases hd
        obtain ⟨v, h1, h2⟩ := r.nth0 q1
        obtain ⟨u, k1, k2⟩ := r'.nth0 q2
        refine ⟨⟨vs, us, v, u, eH, eH', h1, k1⟩, fun z H'' w => ?_⟩
        obtain ⟨T, p, p', rfl, hT, rfl, w1, w2⟩ := w
        have z1 := w1 vs eH
        have z2 := w2 us eH'
        rw [h1] at z1; rw [k1] at z2; cases z1; cases z2
        have n := Next.newF h hT (.tup [v, u])
        exact ⟨_, n, .tup upd_same (.mk ((h2.mono s).mono n.f) (.mk ((k2.mono s).mono n.f) .nil))⟩
  · rw [List.length_zipWith] at hi
    rw [← r.len, ← r'.len]
    omega
theorem Walk.enum {a : Addr} {vs : List V} {xs : List D} (e : Rd F a (.lst vs)) (r : RepL F xs vs []) : Walk F (xs.zipIdx.map fun p => .tup [.int p.2, p.1]) (Ite K a) := by
  intro F0 O0 H i h s
  have eH : SqL K H a vs := .inl ((s.trans h.f).rd e)
  refine ⟨fun d hd => ?_, fun hi => ⟨vs, eH, by rw [← r.len]; simpa using hi⟩⟩
  rw [List.getElem?_map, List.getElem?_zipIdx] at hd
  cases q1 : xs[i]? with
  | none => rw [q1] at hd; cases hd
  | some x =>
    rw [q1] at hd
    simp only [Option.map_some, Nat.zero_add] at hd
    cases hd
    obtain ⟨v, h1, h2⟩ := r.nth0 q1
    refine ⟨⟨vs, v, eH, h1⟩, fun z H'' w => ?_⟩
    obtain ⟨T, p, rfl, hT, rfl, w1⟩ := w
    have z1 := w1 vs eH
    rw [h1] at z1; cases z1
    have n := Next.newF h hT (.tup [.int (i : Nat), v])
    exact ⟨_, n, .tup upd_same (.mk (.int _) (.mk ((h2.mono s).mono n.f) .nil))⟩
theorem Walk.enk {k : Int} {a : Addr} {vs : List V} {xs : List D} (e : Rd F a (.lst vs)) (r : RepL F xs vs []) : Walk F (xs.zipIdx.map fun p => .tup [.int (k + (p.2 : Nat)), p.1]) (Itek K k a) := by
  intro F0 O0 H i h s
  have eH : SqL K H a vs := .inl ((s.trans h.f).rd e)
  refine ⟨fun d hd => ?_, fun hi => ⟨vs, eH, by rw [← r.len]; simpa using hi⟩⟩
  rw [List.getElem?_map, List.getElem?_zipIdx] at hd
  cases q1 : xs[i]? with
  | none => rw [q1] at hd; cases hd
  | some x =>
    rw [q1] at hd
    simp only [Option.map_some, Nat.zero_add] at hd
    cases hd
    obtain ⟨v, h1, h2⟩ := r.nth0 q1
    refine ⟨⟨vs, v, eH, h1⟩, fun z H'' w => ?_⟩
    obtain ⟨T, p, rfl, hT, rfl, w1⟩ := w
    have z1 := w1 vs eH
    rw [h1] at z1; cases z1
    have n := Next.newF h hT (.tup [.int (k + (i : Nat)), v])
    exact ⟨_, n, .tup upd_same (.mk (.int _) (.mk ((h2.mono s).mono n.f) .nil))⟩
theorem Walk.rev {a : Addr} {vs : List V} {xs : List D} (e : Rd F a (.lst vs)) (r : RepL F xs vs []) : Walk F xs.reverse (Itv K a vs.length) := by
  intro F0 O0 H i h s
  have eH : SqL K H a vs := .inl ((s.trans h.f).rd e)
  refine ⟨fun d hd => ?_, fun hi => by show vs.length ≤ i; rw [← r.len]; simpa using hi⟩
  have hl : i < xs.length := by have := (List.getElem?_eq_some_iff.mp hd).1; simpa using this
  rw [List.getElem?_reverse hl] at hd
  obtain ⟨v, h1, h2⟩ := r.nth0 hd
  rw [r.len] at h1 hl
  refine ⟨⟨hl, vs, v, eH, h1⟩, fun z H'' w => ?_⟩
  obtain ⟨rfl, w1⟩ := w
  have z1 := w1 vs eH
  rw [h1] at z1; cases z1
  exact ⟨F0, Next.refl h, h2.mono s⟩
end
section
variable {X : Cx} {tg : Expr} {pins : List (Addr × PySem.Obj)} {σ : St} {H : Hp} {s : Shared} {R : It → Hp → Prop} {E : Value → Shared → Prop}
theorem iter_list {a : Addr} {xs : List V} (I : Inv X pins σ H s) (hq : SqL X.K H a xs) (q : R (Itl X.K a) H) : wpAny (model X.prog X.w) X.A (PySem.pyIter (.ref a)) (PIE X pins σ tg R) E s := by
  obtain ⟨its, rv, p, hz⟩ := I.list hq
  exact PySem.wpAny_pyIter_list p.isList (pi_one (tk := s.toks) I _ (turn_list a _) ⟨_, PySem.Heap.get?_push_size _ rfl, rfl, rfl⟩ q)
theorem iter_tup {a : Addr} {xs : List V} (I : Inv X pins σ H s) (hq : SqT X.K H a xs) (q : R (Itt X.K a) H) : wpAny (model X.prog X.w) X.A (PySem.pyIter (.ref a)) (PIE X pins σ tg R) E s := by
  obtain ⟨its, rv, p, hz⟩ := I.tuple hq
  exact PySem.wpAny_pyIter_tuple (show s.heap.IsTuple a its.toArray from p) (pi_one (tk := s.toks) I _ (turn_tuple a _) ⟨_, PySem.Heap.get?_push_size _ rfl, rfl, rfl⟩ q)
theorem iter_str {x : Str} {t : PySem.Tok} (I : Inv X pins σ H s) (q : R (Its x) H) : wpAny (model X.prog X.w) X.A (PySem.pyIter (.str x t)) (PIE X pins σ tg R) E s := by
  cases ha : x.cps.all (· < 128)
  · exact PySem.wpAny_pyIter_wide ha (pi_one (tk := s.toks) I _ (turn_str _ x t "str_iterator" (.inr rfl)) ⟨_, PySem.Heap.get?_push_size _ rfl, rfl, rfl⟩ q)
  · exact PySem.wpAny_pyIter_ascii ha (pi_one (tk := s.toks) I _ (turn_str _ x t "str_ascii_iterator" (.inl rfl)) ⟨_, PySem.Heap.get?_push_size _ rfl, rfl, rfl⟩ q)
end
end DP

/-! DpHz: zip of three lists. -/
namespace DP
open PySem L2
open Sem (wp)
theorem ne_ad {a b : Nat} (h : a < b ∨ b < a) : (a : Addr) ≠ b := fun e => by have e' : a = b := e; omega
/-- a zip of three, made at n .. n + 5 -/
abbrev IsZ3 (h : Heap) (n : Addr) (f0 : Value) : Prop := h.get? (n + 5) = some { cls := .type "zip", dict := none, data := .fields #[f0, .bool false, .bool false, .ref (n + 3), .ref (n + 4)], slots := #[] }
abbrev IsTri (h : Heap) (T : Addr) (a b c : Value) : Prop := h.get? T = some { cls := .type "tuple", data := .seq #[a, b, c] }
section
variable {prog : Program} {w : World} {A : Around} {E : Value → Shared → Prop} {s : Shared}
theorem updateSeq_tri {T : Addr} {a b c x : Value} {k : Nat} {Q : Unit → Shared → Prop} (hT : IsTri s.heap T a b c)
    (h : ∀ h', h'.get? T = some { cls := .type "tuple", data := .seq ((#[a, b, c] : Array Value).setIfInBounds k x) } → Heap.SameBut T s.heap h' → Q () { s with heap := h' }) :
    wpAny (model prog w) A (updateSeq T (·.setIfInBounds k x)) Q E s := by
  refine wpAny_updateSeq hT rfl (h _ ?_ (Heap.SameBut.update ..))
  rw [Heap.get?_update_self _ hT rfl]
  simp [Obj.mapSeq]
theorem z3_item {n l1 l2 l3 : Nat} {k : Nat} {xs ys zs : Array Value} {x y u a b c : Value} {Q : Value → Shared → Prop} (d1 : l1 < n) (d2 : l2 < n) (d3 : l3 < n)
    (hz : IsZ3 s.heap n .none) (hTI : IsTri s.heap (n + 3) (.ref n) (.ref (n + 1)) (.ref (n + 2))) (hTO : IsTri s.heap (n + 4) a b c)
    (h1 : s.heap.IsListIter n l1 k) (h2 : s.heap.IsListIter (n + 1) l2 k) (h3 : s.heap.IsListIter (n + 2) l3 k) (hl1 : s.heap.IsList l1 xs) (hl2 : s.heap.IsList l2 ys) (hl3 : s.heap.IsList l3 zs) (hx : xs[k]? = some x) (hy : ys[k]? = some y) (hu : zs[k]? = some u)
    (hQ : ∀ h', IsZ3 h' n (rawInt s.heap.objs.size) → IsTri h' (n + 4) x y u → h'.IsListIter n l1 (k + 1) → h'.IsListIter (n + 1) l2 (k + 1) → h'.IsListIter (n + 2) l3 (k + 1) → IsTri h' s.heap.objs.size x y u → h'.objs.size = s.heap.objs.size + 1 →
      (∀ (c : Nat) o, c ≠ n + 5 → c ≠ n + 4 → c ≠ n → c ≠ n + 1 → c ≠ n + 2 → s.heap.get? c = some o → h'.get? c = some o) → Q (.ref s.heap.objs.size) { s with heap := h' }) :
    wpAny (model prog w) A (Builtin.«zip.__next__» ⟨[.ref (n + 5)], []⟩) (fun fin s' => ∃ v, fin = .done (.ret v) ∧ Q v s') E s := by
  have q1 : l1 ≠ n + 5 := by first | exact ne_ad (by omega) | omega
  have q2 : l2 ≠ n + 5 := by first | exact ne_ad (by omega) | omega
  have q3 : l3 ≠ n + 5 := by first | exact ne_ad (by omega) | omega
  show wpAny _ _ (field (.ref (n + 5)) 2 >>= _) _ _ _
  refine wpAny_bind (wpAny_field hz rfl (x := .bool false) rfl ?_)
  show wpAny _ _ (field (.ref (n + 5)) 3 >>= _) _ _ _
  refine wpAny_bind (wpAny_field hz rfl (x := .ref (n + 3)) rfl ?_)
  refine wpAny_bind (wpAny_seqItems hTI rfl ?_)
  show wpAny _ _ (Builtin.SmallTypes.ownedTupleIsFree (.ref (n + 5)) >>= _) _ _ _
  refine wpAny_bind ?_
  unfold Builtin.SmallTypes.ownedTupleIsFree
  refine wpAny_bind (wpAny_field hz rfl (x := .none) rfl (wpAny_pure ?_))
  simp only [if_true]
  refine wpAny_bind (wpAny_rule ?_)
  refine wpAny_bind (wpAny_field hz rfl (x := .ref (n + 4)) rfl ?_)
  refine wpAny_bind (wpAny_setField_rec hz (by simp) fun h₁ hz₁ hs₁ => ?_)
  replace hz₁ : IsZ3 h₁ n .ellipsis := hz₁
  refine wpAny_bind ?_
  simp only [List.zipIdx_cons, List.zipIdx_nil, List.forIn_cons, List.forIn_nil]
  -- the first
  refine wpAny_bind (wpAny_bind (wpAny_onRaise ?_))
  show wpAny _ _ (Builtin.SmallTypes.nextOf (.ref n) >>= _) _ _ _
  refine wpAny_bind (wpAny_nextOf_list_item (h1.extBut hs₁.extBut (by first | exact ne_ad (by omega) | omega)) (hl1.extBut hs₁.extBut q1) hx fun h₂ h1₂ hs₂ => wpAny_pure ?_)
  have k12 : ∀ (a : Nat) o, a ≠ n + 5 → a ≠ n → s.heap.get? a = some o → h₂.get? a = some o := fun a o e1 e2 e => hs₂.extBut _ _ e2 (hs₁.extBut _ _ e1 e)
  have hTO₂ : IsTri h₂ (n + 4) a b c := k12 _ _ (by first | exact ne_ad (by omega) | omega) (by first | exact ne_ad (by omega) | omega) hTO
  refine wpAny_bind (wpAny_seqItems hTO₂ rfl ?_)
  refine wpAny_bind (updateSeq_tri hTO₂ fun h₃ hTO₃ hs₃ => ?_)
  replace hTO₃ : IsTri h₃ (n + 4) x b c := hTO₃
  refine wpAny_bind (wpAny_letGo (wpAny_pure ?_))
  have k13 : ∀ (a : Nat) o, a ≠ n + 5 → a ≠ n → a ≠ n + 4 → s.heap.get? a = some o → h₃.get? a = some o := fun a o e1 e2 e3 e => hs₃.extBut _ _ e3 (k12 a o e1 e2 e)
  -- the second
  refine wpAny_bind (wpAny_bind (wpAny_onRaise ?_))
  show wpAny _ _ (Builtin.SmallTypes.nextOf (.ref (n + 1)) >>= _) _ _ _
  refine wpAny_bind (wpAny_nextOf_list_item (h2.at fun o e => k13 _ o (by first | exact ne_ad (by omega) | omega) (by first | exact ne_ad (by omega) | omega) (by first | exact ne_ad (by omega) | omega) e) (hl2.at fun o e => k13 _ o (by first | exact ne_ad (by omega) | omega) (by first | exact ne_ad (by omega) | omega) (by first | exact ne_ad (by omega) | omega) e) hy fun h₄ h2₄ hs₄ => wpAny_pure ?_)
  have hTO₄ : IsTri h₄ (n + 4) x b c := hs₄.extBut _ _ (by first | exact ne_ad (by omega) | omega) hTO₃
  refine wpAny_bind (wpAny_seqItems hTO₄ rfl ?_)
  refine wpAny_bind (updateSeq_tri hTO₄ fun h₅ hTO₅ hs₅ => ?_)
  replace hTO₅ : IsTri h₅ (n + 4) x y c := hTO₅
  refine wpAny_bind (wpAny_letGo (wpAny_pure ?_))
  have k15 : ∀ (a : Nat) o, a ≠ n + 5 → a ≠ n → a ≠ n + 4 → a ≠ n + 1 → s.heap.get? a = some o → h₅.get? a = some o := fun a o e1 e2 e3 e4 e => hs₅.extBut _ _ e3 (hs₄.extBut _ _ e4 (k13 a o e1 e2 e3 e))
  -- the third
  refine wpAny_bind (wpAny_bind (wpAny_onRaise ?_))
  show wpAny _ _ (Builtin.SmallTypes.nextOf (.ref (n + 2)) >>= _) _ _ _
  refine wpAny_bind (wpAny_nextOf_list_item (h3.at fun o e => k15 _ o (by first | exact ne_ad (by omega) | omega) (by first | exact ne_ad (by omega) | omega) (by first | exact ne_ad (by omega) | omega) (by first | exact ne_ad (by omega) | omega) e) (hl3.at fun o e => k15 _ o (by first | exact ne_ad (by omega) | omega) (by first | exact ne_ad (by omega) | omega) (by first | exact ne_ad (by omega) | omega) (by first | exact ne_ad (by omega) | omega) e) hu fun h₆ h3₆ hs₆ => wpAny_pure ?_)
  have hTO₆ : IsTri h₆ (n + 4) x y c := hs₆.extBut _ _ (by first | exact ne_ad (by omega) | omega) hTO₅
  refine wpAny_bind (wpAny_seqItems hTO₆ rfl ?_)
  refine wpAny_bind (updateSeq_tri hTO₆ fun h₇ hTO₇ hs₇ => ?_)
  replace hTO₇ : IsTri h₇ (n + 4) x y u := hTO₇
  refine wpAny_bind (wpAny_letGo (wpAny_pure (wpAny_pure ?_)))
  refine wpAny_bind (wpAny_seqItems hTO₇ rfl ?_)
  refine wpAny_bind (wpAny_newTuple ?_)
  have k17 : ∀ (a : Nat) o, a ≠ n + 5 → a ≠ n → a ≠ n + 4 → a ≠ n + 1 → a ≠ n + 2 → s.heap.get? a = some o → h₇.get? a = some o := fun a o e1 e2 e3 e4 e5 e => hs₇.extBut _ _ e3 (hs₆.extBut _ _ e5 (k15 a o e1 e2 e3 e4 e))
  have hsz : h₇.objs.size = s.heap.objs.size := by rw [hs₇.1, hs₆.1, hs₅.1, hs₄.1, hs₃.1, hs₂.1, hs₁.1]
  have hz₇ : IsZ3 h₇ n .ellipsis := hs₇.extBut _ _ (by first | exact ne_ad (by omega) | omega) (hs₆.extBut _ _ (by first | exact ne_ad (by omega) | omega) (hs₅.extBut _ _ (by first | exact ne_ad (by omega) | omega) (hs₄.extBut _ _ (by first | exact ne_ad (by omega) | omega) (hs₃.extBut _ _ (by first | exact ne_ad (by omega) | omega) (hs₂.extBut _ _ (by first | exact ne_ad (by omega) | omega) hz₁)))))
  have h1₇ : h₇.IsListIter n l1 (k + 1) := h1₂.at fun o e => hs₇.extBut _ _ (by first | exact ne_ad (by omega) | omega) (hs₆.extBut _ _ (by first | exact ne_ad (by omega) | omega) (hs₅.extBut _ _ (by first | exact ne_ad (by omega) | omega) (hs₄.extBut _ _ (by first | exact ne_ad (by omega) | omega) (hs₃.extBut _ _ (by first | exact ne_ad (by omega) | omega) e))))
  have h2₇ : h₇.IsListIter (n + 1) l2 (k + 1) := h2₄.at fun o e => hs₇.extBut _ _ (by first | exact ne_ad (by omega) | omega) (hs₆.extBut _ _ (by first | exact ne_ad (by omega) | omega) (hs₅.extBut _ _ (by first | exact ne_ad (by omega) | omega) e))
  have h3₇ : h₇.IsListIter (n + 2) l3 (k + 1) := h3₆.at fun o e => hs₇.extBut _ _ (by first | exact ne_ad (by omega) | omega) e
  have hzlt : n + 5 < h₇.objs.size := Heap.lt_size hz₇
  show wpAny _ _ (Builtin.SmallTypes.ownedTupleHandOut (.ref (n + 5)) (.ref h₇.objs.size) >>= _) _ _ _
  refine wpAny_bind ?_
  unfold Builtin.SmallTypes.ownedTupleHandOut
  have hz₈ : IsZ3 (h₇.push { cls := .type "tuple", data := .seq #[x, y, u] }) n .ellipsis := Heap.get?_push_of_some _ hz₇
  refine wpAny_bind (wpAny_setField_rec hz₈ (by simp) fun h₉ hz₉ hs₉ => ?_)
  replace hz₉ : IsZ3 h₉ n (rawInt h₇.objs.size) := hz₉
  refine wpAny_setField_rec hz₉ (by simp) fun hA hzA hsA => ?_
  replace hzA : IsZ3 hA n (rawInt h₇.objs.size) := hzA
  have up : ∀ (a : Nat) o, a ≠ n + 5 → h₇.get? a = some o → hA.get? a = some o := fun a o c1 e => hsA.extBut _ _ c1 (hs₉.extBut _ _ c1 (Heap.get?_push_of_some _ e))
  have hTA : IsTri hA h₇.objs.size x y u := hsA.extBut _ _ (Nat.ne_of_gt hzlt) (hs₉.extBut _ _ (Nat.ne_of_gt hzlt) (Heap.get?_push_size _ rfl))
  have hA8 : hA.objs.size = h₇.objs.size + 1 := by rw [hsA.1, hs₉.1, Heap.size_push]
  rw [hsz] at hzA hTA hA8
  refine wpAny_pure ⟨_, rfl, ?_⟩
  show Q (.ref h₇.objs.size) _
  rw [hsz]
  exact hQ hA hzA (up _ _ (by first | exact ne_ad (by omega) | omega) hTO₇) (h1₇.at fun o e => up _ o (by first | exact ne_ad (by omega) | omega) e) (h2₇.at fun o e => up _ o (by first | exact ne_ad (by omega) | omega) e) (h3₇.at fun o e => up _ o (by first | exact ne_ad (by omega) | omega) e) hTA hA8 fun a o c1 c2 c3 c4 c5 e => up a o c1 (k17 a o c1 c3 c2 c4 c5 e)
theorem z3_end {n l1 l2 l3 : Nat} {k : Nat} {xs ys zs : Array Value} {a b c : Value} {Q : Fin → Shared → Prop} (hh : A.handled = none) (d1 : l1 < n) (d2 : l2 < n) (d3 : l3 < n)
    (hz : IsZ3 s.heap n .none) (hTI : IsTri s.heap (n + 3) (.ref n) (.ref (n + 1)) (.ref (n + 2))) (hTO : IsTri s.heap (n + 4) a b c)
    (h1 : s.heap.IsListIter n l1 k) (h2 : s.heap.IsListIter (n + 1) l2 k) (h3 : s.heap.IsListIter (n + 2) l3 k) (hl1 : s.heap.IsList l1 xs) (hl2 : s.heap.IsList l2 ys) (hl3 : s.heap.IsList l3 zs) (hend : xs[k]? = none ∨ ys[k]? = none ∨ zs[k]? = none)
    (hE : ∀ h' e, (∀ (c : Nat) o, c ≠ n + 5 → c ≠ n + 4 → c ≠ n → c ≠ n + 1 → c ≠ n + 2 → s.heap.get? c = some o → h'.get? c = some o) → (∃ o, h'.get? e = some o ∧ o.cls = .type "StopIteration") → E (.ref e) { s with heap := h' }) :
    wpAny (model prog w) A (Builtin.«zip.__next__» ⟨[.ref (n + 5)], []⟩) Q E s := by
  have q1 : l1 ≠ n + 5 := by first | exact ne_ad (by omega) | omega
  show wpAny _ _ (field (.ref (n + 5)) 2 >>= _) _ _ _
  refine wpAny_bind (wpAny_field hz rfl (x := .bool false) rfl ?_)
  show wpAny _ _ (field (.ref (n + 5)) 3 >>= _) _ _ _
  refine wpAny_bind (wpAny_field hz rfl (x := .ref (n + 3)) rfl ?_)
  refine wpAny_bind (wpAny_seqItems hTI rfl ?_)
  show wpAny _ _ (Builtin.SmallTypes.ownedTupleIsFree (.ref (n + 5)) >>= _) _ _ _
  refine wpAny_bind ?_
  unfold Builtin.SmallTypes.ownedTupleIsFree
  refine wpAny_bind (wpAny_field hz rfl (x := .none) rfl (wpAny_pure ?_))
  simp only [if_true]
  refine wpAny_bind (wpAny_rule ?_)
  refine wpAny_bind (wpAny_field hz rfl (x := .ref (n + 4)) rfl ?_)
  refine wpAny_bind (wpAny_setField_rec hz (by simp) fun h₁ hz₁ hs₁ => ?_)
  replace hz₁ : IsZ3 h₁ n .ellipsis := hz₁
  refine wpAny_bind ?_
  simp only [List.zipIdx_cons, List.zipIdx_nil, List.forIn_cons, List.forIn_nil]
  refine wpAny_bind (wpAny_bind (wpAny_onRaise ?_))
  show wpAny _ _ (Builtin.SmallTypes.nextOf (.ref n) >>= _) _ _ _
  cases hx : xs[k]? with
  | none =>
    refine wpAny_bind (wpAny_nextOf_list_end hh (h1.extBut hs₁.extBut (by first | exact ne_ad (by omega) | omega)) (hl1.extBut hs₁.extBut q1) hx fun h₂ e hs₂ he => ?_)
    obtain ⟨oe, hoe, hce⟩ := he
    have hz₂ : IsZ3 h₂ n .ellipsis := hs₂ _ _ (by first | exact ne_ad (by omega) | omega) hz₁
    have hez : e ≠ n + 5 := fun x => by subst x; rw [hz₂] at hoe; cases hoe; simp at hce
    refine wpAny_setField_rec hz₂ (by simp) fun h₃ _ hs₃ => hE h₃ e (fun c o c1 _ c3 _ _ x => hs₃.extBut _ _ c1 (hs₂ _ _ c3 (hs₁.extBut _ _ c1 x))) ⟨oe, hs₃.extBut _ _ hez hoe, hce⟩
  | some x =>
    refine wpAny_bind (wpAny_nextOf_list_item (h1.extBut hs₁.extBut (by first | exact ne_ad (by omega) | omega)) (hl1.extBut hs₁.extBut q1) hx fun h₂ h1₂ hs₂ => wpAny_pure ?_)
    have k12 : ∀ (a : Nat) o, a ≠ n + 5 → a ≠ n → s.heap.get? a = some o → h₂.get? a = some o := fun a o e1 e2 e => hs₂.extBut _ _ e2 (hs₁.extBut _ _ e1 e)
    have hTO₂ : IsTri h₂ (n + 4) a b c := k12 _ _ (by first | exact ne_ad (by omega) | omega) (by first | exact ne_ad (by omega) | omega) hTO
    refine wpAny_bind (wpAny_seqItems hTO₂ rfl ?_)
    refine wpAny_bind (updateSeq_tri hTO₂ fun h₃ hTO₃ hs₃ => ?_)
    replace hTO₃ : IsTri h₃ (n + 4) x b c := hTO₃
    refine wpAny_bind (wpAny_letGo (wpAny_pure ?_))
    have k13 : ∀ (a : Nat) o, a ≠ n + 5 → a ≠ n → a ≠ n + 4 → s.heap.get? a = some o → h₃.get? a = some o := fun a o e1 e2 e3 e => hs₃.extBut _ _ e3 (k12 a o e1 e2 e)
    have hz₃ : IsZ3 h₃ n .ellipsis := hs₃.extBut _ _ (by first | exact ne_ad (by omega) | omega) (hs₂.extBut _ _ (by first | exact ne_ad (by omega) | omega) hz₁)
    refine wpAny_bind (wpAny_bind (wpAny_onRaise ?_))
    show wpAny _ _ (Builtin.SmallTypes.nextOf (.ref (n + 1)) >>= _) _ _ _
    have i2 := h2.at fun o e => k13 _ o (by first | exact ne_ad (by omega) | omega) (by first | exact ne_ad (by omega) | omega) (by first | exact ne_ad (by omega) | omega) e
    have j2 := hl2.at fun o e => k13 _ o (by first | exact ne_ad (by omega) | omega) (by first | exact ne_ad (by omega) | omega) (by first | exact ne_ad (by omega) | omega) e
    cases hy : ys[k]? with
    | none =>
      refine wpAny_bind (wpAny_nextOf_list_end hh i2 j2 hy fun h₄ e hs₄ he => ?_)
      obtain ⟨oe, hoe, hce⟩ := he
      have hz₄ : IsZ3 h₄ n .ellipsis := hs₄ _ _ (by first | exact ne_ad (by omega) | omega) hz₃
      have hez : e ≠ n + 5 := fun x => by subst x; rw [hz₄] at hoe; cases hoe; simp at hce
      refine wpAny_setField_rec hz₄ (by simp) fun h₅ _ hs₅ => hE h₅ e (fun c o c1 c2 c3 c4 _ x => hs₅.extBut _ _ c1 (hs₄ _ _ c4 (k13 c o c1 c3 c2 x))) ⟨oe, hs₅.extBut _ _ hez hoe, hce⟩
    | some y =>
      have hu : zs[k]? = none := by
        rcases hend with h | h | h
        · rw [hx] at h; cases h
        · rw [hy] at h; cases h
        · exact h
      refine wpAny_bind (wpAny_nextOf_list_item i2 j2 hy fun h₄ h2₄ hs₄ => wpAny_pure ?_)
      have hTO₄ : IsTri h₄ (n + 4) x b c := hs₄.extBut _ _ (by first | exact ne_ad (by omega) | omega) hTO₃
      refine wpAny_bind (wpAny_seqItems hTO₄ rfl ?_)
      refine wpAny_bind (updateSeq_tri hTO₄ fun h₅ hTO₅ hs₅ => ?_)
      refine wpAny_bind (wpAny_letGo (wpAny_pure ?_))
      have k15 : ∀ (a : Nat) o, a ≠ n + 5 → a ≠ n → a ≠ n + 4 → a ≠ n + 1 → s.heap.get? a = some o → h₅.get? a = some o := fun a o e1 e2 e3 e4 e => hs₅.extBut _ _ e3 (hs₄.extBut _ _ e4 (k13 a o e1 e2 e3 e))
      have hz₅ : IsZ3 h₅ n .ellipsis := hs₅.extBut _ _ (by first | exact ne_ad (by omega) | omega) (hs₄.extBut _ _ (by first | exact ne_ad (by omega) | omega) hz₃)
      refine wpAny_bind (wpAny_bind (wpAny_onRaise ?_))
      show wpAny _ _ (Builtin.SmallTypes.nextOf (.ref (n + 2)) >>= _) _ _ _
      refine wpAny_bind (wpAny_nextOf_list_end hh (h3.at fun o e => k15 _ o (by first | exact ne_ad (by omega) | omega) (by first | exact ne_ad (by omega) | omega) (by first | exact ne_ad (by omega) | omega) (by first | exact ne_ad (by omega) | omega) e) (hl3.at fun o e => k15 _ o (by first | exact ne_ad (by omega) | omega) (by first | exact ne_ad (by omega) | omega) (by first | exact ne_ad (by omega) | omega) (by first | exact ne_ad (by omega) | omega) e) hu fun h₆ e hs₆ he => ?_)
      obtain ⟨oe, hoe, hce⟩ := he
      have hz₆ : IsZ3 h₆ n .ellipsis := hs₆ _ _ (by first | exact ne_ad (by omega) | omega) hz₅
      have hez : e ≠ n + 5 := fun x => by subst x; rw [hz₆] at hoe; cases hoe; simp at hce
      refine wpAny_setField_rec hz₆ (by simp) fun h₇ _ hs₇ => hE h₇ e (fun c o c1 c2 c3 c4 c5 x => hs₇.extBut _ _ c1 (hs₆ _ _ c5 (k15 c o c1 c3 c2 c4 x))) ⟨oe, hs₇.extBut _ _ hez hoe, hce⟩
theorem letGo_z3 {elts : List Expr} {x1} {pos : Pos} {n T : Nat} {Q : Unit → Shared → Prop} (hz : IsZ3 s.heap n (rawInt T))
    (hQ : ∀ h', IsZ3 h' n .none → Heap.SameBut (n + 5) s.heap h' → Q () { s with heap := h' }) :
    wpAny (model prog w) A (letOwnedTupleGo (.Tuple elts x1 pos) (.ref (n + 5)) (.ref T)) Q E s := wpAny_letOwnedTupleGo_zip hz fun h' a b => hQ h' a b
theorem z3_next {n l1 l2 l3 : Nat} {k : Nat} {xs ys zs : Array Value} {x y u a b c : Value} {Q : Option Value → Shared → Prop} (d1 : l1 < n) (d2 : l2 < n) (d3 : l3 < n)
    (hz : IsZ3 s.heap n .none) (hTI : IsTri s.heap (n + 3) (.ref n) (.ref (n + 1)) (.ref (n + 2))) (hTO : IsTri s.heap (n + 4) a b c)
    (h1 : s.heap.IsListIter n l1 k) (h2 : s.heap.IsListIter (n + 1) l2 k) (h3 : s.heap.IsListIter (n + 2) l3 k) (hl1 : s.heap.IsList l1 xs) (hl2 : s.heap.IsList l2 ys) (hl3 : s.heap.IsList l3 zs) (hx : xs[k]? = some x) (hy : ys[k]? = some y) (hu : zs[k]? = some u)
    (hQ : ∀ h', IsZ3 h' n (rawInt s.heap.objs.size) → IsTri h' (n + 4) x y u → h'.IsListIter n l1 (k + 1) → h'.IsListIter (n + 1) l2 (k + 1) → h'.IsListIter (n + 2) l3 (k + 1) → IsTri h' s.heap.objs.size x y u → h'.objs.size = s.heap.objs.size + 1 →
      (∀ (c : Nat) o, c ≠ n + 5 → c ≠ n + 4 → c ≠ n → c ≠ n + 1 → c ≠ n + 2 → s.heap.get? c = some o → h'.get? c = some o) → Q (some (.ref s.heap.objs.size)) { s with heap := h' }) :
    wpAny (model prog w) A (pyNext (.ref (n + 5))) Q E s := by
  have hT : s.TypeIs (.ref (n + 5)) "zip" := ⟨_, hz, rfl⟩
  unfold pyNext
  exact wpAny_bind (wpAny_attempt (wpAny_callSpecial?_slot (name := Str.ofString "__next__") hT F.slot_zip_next
    (wpAny_call_entry F.slot_zip_next hT F.entry_zip_next
      (z3_item d1 d2 d3 hz hTI hTO h1 h2 h3 hl1 hl2 hl3 hx hy hu fun h' a1 a2 a3 a4 a5 a6 a7 a8 => wpAny_pure (hQ h' a1 a2 a3 a4 a5 a6 a7 a8)) (F.args_zip_next_1 _))))
theorem z3_nextEnd {n l1 l2 l3 : Nat} {k : Nat} {xs ys zs : Array Value} {a b c : Value} {Q : Option Value → Shared → Prop} (hh : A.handled = none) (d1 : l1 < n) (d2 : l2 < n) (d3 : l3 < n)
    (hz : IsZ3 s.heap n .none) (hTI : IsTri s.heap (n + 3) (.ref n) (.ref (n + 1)) (.ref (n + 2))) (hTO : IsTri s.heap (n + 4) a b c)
    (h1 : s.heap.IsListIter n l1 k) (h2 : s.heap.IsListIter (n + 1) l2 k) (h3 : s.heap.IsListIter (n + 2) l3 k) (hl1 : s.heap.IsList l1 xs) (hl2 : s.heap.IsList l2 ys) (hl3 : s.heap.IsList l3 zs) (hend : xs[k]? = none ∨ ys[k]? = none ∨ zs[k]? = none)
    (hQ : ∀ h', (∀ (c : Nat) o, c ≠ n + 5 → c ≠ n + 4 → c ≠ n → c ≠ n + 1 → c ≠ n + 2 → s.heap.get? c = some o → h'.get? c = some o) → Q none { s with heap := h' }) : wpAny (model prog w) A (pyNext (.ref (n + 5))) Q E s := by
  have hT : s.TypeIs (.ref (n + 5)) "zip" := ⟨_, hz, rfl⟩
  unfold pyNext
  refine wpAny_bind (wpAny_attempt (wpAny_callSpecial?_slot (name := Str.ofString "__next__") hT F.slot_zip_next
    (wpAny_call_entry F.slot_zip_next hT F.entry_zip_next (z3_end hh d1 d2 d3 hz hTI hTO h1 h2 h3 hl1 hl2 hl3 hend fun h' e hk he => ?_) (F.args_zip_next_1 _))))
  obtain ⟨o, ho, hc⟩ := he
  refine wpAny_bind (wpAny_isInstance (T := "StopIteration") (b := true) ⟨o, ho, hc⟩ isSubtype_stop ?_)
  exact wpAny_pure (hQ _ hk)
end
theorem typeCall_zip_3 (a b c : Value) : checkTypeCall "zip" ⟨[a, b, c], []⟩ = pure () := by kernel_rfl
theorem newCall_zip_3 (a b c : Value) : checkBuiltinCall "zip.__new__" ⟨[.type "zip", a, b, c], []⟩ = pure () := by kernel_rfl
theorem args_object_init_4 (a b c d : Value) : argsOk "object.__init__" ⟨[a, b, c, d], []⟩ := by
  unfold argsOk; rw [signature?_of (id := "object.__init__") (n := ['_', '_', 't', 'i', 'n', 'i', '_', '_']) (o := ['t', 'c', 'e', 'j', 'b', 'o']) (by kernel_rfl) F.owner_object]; kernel_rfl
abbrev z3a (h : Heap) (l1 : Addr) : Heap := h.push { cls := .type "list_iterator", data := .fields #[.ref l1, .int 0 0] }
abbrev z3b (h : Heap) (l1 l2 : Addr) : Heap := (z3a h l1).push { cls := .type "list_iterator", data := .fields #[.ref l2, .int 0 0] }
abbrev z3c (h : Heap) (l1 l2 l3 : Addr) : Heap := (z3b h l1 l2).push { cls := .type "list_iterator", data := .fields #[.ref l3, .int 0 0] }
abbrev z3d (h : Heap) (l1 l2 l3 : Addr) : Heap := (z3c h l1 l2 l3).push { cls := .type "tuple", data := .seq #[.ref h.objs.size, .ref (z3a h l1).objs.size, .ref (z3b h l1 l2).objs.size] }
abbrev z3e (h : Heap) (l1 l2 l3 : Addr) : Heap := (z3d h l1 l2 l3).push { cls := .type "tuple", data := .seq #[.none, .none, .none] }
abbrev z3f (h : Heap) (l1 l2 l3 : Addr) : Heap := (z3e h l1 l2 l3).push { cls := .type "zip", data := .fields #[.none, .bool false, .bool false, .ref (z3c h l1 l2 l3).objs.size, .ref (z3d h l1 l2 l3).objs.size] }
theorem meets_zip_new3 (l1 l2 l3 : Addr) (xs ys zs : Array Value) :
    Meets (Builtin.«zip.__new__» ⟨[.type "zip", .ref l1, .ref l2, .ref l3], []⟩) (fun _ R s => s.heap.IsList l1 xs ∧ s.heap.IsList l2 ys ∧ s.heap.IsList l3 zs ∧
      R (.ok (.ret (.ref (z3e s.heap l1 l2 l3).objs.size))) { s with heap := z3f s.heap l1 l2 l3 }) :=
  .of_wp fun prog w A R s h => by
    obtain ⟨hp, g, d, tk, os⟩ := s; obtain ⟨hl1, hl2, hl3, h⟩ := h
    have hsub := sub_zip
    have hL1 : Heap.IsList (Shared.heap ⟨hp, g, d, tk, os⟩) l1 xs := hl1
    have hL2 : Heap.IsList (Shared.heap ⟨hp.push { cls := .type "list_iterator", data := .fields #[.ref l1, .int 0 0] }, g, d, tk, os⟩) l2 ys := Heap.IsList.push hl2 _
    have hL3 : Heap.IsList (Shared.heap ⟨(hp.push { cls := .type "list_iterator", data := .fields #[.ref l1, .int 0 0] }).push { cls := .type "list_iterator", data := .fields #[.ref l2, .int 0 0] }, g, d, tk, os⟩) l3 zs := Heap.IsList.push (Heap.IsList.push hl3 _) _
    wp_walk using wpAny_pyIter_list hL1, wpAny_pyIter_list hL2, wpAny_pyIter_list hL3
    exact ⟨_, rfl, h⟩
section
variable {prog : Program} {w : World} {A : Around} {E : Value → Shared → Prop} {s : Shared}
theorem call_zip_3 {l1 l2 l3 : Addr} {xs ys zs : Array Value} {Q : Value → Shared → Prop} (hl1 : s.heap.IsList l1 xs) (hl2 : s.heap.IsList l2 ys) (hl3 : s.heap.IsList l3 zs)
    (h : ∀ h', IsZ3 h' s.heap.objs.size .none → IsTri h' (s.heap.objs.size + 3) (.ref s.heap.objs.size) (.ref (s.heap.objs.size + 1)) (.ref (s.heap.objs.size + 2)) →
      IsTri h' (s.heap.objs.size + 4) .none .none .none → h'.IsListIter s.heap.objs.size l1 0 → h'.IsListIter (s.heap.objs.size + 1) l2 0 → h'.IsListIter (s.heap.objs.size + 2) l3 0 →
      (∀ c o, s.heap.get? c = some o → h'.get? c = some o) → Q (.ref (s.heap.objs.size + 5)) { s with heap := h' }) :
    wpAny (model prog w) A (call (.type "zip") [.ref l1, .ref l2, .ref l3]) Q E s := by
  refine callType_new F.called_zip (by decide) (typeCall_zip_3 _ _ _) (newCall_zip_3 _ _ _) (fun obj => args_object_init_4 obj _ _ _) F.entry_zip_new
    (meets_zip_new3 l1 l2 l3 xs ys zs) ⟨hl1, hl2, hl3, ?_⟩
  have s1 : (z3a s.heap l1).objs.size = s.heap.objs.size + 1 := Heap.size_push ..
  have s2 : (z3b s.heap l1 l2).objs.size = s.heap.objs.size + 2 := by rw [Heap.size_push, s1]
  have s3 : (z3c s.heap l1 l2 l3).objs.size = s.heap.objs.size + 3 := by rw [Heap.size_push, s2]
  have s4 : (z3d s.heap l1 l2 l3).objs.size = s.heap.objs.size + 4 := by rw [Heap.size_push, s3]
  have s5 : (z3e s.heap l1 l2 l3).objs.size = s.heap.objs.size + 5 := by rw [Heap.size_push, s4]
  have pu : ∀ {h : Heap} {c : Addr} {o u : Obj}, h.get? c = some o → (h.push u).get? c = some o := fun e => Heap.get?_push_of_some _ e
  have g6 : (z3f s.heap l1 l2 l3).get? (z3e s.heap l1 l2 l3).objs.size = some _ := Heap.get?_push_size _ rfl
  have g5 : (z3f s.heap l1 l2 l3).get? (z3d s.heap l1 l2 l3).objs.size = some _ := pu (Heap.get?_push_size _ rfl)
  have g4 : (z3f s.heap l1 l2 l3).get? (z3c s.heap l1 l2 l3).objs.size = some _ := pu (pu (Heap.get?_push_size _ rfl))
  have g3 : (z3f s.heap l1 l2 l3).get? (z3b s.heap l1 l2).objs.size = some _ := pu (pu (pu (Heap.get?_push_size _ rfl)))
  have g2 : (z3f s.heap l1 l2 l3).get? (z3a s.heap l1).objs.size = some _ := pu (pu (pu (pu (Heap.get?_push_size _ rfl))))
  have g1 : (z3f s.heap l1 l2 l3).get? s.heap.objs.size = some _ := pu (pu (pu (pu (pu (Heap.get?_push_size _ rfl)))))
  show _ ∧ _
  rw [s3, s4, s5] at g6
  rw [s4] at g5
  rw [s1, s2, s3] at g4
  rw [s2] at g3
  rw [s1] at g2
  rw [s5]
  exact ⟨⟨_, g6, rfl⟩, h _ g6 g4 g5 ⟨_, g1, rfl, rfl⟩ ⟨_, g2, rfl, rfl⟩ ⟨_, g3, rfl, rfl⟩ fun c o x => pu (pu (pu (pu (pu (pu x)))))⟩
end
def Itz3 (K : PySem.W.Frag) (a b d : Addr) : It :=
  ⟨fun i H => ∃ (xs ys zs : List V) (x y z : V), SqL K H a xs ∧ SqL K H b ys ∧ SqL K H d zs ∧ xs[i]? = some x ∧ ys[i]? = some y ∧ zs[i]? = some z,
   fun i H v H' => ∃ T x y z, v = .ref T ∧ H T = none ∧ H' = upd H T (.tup [x, y, z]) ∧ (∀ xs, SqL K H a xs → xs[i]? = some x) ∧ (∀ xs, SqL K H b xs → xs[i]? = some y) ∧ ∀ xs, SqL K H d xs → xs[i]? = some z,
   fun i H => ∃ xs ys zs : List V, SqL K H a xs ∧ SqL K H b ys ∧ SqL K H d zs ∧ (xs.length ≤ i ∨ ys.length ≤ i ∨ zs.length ≤ i)⟩
theorem turn_zip3 {P : Program} {w : World} {K : PySem.W.Frag} {elts : List Expr} {kk : Nat} {tpos : Pos} {a b d n : Addr} (d1 : a < n) (d2 : b < n) (d3 : d < n) :
    Turn P w K (.Tuple elts kk tpos) (Itz3 K a b d) [n + 5, n + 3, n + 4, n, n + 1, n + 2] (n + 5) (fun i h => IsZ3 h n .none ∧ IsTri h (n + 3) (.ref n) (.ref (n + 1)) (.ref (n + 2)) ∧ (∃ x y z, IsTri h (n + 4) x y z) ∧ h.IsListIter n a i ∧ h.IsListIter (n + 1) b i ∧ h.IsListIter (n + 2) d i) where
  mem := by simp
  obj := fun i h st c hc => by
    obtain ⟨hz, hTI, ⟨x, y, z, hTO⟩, ⟨o1, e1, _, f1⟩, ⟨o2, e2, _, f2⟩, ⟨o3, e3, _, f3⟩⟩ := st
    have e' : c = n + 5 ∨ c = n + 3 ∨ c = n + 4 ∨ c = n ∨ c = n + 1 ∨ c = n + 2 := by simpa using hc
    rcases e' with q | q | q | q | q | q
    · rw [q]; exact ⟨_, hz, fun v q => nomatch q⟩
    · rw [q]; exact ⟨_, hTI, fun v q => nomatch q⟩
    · rw [q]; exact ⟨_, hTO, fun v q => nomatch q⟩
    · rw [q]; exact ⟨o1, e1, fun v q => by rw [f1] at q; cases q⟩
    · rw [q]; exact ⟨o2, e2, fun v q => by rw [f2] at q; cases q⟩
    · rw [q]; exact ⟨o3, e3, fun v q => by rw [f3] at q; cases q⟩
  keep := fun i h h' st k => by
    obtain ⟨hz, hTI, ⟨x, y, z, hTO⟩, h1, h2, h3⟩ := st
    exact ⟨k _ (by simp) _ hz, k _ (by simp) _ hTI, ⟨x, y, z, k _ (by simp) _ hTO⟩, h1.at fun o q => k _ (by simp) o q, h2.at fun o q => k _ (by simp) o q, h3.at fun o q => k _ (by simp) o q⟩
  item := by
    intro X hP hw hK hc i pins s σ H E I hf st hg
    subst hP hw hK
    obtain ⟨hz, hTI, ⟨x0, y0, z0, hTO⟩, h1, h2, h3⟩ := st
    obtain ⟨xs, ys, zs, x, y, z, hqx, hqy, hqz, hx, hy, hu⟩ := hg
    obtain ⟨its, rv, p, _⟩ := I.list hqx
    obtain ⟨its2, rv2, p2, _⟩ := I.list hqy
    obtain ⟨its3, rv3, p3, _⟩ := I.list hqz
    obtain ⟨u, hu1, ru⟩ := rv.get hx
    obtain ⟨u2, hu2, ru2⟩ := rv2.get hy
    obtain ⟨u3, hu3, ru3⟩ := rv3.get hu
    have hzl : n + 5 < s.heap.objs.size := Heap.lt_size hz
    refine z3_next d1 d2 d3 hz hTI hTO h1 h2 h3 p.isList p2.isList p3.isList (x := u) (y := u2) (u := u3) (by simpa using hu1) (by simpa using hu2) (by simpa using hu3) fun h' z' TO' h1' h2' h3' hT hsz hk => ?_
    refine ⟨_, rfl, letGo_z3 (s := { s with heap := h' }) z' fun h'' z'' sb => ?_⟩
    have hT2 : h''.get? s.heap.objs.size = some { cls := .type "tuple", data := .seq #[u, u2, u3] } := (sb.2 _ (Nat.ne_of_gt hzl)).trans hT
    have new : ObjOk X.prog X.w (upd H s.heap.objs.size (.tup [x, y, z])) h'' s.heap.objs.size (.tup [x, y, z]) :=
      ⟨by show 3 ≤ sizeLine; decide, [u, u2, u3], .cons ru (.cons ru2 (.cons ru3 .nil)), ⟨_, hT2, rfl, _, rfl⟩⟩
    have I1 : Inv X pins σ (upd H s.heap.objs.size (.tup [x, y, z])) { s with heap := h'' } :=
      I.turnedNew (t' := s.toks) (ch := [n + 5, n + 3, n + 4, n, n + 1, n + 2]) (fun c o hb q => (sb.2 c (fun q' => hb (by simp [q']))).trans (hk c o (fun q' => hb (by simp [q'])) (fun q' => hb (by simp [q'])) (fun q' => hb (by simp [q'])) (fun q' => hb (by simp [q'])) (fun q' => hb (by simp [q'])) q)) hf (Nat.le_refl _) new
    refine ⟨.ref s.heap.objs.size, _, I1, rfl, ⟨_, x, y, z, rfl, I.hok.fresh (Nat.le_refl _), rfl, fun l hl => by rw [I.list_inj hl hqx]; exact hx, fun l hl => by rw [I.list_inj hl hqy]; exact hy, fun l hl => by rw [I.list_inj hl hqz]; exact hu⟩, ⟨z'', ?_, ⟨u, u2, u3, ?_⟩, ?_, ?_, ?_⟩, fun c hcm => ?_⟩
    · exact (sb.2 _ (by first | exact ne_ad (by omega) | omega)).trans (hk _ _ (by first | exact ne_ad (by omega) | omega) (by first | exact ne_ad (by omega) | omega) (by first | exact ne_ad (by omega) | omega) (by first | exact ne_ad (by omega) | omega) (by first | exact ne_ad (by omega) | omega) hTI)
    · exact (sb.2 _ (by first | exact ne_ad (by omega) | omega)).trans TO'
    · exact h1'.at fun o q => (sb.2 _ (by first | exact ne_ad (by omega) | omega)).trans q
    · exact h2'.at fun o q => (sb.2 _ (by first | exact ne_ad (by omega) | omega)).trans q
    · exact h3'.at fun o q => (sb.2 _ (by first | exact ne_ad (by omega) | omega)).trans q
    · have e' : c = n + 5 ∨ c = n + 3 ∨ c = n + 4 ∨ c = n ∨ c = n + 1 ∨ c = n + 2 := by simpa using hcm
      have hlt : c < s.heap.objs.size := by rcases e' with h | h | h | h | h | h <;> rw [h] <;> exact Nat.lt_of_le_of_lt (by omega : (_ : Nat) ≤ n + 5) hzl
      rw [upd_ne (Nat.ne_of_lt hlt)]
      exact (hf c hcm).1
  done := by
    intro X hP hw hK hc i pins s σ H E I hf st hg
    subst hP hw hK
    obtain ⟨hz, hTI, ⟨x0, y0, z0, hTO⟩, h1, h2, h3⟩ := st
    obtain ⟨xs, ys, zs, hqx, hqy, hqz, hend⟩ := hg
    obtain ⟨its, rv, p, _⟩ := I.list hqx
    obtain ⟨its2, rv2, p2, _⟩ := I.list hqy
    obtain ⟨its3, rv3, p3, _⟩ := I.list hqz
    have l1 := rv.length
    have l2 := rv2.length
    have l3 := rv3.length
    have he : its.toArray[i]? = none ∨ its2.toArray[i]? = none ∨ its3.toArray[i]? = none := by
      rcases hend with q | q | q
      · exact .inl (by simp; omega)
      · exact .inr (.inl (by simp; omega))
      · exact .inr (.inr (by simp; omega))
    exact z3_nextEnd (I.ok.hd hc) d1 d2 d3 hz hTI hTO h1 h2 h3 p.isList p2.isList p3.isList he fun h' hk => ⟨rfl, I.turnedL (t' := s.toks) (ch := [n + 5, n + 3, n + 4, n, n + 1, n + 2]) (fun c o hb q =>
      hk c o (fun q' => hb (by simp [q'])) (fun q' => hb (by simp [q'])) (fun q' => hb (by simp [q'])) (fun q' => hb (by simp [q'])) (fun q' => hb (by simp [q'])) q) hf⟩
  self := fun A i s Q E st h => wpAny_pyIter_zip st.1 h
def iZip3 (K : PySem.W.Frag) (ta : TA) : TI := fun σ H R => ta σ H fun vs H1 => ∃ a b d xs ys zs, vs = [.ref a, .ref b, .ref d] ∧ SqL K H1 a xs ∧ SqL K H1 b ys ∧ SqL K H1 d zs ∧ R (Itz3 K a b d) H1
theorem pi_zip3 {X : Cx} {e e2 e3 : Expr} {ta : TA} {p pos tpos : Pos} {elts : List Expr} {kk : Nat} (hg : Gl X "zip") (hm : X.mg "zip" = none) (ha : PA X [e, e2, e3] ta)
    (hs : starEach [e, e2, e3] X.env = (false, eval e X.env) :: starEach [e2, e3] X.env) (hpl : (backTo pos (starEach [e2, e3] X.env)).any (·.1) = false) :
    PI X (.Tuple elts kk tpos) (.Call (.Name "zip" p) [e, e2, e3] [] pos) (iZip3 X.K ta) := by
  refine ⟨fun pins s σ H R I h => ?_⟩
  refine PyProof.Rows.Call_ (ld_blt I hg hm PyProof.Rows.boot_zip (PyProof.Rows.callWith_type1 (thn (ha.run pos pins s σ H _ I h) fun us s1 ⟨vs, H1, I1, r1, q1⟩ => ?_) hs hpl))
  obtain ⟨a, b, d, xs, ys, zs, ex, hqx, hqy, hqz, q⟩ := q1
  subst ex
  cases r1 with
  | cons r rr =>
    cases rr with
    | cons r' rr =>
      cases rr with
      | cons r'' rr =>
        cases rr
        cases r
        cases r'
        cases r''
        obtain ⟨its, rv, p1, _⟩ := I1.list hqx
        obtain ⟨its2, rv2, p2, _⟩ := I1.list hqy
        obtain ⟨its3, rv3, p3, _⟩ := I1.list hqz
        have la : a < s1.heap.objs.size := p1.lt
        have lb : b < s1.heap.objs.size := p2.lt
        have lc : d < s1.heap.objs.size := p3.lt
        refine call_zip_3 p1.isList p2.isList p3.isList fun h' hz hTI hTO h1 h2 h3 hk => wpAny_pyIter_zip hz ?_
        have I2 : Inv X pins σ H1 { s1 with heap := h' } := I1.kept (t' := s1.toks) hk
        refine ⟨s1.heap.objs.size + 5, [s1.heap.objs.size + 5, s1.heap.objs.size + 3, s1.heap.objs.size + 4, s1.heap.objs.size, s1.heap.objs.size + 1, s1.heap.objs.size + 2], _, _, H1, rfl, I2, turn_zip3 la lb lc, ⟨hz, hTI, ⟨_, _, _, hTO⟩, h1, h2, h3⟩, fun c hcm => ?_, q⟩
        have e' : c = s1.heap.objs.size + 5 ∨ c = s1.heap.objs.size + 3 ∨ c = s1.heap.objs.size + 4 ∨ c = s1.heap.objs.size ∨ c = s1.heap.objs.size + 1 ∨ c = s1.heap.objs.size + 2 := by simpa using hcm
        have hle : s1.heap.objs.size ≤ c := by rcases e' with h | h | h | h | h | h <;> rw [h] <;> omega
        exact I1.fpOk hle (I1.hok.fresh hle)
end DP

/-! DpI: every expression of the small language runs as its data say. -/
namespace DP
open PySem (Addr sizeLine wpAny model Value Shared Around FuncData BindsTo codeAny Str Paired Expr)
open PySem.W (Frag)
open L2
variable [CT]

section
variable {X : Cx} {k n : Nat} {f : Addr} {fd : FuncData} {ps ks : List Str} {sp : Sp} {W : WX} {x : Str} {p pos : PySem.Pos} {e : Expr} {es : List Expr} {kws : List PySem.Keyword} {t tk : TA} {m : Nat} {gV : List V → List V → List V} {g : List Value → List Value → List Value}
def tCallGK (m : Nat) (ks : List Str) (sp : Sp) (W : WX) (gV : List V → List V → List V) (t tk : TA) : TE := fun σ H Q => t σ H fun vs H1 => tk σ H1 fun zs H2 => vs.length = m ∧ zs.length = ks.length ∧ sp (gV vs zs) H2 Q fun cls d H3 => W cls d σ H3
theorem kw_fin (G : FnG X.prog X.w X.K X.mg X.base k f fd n ps sp) (hg : X.A.guards = some []) (hr : Room k X.A) (hT : Takes X W)
    (hb : ∀ (s : Shared) (us ws : List Value) (vs zs : List V), Vals vs us → Vals zs ws → vs.length = m → zs.length = ks.length → (gV vs zs).length = n → Vals (gV vs zs) (g us ws) ∧ BindsTo s fd ⟨us, ks.zip ws⟩ (ps.zip (g us ws))) (hkw : PK X kws tk)
    (hks : (PySem.backToKw pos (PySem.keywordEach kws X.env)).filterMap (·.1) = ks) {pins : List (Addr × PySem.Obj)} {σ : St} {Q : VK} {us : List Value} {s1 : Shared} {vs : List V} {H1 : Hp} (I1 : Inv X pins σ H1 s1) (r : Vals vs us)
    (q : tk σ H1 fun zs H2 => vs.length = m ∧ zs.length = ks.length ∧ sp (gV vs zs) H2 Q fun cls d H3 => W cls d σ H3) :
    wpAny (model X.prog X.w) X.A (PySem.evalAll ((PySem.backToKw pos (PySem.keywordEach kws X.env)).map (·.2))) (fun ws s2 => X.K.In s2.heap ∧ wpAny (model X.prog X.w) X.A (PySem.call (.ref f) us (((PySem.backToKw pos (PySem.keywordEach kws X.env)).filterMap (·.1)).zip ws)) (EP X pins σ Q) X.xe s2) X.xe s1 := by
  refine thn (hkw.run pos pins s1 σ H1 _ I1 q) fun ws s2 ⟨zs, H2, I2, rz, q2⟩ => ⟨I2.kIn, ?_⟩
  rw [hks]
  obtain ⟨l1, l2, q2⟩ := q2
  obtain ⟨b1, b2⟩ := hb s2 us ws vs zs r rz l1 l2 (G.len _ _ _ _ q2)
  exact run_G' G hg hr hT I2 b2 b1 q2
theorem pe_callGK (G : FnG X.prog X.w X.K X.mg X.base k f fd n ps sp) (hg : X.A.guards = some []) (hr : Room k X.A) (hT : Takes X W) (hx : Gl X x) (hm : X.mg x = some (.ref f)) (hk : PySem.W.keepIn X.K (.ref f) = true)
    (hb : ∀ (s : Shared) (us ws : List Value) (vs zs : List V), Vals vs us → Vals zs ws → vs.length = m → zs.length = ks.length → (gV vs zs).length = n → Vals (gV vs zs) (g us ws) ∧ BindsTo s fd ⟨us, ks.zip ws⟩ (ps.zip (g us ws))) (ha : PA X (e :: es) t) (hkw : PK X kws tk)
    (hall : (PySem.backToKw pos (PySem.keywordEach kws X.env)).all (·.1.isSome) = true) (hks : (PySem.backToKw pos (PySem.keywordEach kws X.env)).filterMap (·.1) = ks) (hdb : (x == ("__debug__" : Str)) = false) (he : PySem.starEach (e :: es) X.env = (false, PySem.eval e X.env) :: PySem.starEach es X.env)
    (hpl : ((PySem.backTo pos (PySem.starEach (e :: es) X.env)).any (·.1) || (PySem.backToKw pos (PySem.keywordEach kws X.env)).any (·.1.isNone)) = false) : PE X (.Call (.Name x p) (e :: es) kws pos) (tCallGK m ks sp W gV t tk) := by
  refine ⟨fun pins s σ H Q I h => ?_⟩
  refine PySem.wpAny_Call_Name_kw (ld_glob I hx hm ?_ hdb)
  exact PySem.W.callWith_KW (h₀ := X.base) (first := []) I.ok.mod.kin hk hall (thn (ha.run pos pins s σ H _ I h) fun us s1 ⟨vs, H1, I1, r, q⟩ => kw_fin G hg hr hT hb hkw hks I1 r q) hpl he
theorem pe_callGK0 (G : FnG X.prog X.w X.K X.mg X.base k f fd n ps sp) (hg : X.A.guards = some []) (hr : Room k X.A) (hT : Takes X W) (hx : Gl X x) (hm : X.mg x = some (.ref f)) (hk : PySem.W.keepIn X.K (.ref f) = true)
    (hb : ∀ (s : Shared) (us ws : List Value) (vs zs : List V), Vals vs us → Vals zs ws → vs.length = m → zs.length = ks.length → (gV vs zs).length = n → Vals (gV vs zs) (g us ws) ∧ BindsTo s fd ⟨us, ks.zip ws⟩ (ps.zip (g us ws))) (hkw : PK X kws tk)
    (hall : (PySem.backToKw pos (PySem.keywordEach kws X.env)).all (·.1.isSome) = true) (hks : (PySem.backToKw pos (PySem.keywordEach kws X.env)).filterMap (·.1) = ks) (hdb : (x == ("__debug__" : Str)) = false)
    (hpl : ((PySem.backTo pos (PySem.starEach [] X.env)).any (·.1) || (PySem.backToKw pos (PySem.keywordEach kws X.env)).any (·.1.isNone)) = false) : PE X (.Call (.Name x p) [] kws pos) (tCallGK m ks sp W gV tNil tk) := by
  refine ⟨fun pins s σ H Q I h => ?_⟩
  refine PySem.wpAny_Call_Name_kw (ld_glob I hx hm ?_ hdb)
  exact PySem.W.callWith_KW0 (h₀ := X.base) (first := []) I.ok.mod.kin hk hall (kw_fin (us := []) G hg hr hT hb hkw hks I .nil h) hpl
end

/-! ### what chk gives -/
section
variable {L : List Ent} {c : SC} {X : Cx} {W : WX}
theorem Cok.seen (C : Cok L c X W) {i : Nat} {x : Str} (h : seen c i x = true) : X.N[i]? = some x ∧ Vis X.env.scope x ∧ (x == ("__debug__" : Str)) = false ∧ (x == ("__classdict__" : Str)) = false := by
  unfold DP.seen at h
  simp only [Bool.and_eq_true, decide_eq_true_eq, Bool.not_eq_true'] at h
  obtain ⟨⟨⟨h1, h2⟩, h3⟩, h4⟩ := h
  refine ⟨by rw [C.N]; exact h1, ?_, h3, h4⟩
  rw [C.sc]
  unfold Vis
  split at h2
  · exact .inl (by assumption)
  · exact .inr (.inl (by assumption))
  · exact .inr (.inr (by assumption))
  · cases h2
theorem Cok.mine (C : Cok L c X W) {i : Nat} {x : Str} (h : mine c i x = true) : X.N[i]? = some x ∧ Loc X.env.scope x ∧ (X.fn x = true ∨ X.env.scope.names.lookup x = some .local) := by
  unfold DP.mine at h
  simp only [Bool.and_eq_true, decide_eq_true_eq] at h
  obtain ⟨h1, h2⟩ := h
  refine ⟨by rw [C.N]; exact h1, C.st x ?_⟩
  split at h2
  · exact .inl (by assumption)
  · exact .inr (by assumption)
  · cases h2
theorem Cok.glob (C : Cok L c X W) {x : Str} (h : glob c x = true) : Gl X x ∧ (x == ("__debug__" : Str)) = false := by
  unfold DP.glob at h
  simp only [Bool.and_eq_true, Bool.not_eq_true'] at h
  refine ⟨?_, h.2⟩
  unfold Gl
  show X.env.scope.names.lookup x = some .globalImplicit
  rw [C.sc]
  have h1 := h.1
  split at h1
  · assumption
  · cases h1
theorem Cok.bn (C : Cok L c X W) {b : String} (h : b ∈ bnames) : X.mg (Str.ofString b) = none := by
  obtain ⟨k, _, _, w⟩ := C.wd
  exact w.bn b h
theorem Cok.xw (C : Cok L c X W) : Xw c.cls X.prog X.w X.K X.mg X.base := by
  obtain ⟨k, _, _, w⟩ := C.wd
  exact w.xw
theorem BI.name_mem (b : BI) : b.name ∈ bnames := by cases b <;> decide
theorem BI.boot (b : BI) : PySem.bootBuiltins (Str.ofString b.name) = some b.val := by cases b <;> decide +kernel
theorem BI.nn (b : BI) : Str.ofString b.name ≠ "__name__" := by cases b <;> decide
/-- the callee -/
theorem Cok.ent (C : Cok L c X W) (hot : c.hot = false) {f : String} {n : Nat} (me : List Nat) (h : c.fns.contains (f, n) = true) :
    ∃ e k, e.nm = f ∧ e.ps.length = n ∧ Room k X.A ∧ KnE X.prog X.w X.K X.mg X.base k e ∧ (sigOf L me).sp f = e.sp ∧ (sigOf L me).ios f = e.ios ∧ (sigOf L me).ps f = e.ps := by
  obtain ⟨e, q, hn⟩ := C.fn (f, n) (by simpa using h)
  obtain ⟨k, hr, _, w⟩ := C.wd
  have q' : look L f = some e := q
  have hm : e ∈ L := List.mem_of_find?_eq_some q'
  have hf : e.nm = f := by have := List.find?_some q'; simpa using this
  refine ⟨e, k, hf, hn, hr hot, w.kn e hm, ?_, ?_, ?_⟩ <;> (unfold sigOf; simp only [q'])
theorem Cok.entK (C : Cok L c X W) (hot : c.hot = false) {f : String} {n : Nat} {ks : List String} (me : List Nat) (h : c.kws.contains (f, n, ks) = true) :
    ∃ e k, e.nm = f ∧ (n, ks) ∈ e.kws ∧ Room k X.A ∧ KnE X.prog X.w X.K X.mg X.base k e ∧ (sigOf L me).sp f = e.sp ∧ (sigOf L me).ios f = e.ios ∧ (sigOf L me).ps f = e.ps := by
  obtain ⟨e, q, hn⟩ := C.kw (f, n, ks) (by simpa using h)
  obtain ⟨k, hr, _, w⟩ := C.wd
  have q' : look L f = some e := q
  have hm : e ∈ L := List.mem_of_find?_eq_some q'
  have hf : e.nm = f := by have := List.find?_some q'; simpa using this
  refine ⟨e, k, hf, hn, hr hot, w.kn e hm, ?_, ?_, ?_⟩ <;> (unfold sigOf; simp only [q'])
theorem blk_cok (C : Cok L c X W) {scope : PySem.Scope} {s : Shared} {H : Hp} {C' : Addr} {cl : List (Str × Addr)} {fp : List Addr} : Cok L (inner c scope) (X.blk s H scope (PySem.compEnvC scope cl C' X.env) fp) (fun _ _ _ _ => False) := by
  refine ⟨C.N, ?_, C.nd, C.calm, fun x h => ?_, C.hg, C.hu, fun u s' ⟨_, _, _, _, _, _, _, _, _, _, _, _, _, _, _, _, w⟩ => w.elim, C.kw, C.fn, C.wd⟩
  · show relS scope X.env.scope = relS scope c.sc
    rw [C.sc]
  · have h' : scope.names.lookup x = some .local ∨ scope.names.lookup x = some .cell := h
    rcases h' with h' | h'
    · have q : (relS scope X.env.scope).names.lookup x = some .local := lookup_relS_keep (by decide) h'
      exact ⟨.inl q, .inr q⟩
    · have q : (relS scope X.env.scope).names.lookup x = some .cell := lookup_relS_keep (by decide) h'
      exact ⟨.inr q, .inl (by show (scope.names.lookup x == some .cell) = true; rw [h']; rfl)⟩
end

/-! ### names of a comprehension -/
section
variable {F F1 F2 : Hp} {O : Own} {σ : St}
theorem wipeSim {env : Env} (s : SimE F env σ O) : ∀ own : List Nat, ∃ Z B, SimE F (wipeE own env) (wipe σ own) B ∧ O.Perm (Z ++ B)
  | [] => ⟨[], O, s, by simp⟩
  | i :: own => by
    obtain ⟨Z, B, h1, h2⟩ := wipeSim s own
    obtain ⟨Z2, B2, h3, h4⟩ := h1.wipe i
    refine ⟨Z ++ Z2, B2, ?_, h2.trans (by rw [List.append_assoc]; exact h4.append_left _)⟩
    show SimE F ((wipeE own env).set i none) ((wipe σ own).set i none) B2
    by_cases hi : i < (wipeE own env).length
    · exact h3.any none (by rw [List.getElem?_set_self hi])
    · have e1 : (wipeE own env).set i none = wipeE own env := List.set_eq_of_length_le (by omega)
      have e2 : (wipe σ own).set i none = wipe σ own := List.set_eq_of_length_le (by rw [← h1.len]; omega)
      rw [e2]; exact h3
theorem backE_set {old : Env} : ∀ {is : List Nat} {env : Env} {i : Nat} {a b : Option D}, (backE old is (env.set i a)).set i b = (backE old is env).set i b
  | [], env, i, a, b => by simp [backE, List.set_set]
  | j :: is, env, i, a, b => by
    unfold backE
    by_cases e : j = i
    · subst e
      rw [List.set_set, List.set_set]
      exact backE_set
    · rw [List.set_comm _ _ e, List.set_comm _ _ e, backE_set]
theorem backSim {old : Env} {Oold : Own} (so : SimE F1 old σ Oold) (sub : Sub F1 F2) : ∀ (own : List Nat) {env : Env} {O : Own}, SimE F2 env (wipe σ own) O → ∃ Z B, SimE F2 (backE old own env) σ B ∧ O.Perm (Z ++ B)
  | [], env, O, s => ⟨[], O, s, by simp⟩
  | i :: own, env, O, s => by
    have s' : SimE F2 env ((wipe σ own).set i none) O := s
    have hl : env.length = (wipe σ own).length := by rw [s'.len, List.length_set]
    by_cases hi : i < env.length
    · obtain ⟨Z, B, h1, h2⟩ := s'.wipe i
      have e0 : (env.set i none)[i]? = some none := by rw [List.getElem?_set_self hi]
      have h3 := h1.any ((wipe σ own)[i]'(by omega)) e0
      rw [List.set_set, set_self (l := wipe σ own) (by rw [List.getElem?_eq_getElem])] at h3
      obtain ⟨Z2, B2, h4, h5⟩ := backSim so sub own h3
      have hp : O.Perm ((Z ++ Z2) ++ B2) := h2.trans (by rw [List.append_assoc]; exact h5.append_left _)
      show ∃ Z B, SimE F2 ((backE old own env).set i _) σ B ∧ O.Perm (Z ++ B)
      rw [← backE_set (a := none)]
      have none_case : ∃ Z B, SimE F2 ((backE old own (env.set i none)).set i none) σ B ∧ O.Perm (Z ++ B) := by
        obtain ⟨Z3, B3, h6, h7⟩ := h4.wipe i
        exact ⟨Z ++ Z2 ++ Z3, B3, h6, hp.trans (by have q := h7.append_left (Z ++ Z2); rw [← List.append_assoc] at q; exact q)⟩
      split
      · rename_i d e
        by_cases q : d.isFz = true
        · rw [if_pos q]
          obtain ⟨v, A, _, k1, k2, _, _⟩ := so.take e
          have hA := k2.free q
          subst hA
          have hi2 : i < (backE old own (env.set i none)).length := by rw [h4.len, ← so.len]; exact (List.getElem?_eq_some_iff.mp e).1
          obtain ⟨Z3, B3, C3, h6, h7, h8⟩ := h4.store hi2 (k2.mono sub)
          rw [set_self k1] at h6
          exact ⟨Z ++ Z2 ++ Z3, C3, h6, hp.trans (by have q := (h7.trans (h8.symm.append_left Z3)).append_left (Z ++ Z2); rw [← List.append_assoc] at q; exact q)⟩
        · rw [if_neg q]; exact none_case
      · exact none_case
    · have e2 : (wipe σ own).set i none = wipe σ own := List.set_eq_of_length_le (by omega)
      rw [e2] at s'
      obtain ⟨Z, B, h1, h2⟩ := backSim so sub own s'
      refine ⟨Z, B, ?_, h2⟩
      show SimE F2 ((backE old own env).set i _) σ B
      rw [List.set_eq_of_length_le (by rw [h1.len, ← so.len] <;> (have := so.len; have := h1.len; rw [wipe_length] at hl; omega))]
      exact h1
end
end DP

/-! DpJ: what a passed chk tells of the kit's expression. -/
namespace DP
open PySem (Str Expr Pos)
variable [CT]

section
variable {c : SC} {ex : Expr}
theorem chk_var {i : Nat} (h : chkE c (.var i) ex = true) : ∃ x p, ex = .Name x p ∧ seen c i x = true := by
  cases ex <;> first | (simp [chkE] at h; done) | exact ⟨_, _, rfl, by simpa [chkE] using h⟩
theorem chk_mov {i : Nat} (h : chkE c (.mov i) ex = true) : ∃ x p, ex = .Name x p ∧ seen c i x = true := by
  cases ex <;> first | (simp [chkE] at h; done) | exact ⟨_, _, rfl, by simpa [chkE] using h⟩
theorem chk_con {d : D} (h : chkE c (.con d) ex = true) : ∃ k j p, ex = .Constant k j p ∧ conD d k = true := by
  cases ex <;> first | (simp [chkE] at h; done) | exact ⟨_, _, _, rfl, by simpa [chkE] using h⟩
theorem chk_glo {x : String} {d : D} (h : chkE c (.glo x d) ex = true) : ∃ p, ex = .Name (Str.ofString x) p ∧ glob c (Str.ofString x) = true ∧ ∃ q ∈ c.gl, q.1 = x ∧ atomEq q.2 d = true := by
  cases ex with
  | Name y p =>
    simp only [chkE, Bool.and_eq_true, decide_eq_true_eq, List.any_eq_true, beq_iff_eq] at h
    obtain ⟨⟨rfl, h2⟩, q, hq, h3, h4⟩ := h
    exact ⟨p, rfl, h2, q, hq, h3, h4⟩
  | _ => simp [chkE] at h
theorem chk_bin {o : Op} {a b : E} (h : chkE c (.bin o a b) ex = true) : ∃ a' b' p, ex = .BinOp a' (opOf o) b' p ∧ chkE c a a' = true ∧ chkE c b b' = true := by
  cases ex with
  | BinOp a' o' b' p =>
    simp only [chkE, Bool.and_eq_true, decide_eq_true_eq] at h
    obtain ⟨⟨rfl, h2⟩, h3⟩ := h
    exact ⟨a', b', p, rfl, h2, h3⟩
  | _ => simp [chkE] at h
theorem chk_neg {a : E} (h : chkE c (.neg a) ex = true) : ∃ a' p, ex = .UnaryOp .USub a' p ∧ chkE c a a' = true := by
  cases ex with
  | UnaryOp o a' p => cases o <;> first | (simp [chkE] at h; done) | exact ⟨a', p, rfl, by simpa [chkE] using h⟩
  | _ => simp [chkE] at h
theorem chk_nt {a : E} (h : chkE c (.nt a) ex = true) : ∃ a' p, ex = .UnaryOp .Not a' p ∧ chkE c a a' = true := by
  cases ex with
  | UnaryOp o a' p => cases o <;> first | (simp [chkE] at h; done) | exact ⟨a', p, rfl, by simpa [chkE] using h⟩
  | _ => simp [chkE] at h
theorem chk_bo {k : Bool} {as : Es} (h : chkE c (.bo k as) ex = true) : ∃ as' p, ex = .BoolOp (boOf k) as' p ∧ chkEs c as as' = true := by
  cases ex with
  | BoolOp o as' p =>
    simp only [chkE, Bool.and_eq_true, decide_eq_true_eq] at h
    obtain ⟨rfl, h2⟩ := h
    exact ⟨as', p, rfl, h2⟩
  | _ => simp [chkE] at h
theorem chk_cmp {o : CO} {a b : E} (h : chkE c (.cmp o a b) ex = true) : ∃ a' b' p, ex = .Compare a' [cmpOf o] [b'] p ∧ chkE c a a' = true ∧ chkE c b b' = true ∧ noSet b' = true := by
  cases ex with
  | Compare a' os bs p =>
    match os, bs with
    | [o'], [b'] =>
      simp only [chkE, Bool.and_eq_true, decide_eq_true_eq] at h
      obtain ⟨⟨⟨rfl, h2⟩, h3⟩, h4⟩ := h
      exact ⟨a', b', p, rfl, h2, h3, h4⟩
    | [], _ => simp [chkE] at h
    | _ :: _ :: _, _ => simp [chkE] at h
    | [_], [] => simp [chkE] at h
    | [_], _ :: _ :: _ => simp [chkE] at h
  | _ => simp [chkE] at h
theorem chk_chn {o q : CO} {a b d : E} (h : chkE c (.chn o q a b d) ex = true) : ∃ a' b' d' p, ex = .Compare a' [cmpOf o, cmpOf q] [b', d'] p ∧ chkE c a a' = true ∧ chkE c b b' = true ∧ chkE c d d' = true ∧ noSet b' = true ∧ noSet d' = true := by
  cases ex with
  | Compare a' os bs p =>
    match os, bs with
    | [o', q'], [b', d'] =>
      simp only [chkE, Bool.and_eq_true, decide_eq_true_eq] at h
      obtain ⟨⟨⟨⟨⟨⟨rfl, rfl⟩, h2⟩, h3⟩, h4⟩, h5⟩, h6⟩ := h
      exact ⟨a', b', d', p, rfl, h2, h3, h4, h5, h6⟩
    | [], _ => simp [chkE] at h
    | [_], _ => simp [chkE] at h
    | _ :: _ :: _ :: _, _ => simp [chkE] at h
    | [_, _], [] => simp [chkE] at h
    | [_, _], [_] => simp [chkE] at h
    | [_, _], _ :: _ :: _ :: _ => simp [chkE] at h
  | _ => simp [chkE] at h
theorem chk_chn4 {o q r t : CO} {a b d e f : E} (h : chkE c (.chn4 o q r t a b d e f) ex = true) : ∃ a' b' d' e' f' p, ex = .Compare a' [cmpOf o, cmpOf q, cmpOf r, cmpOf t] [b', d', e', f'] p ∧ chkE c a a' = true ∧ chkE c b b' = true ∧ chkE c d d' = true ∧ chkE c e e' = true ∧ chkE c f f' = true ∧ noSet f' = true := by
  cases ex with
  | Compare a' os bs p =>
    match os, bs with
    | [o', q', r', t'], [b', d', e', f'] =>
      simp only [chkE, Bool.and_eq_true, decide_eq_true_eq] at h
      obtain ⟨⟨⟨⟨⟨⟨⟨⟨⟨rfl, rfl⟩, rfl⟩, rfl⟩, h2⟩, h3⟩, h4⟩, h5⟩, h6⟩, h7⟩ := h
      exact ⟨a', b', d', e', f', p, rfl, h2, h3, h4, h5, h6, h7⟩
    | [], _ => simp [chkE] at h
    | [_], _ => simp [chkE] at h
    | [_, _], _ => simp [chkE] at h
    | [_, _, _], _ => simp [chkE] at h
    | _ :: _ :: _ :: _ :: _ :: _, _ => simp [chkE] at h
    | [_, _, _, _], [] => simp [chkE] at h
    | [_, _, _, _], [_] => simp [chkE] at h
    | [_, _, _, _], [_, _] => simp [chkE] at h
    | [_, _, _, _], [_, _, _] => simp [chkE] at h
    | [_, _, _, _], _ :: _ :: _ :: _ :: _ :: _ => simp [chkE] at h
  | _ => simp [chkE] at h
theorem chk_chn3 {o q r : CO} {a b d e : E} (h : chkE c (.chn3 o q r a b d e) ex = true) : ∃ a' b' d' e' p, ex = .Compare a' [cmpOf o, cmpOf q, cmpOf r] [b', d', e'] p ∧ chkE c a a' = true ∧ chkE c b b' = true ∧ chkE c d d' = true ∧ chkE c e e' = true ∧ noSet e' = true := by
  cases ex with
  | Compare a' os bs p =>
    match os, bs with
    | [o', q', r'], [b', d', e'] =>
      simp only [chkE, Bool.and_eq_true, decide_eq_true_eq] at h
      obtain ⟨⟨⟨⟨⟨⟨⟨rfl, rfl⟩, rfl⟩, h2⟩, h3⟩, h4⟩, h5⟩, h6⟩ := h
      exact ⟨a', b', d', e', p, rfl, h2, h3, h4, h5, h6⟩
    | [], _ => simp [chkE] at h
    | [_], _ => simp [chkE] at h
    | [_, _], _ => simp [chkE] at h
    | _ :: _ :: _ :: _ :: _, _ => simp [chkE] at h
    | [_, _, _], [] => simp [chkE] at h
    | [_, _, _], [_] => simp [chkE] at h
    | [_, _, _], [_, _] => simp [chkE] at h
    | [_, _, _], _ :: _ :: _ :: _ :: _ => simp [chkE] at h
  | _ => simp [chkE] at h
theorem chk_ice {a : E} (h : chkE c (.ice a) ex = true) : chkE c a ex = true := by
  unfold chkE at h
  split at h
  all_goals first | contradiction | (rename_i heq; injection heq with heq; subst heq; exact h) | (rename_i heq; cases heq)
theorem chk_rvl {a : E} (h : chkE c (.rvl a) ex = true) : ∃ a' k p1 p2 p3 p, ex = .Subscript a' (.Slice none none (some (.UnaryOp .USub (.Constant (.int 1) k p1) p2)) p3) p ∧ chkE c a a' = true := by
  unfold chkE at h
  split at h
  all_goals first | contradiction | (rename_i heq; injection heq with heq; subst heq; exact ⟨_, _, _, _, _, _, rfl, h⟩) | (rename_i heq; cases heq)
theorem chk_sset {a : E} (h : chkE c (.sset a) ex = true) : ∃ q q2 a' p p2, ex = .Call (.Name (Str.ofString "sorted") q) [.Call (.Name (Str.ofString "set") q2) [a'] [] p] [] p2 ∧ glob c (Str.ofString "sorted") = true ∧ glob c (Str.ofString "set") = true ∧ chkE c a a' = true := by
  cases ex with
  | Call fn as ks p2 =>
    cases fn with
    | Name x q =>
      cases as with
      | nil => simp [chkE] at h
      | cons i t =>
        cases t with
        | cons _ _ => simp [chkE] at h
        | nil =>
          cases ks with
          | cons _ _ => simp [chkE] at h
          | nil =>
            cases i with
            | Call fn2 as2 ks2 p =>
              cases fn2 with
              | Name y q2 =>
                cases as2 with
                | nil => simp [chkE] at h
                | cons a' t2 =>
                  cases t2 with
                  | cons _ _ => simp [chkE] at h
                  | nil =>
                    cases ks2 with
                    | cons _ _ => simp [chkE] at h
                    | nil =>
                      simp only [chkE, Bool.and_eq_true, decide_eq_true_eq] at h
                      obtain ⟨⟨⟨⟨⟨rfl, h1⟩, rfl⟩, h2⟩, h3⟩, _⟩ := h
                      exact ⟨_, _, _, _, _, rfl, h1, h2, h3⟩
              | _ => simp [chkE] at h
            | _ => simp [chkE] at h
    | _ => simp [chkE] at h
  | _ => simp [chkE] at h
theorem chk_lset {a : E} (h : chkE c (.lset a) ex = true) : ∃ q q2 a' p p2, ex = .Call (.Name (Str.ofString "len") q) [.Call (.Name (Str.ofString "set") q2) [a'] [] p] [] p2 ∧ glob c (Str.ofString "len") = true ∧ glob c (Str.ofString "set") = true ∧ chkE c a a' = true := by
  cases ex with
  | Call fn as ks p2 =>
    cases fn with
    | Name x q =>
      cases as with
      | nil => simp [chkE] at h
      | cons i t =>
        cases t with
        | cons _ _ => simp [chkE] at h
        | nil =>
          cases ks with
          | cons _ _ => simp [chkE] at h
          | nil =>
            cases i with
            | Call fn2 as2 ks2 p =>
              cases fn2 with
              | Name y q2 =>
                cases as2 with
                | nil => simp [chkE] at h
                | cons a' t2 =>
                  cases t2 with
                  | cons _ _ => simp [chkE] at h
                  | nil =>
                    cases ks2 with
                    | cons _ _ => simp [chkE] at h
                    | nil =>
                      simp only [chkE, Bool.and_eq_true, decide_eq_true_eq] at h
                      obtain ⟨⟨⟨⟨⟨rfl, h1⟩, rfl⟩, h2⟩, h3⟩, _⟩ := h
                      exact ⟨_, _, _, _, _, rfl, h1, h2, h3⟩
              | _ => simp [chkE] at h
            | _ => simp [chkE] at h
    | _ => simp [chkE] at h
  | _ => simp [chkE] at h
theorem chk_ife {d a b : E} (h : chkE c (.ife d a b) ex = true) : ∃ d' a' b' p, ex = .IfExp d' a' b' p ∧ chkE c d d' = true ∧ chkE c a a' = true ∧ chkE c b b' = true := by
  cases ex with
  | IfExp d' a' b' p =>
    simp only [chkE, Bool.and_eq_true] at h
    exact ⟨d', a', b', p, rfl, h.1.1, h.1.2, h.2⟩
  | _ => simp [chkE] at h
theorem chk_call {f : String} {as : Es} (h : chkE c (.call f as) ex = true) : ∃ as' q p, ex = .Call (.Name (Str.ofString f) q) as' [] p ∧ glob c (Str.ofString f) = true ∧ chkEs c as as' = true ∧ c.fns.contains (f, as'.length) = true := by
  cases ex with
  | Call fn as' ks p =>
    cases ks with
    | nil =>
      cases fn with
      | Name x q =>
        simp only [chkE, Bool.and_eq_true, decide_eq_true_eq] at h
        obtain ⟨⟨⟨⟨rfl, h2⟩, h3⟩, h4⟩, _⟩ := h
        exact ⟨as', q, p, rfl, h2, h3, h4⟩
      | _ => simp [chkE] at h
    | cons _ _ => cases fn <;> simp [chkE] at h
  | _ => simp [chkE] at h
theorem chk_calk {f : String} {as bs : Es} {ks : List String} (h : chkE c (.calk f as ks bs) ex = true) : ∃ as' ks' q p, ex = .Call (.Name (Str.ofString f) q) as' ks' p ∧ glob c (Str.ofString f) = true ∧ chkEs c as as' = true ∧ chkK c ks bs ks' = true ∧ c.kws.contains (f, as'.length, ks) = true := by
  cases ex with
  | Call fn as' ks' p =>
    cases fn with
    | Name x q =>
      simp only [chkE, Bool.and_eq_true, decide_eq_true_eq] at h
      obtain ⟨⟨⟨⟨⟨rfl, h2⟩, h3⟩, h4⟩, h5⟩, _⟩ := h
      exact ⟨as', ks', q, p, rfl, h2, h3, h4, h5⟩
    | _ => simp [chkE] at h
  | _ => simp [chkE] at h
theorem chk_bi {b : BI} {as : Es} (h : chkE c (.bi b as) ex = true) : ∃ as' q p, ex = .Call (.Name (Str.ofString b.name) q) as' [] p ∧ glob c (Str.ofString b.name) = true ∧ chkEs c as as' = true := by
  cases ex with
  | Call fn as' ks p =>
    cases ks with
    | nil =>
      cases fn with
      | Name x q =>
        simp only [chkE, Bool.and_eq_true, decide_eq_true_eq] at h
        obtain ⟨⟨⟨rfl, h2⟩, h3⟩, _⟩ := h
        exact ⟨as', q, p, rfl, h2, h3⟩
      | _ => simp [chkE] at h
    | cons _ _ => cases fn <;> simp [chkE] at h
  | _ => simp [chkE] at h
theorem chk_rprT {as : Es} (h : chkE c (.rpr true as) ex = true) : ∃ as' q p k r, ex = .Call (.Name (Str.ofString "repr") q) [.Tuple as' k r] [] p ∧ glob c (Str.ofString "repr") = true ∧ chkEs c as as' = true := by
  cases ex with
  | Call fn as' ks p =>
    cases ks with
    | nil =>
      cases fn with
      | Name x q =>
        match as' with
        | [a'] =>
          cases a' with
          | Tuple es k r =>
            simp only [chkE, Bool.and_eq_true, decide_eq_true_eq] at h
            obtain ⟨⟨rfl, h2⟩, h3⟩ := h
            exact ⟨es, q, p, k, r, rfl, h2, h3⟩
          | _ => simp [chkE] at h
        | [] => simp [chkE] at h
        | _ :: _ :: _ => simp [chkE] at h
      | _ => simp [chkE] at h
    | cons _ _ => cases fn <;> simp [chkE] at h
  | _ => simp [chkE] at h
theorem chk_rprL {as : Es} (h : chkE c (.rpr false as) ex = true) : ∃ as' q p r, ex = .Call (.Name (Str.ofString "repr") q) [.List as' r] [] p ∧ glob c (Str.ofString "repr") = true ∧ chkEs c as as' = true := by
  cases ex with
  | Call fn as' ks p =>
    cases ks with
    | nil =>
      cases fn with
      | Name x q =>
        match as' with
        | [a'] =>
          cases a' with
          | List es r =>
            simp only [chkE, Bool.and_eq_true, decide_eq_true_eq] at h
            obtain ⟨⟨rfl, h2⟩, h3⟩ := h
            exact ⟨es, q, p, r, rfl, h2, h3⟩
          | _ => simp [chkE] at h
        | [] => simp [chkE] at h
        | _ :: _ :: _ => simp [chkE] at h
      | _ => simp [chkE] at h
    | cons _ _ => cases fn <;> simp [chkE] at h
  | _ => simp [chkE] at h
theorem chk_isi {a : E} {t : String} (h : chkE c (.isi a t) ex = true) : ∃ a' q r p, ex = .Call (.Name (Str.ofString "isinstance") q) [a', .Name (Str.ofString t) r] [] p ∧ glob c (Str.ofString "isinstance") = true ∧ chkE c a a' = true ∧ glob c (Str.ofString t) = true ∧ tyNames.contains t = true := by
  cases ex with
  | Call fn as' ks p =>
    cases ks with
    | nil =>
      cases fn with
      | Name x q =>
        match as' with
        | [a', y] =>
          cases y with
          | Name y r =>
            simp only [chkE, Bool.and_eq_true, decide_eq_true_eq] at h
            obtain ⟨⟨⟨⟨⟨rfl, h2⟩, h3⟩, rfl⟩, h5⟩, h6⟩ := h
            exact ⟨a', q, r, p, rfl, h2, h3, h5, h6⟩
          | _ => simp [chkE] at h
        | [] => simp [chkE] at h
        | [_] => simp [chkE] at h
        | _ :: _ :: _ :: _ => simp [chkE] at h
      | _ => simp [chkE] at h
    | cons _ _ => cases fn <;> simp [chkE] at h
  | _ => simp [chkE] at h
theorem chk_sub {a i : E} (h : chkE c (.sub a i) ex = true) : ∃ a' i' p, ex = .Subscript a' i' p ∧ chkE c a a' = true ∧ chkE c i i' = true := by
  cases ex with
  | Subscript a' i' p =>
    simp only [chkE, Bool.and_eq_true] at h
    exact ⟨a', i', p, rfl, h.1, h.2⟩
  | _ => simp [chkE] at h
theorem chk_slc {a : E} {lo hi : Eo} (h : chkE c (.slc a lo hi) ex = true) : ∃ a' lo' hi' q p, ex = .Subscript a' (.Slice lo' hi' .none q) p ∧ chkE c a a' = true ∧ chkO c lo lo' = true ∧ chkO c hi hi' = true := by
  cases ex with
  | Subscript a' i' p =>
    cases i' with
    | Slice lo' hi' st q =>
      cases st with
      | none =>
        simp only [chkE, Bool.and_eq_true] at h
        exact ⟨a', lo', hi', q, p, rfl, h.1.1, h.1.2, h.2⟩
      | some _ => simp [chkE] at h
    | _ => simp [chkE] at h
  | _ => simp [chkE] at h
theorem chk_tup {as : Es} (h : chkE c (.tup as) ex = true) : ∃ as' k p, ex = .Tuple as' k p ∧ chkEs c as as' = true := by
  cases ex <;> first | (simp [chkE] at h; done) | exact ⟨_, _, _, rfl, by simpa [chkE] using h⟩
theorem chk_lst {as : Es} (h : chkE c (.lst as) ex = true) : ∃ as' p, ex = .List as' p ∧ chkEs c as as' = true := by
  cases ex <;> first | (simp [chkE] at h; done) | exact ⟨_, _, rfl, by simpa [chkE] using h⟩
theorem chk_lzip {a b : E} (h : chkE c (.lzip a b) ex = true) : ∃ q q2 a' b' p p2, ex = .Call (.Name (Str.ofString "list") q) [.Call (.Name (Str.ofString "zip") q2) [a', b'] [] p] [] p2 ∧ glob c (Str.ofString "list") = true ∧ glob c (Str.ofString "zip") = true ∧ chkE c a a' = true ∧ chkE c b b' = true := by
  cases ex with
  | Call fn as ks p2 =>
    cases fn with
    | Name x q =>
      cases as with
      | nil => simp [chkE] at h
      | cons i t =>
        cases t with
        | cons _ _ => simp [chkE] at h
        | nil =>
          cases ks with
          | cons _ _ => simp [chkE] at h
          | nil =>
            cases i with
            | Call fn2 as2 ks2 p =>
              cases fn2 with
              | Name y q2 =>
                cases as2 with
                | nil => simp [chkE] at h
                | cons a' t2 =>
                  cases t2 with
                  | nil => simp [chkE] at h
                  | cons b' t3 =>
                    cases t3 with
                    | cons _ _ => simp [chkE] at h
                    | nil =>
                      cases ks2 with
                      | cons _ _ => simp [chkE] at h
                      | nil =>
                        simp only [chkE, Bool.and_eq_true, decide_eq_true_eq] at h
                        obtain ⟨⟨⟨⟨⟨⟨rfl, h1⟩, rfl⟩, h2⟩, h3⟩, h4⟩, _⟩ := h
                        exact ⟨_, _, _, _, _, _, rfl, h1, h2, h3, h4⟩
              | _ => simp [chkE] at h
            | _ => simp [chkE] at h
    | _ => simp [chkE] at h
  | _ => simp [chkE] at h
theorem chk_peek {a : E} (h : chkE c (.peek a) ex = true) : chkE c a ex = true := by
  have h2 : (chkE c a ex && notSS ex) = true := by cases ex <;> simpa only [chkE] using h
  exact (Bool.and_eq_true _ _ ▸ h2).1
theorem chk_dsp {fl : List Bool} {as : Es} (h : chkE c (.dsp fl as) ex = true) : ∃ as' p, ex = .List as' p ∧ chkDs c fl as as' = true := by
  cases ex <;> first | (simp [chkE] at h; done) | exact ⟨_, _, rfl, by simpa [chkE] using h⟩
theorem chk_idx {i : Nat} {b : E} (h : chkE c (.idx i b) ex = true) : ∃ x q ap b' cp, ex = .Call (.Attribute (.Name x q) (Str.ofString "index") ap) [b'] [] cp ∧ seen c i x = true ∧ chkE c b b' = true ∧ (ap.endLine == cp.line) = true := by
  cases ex with
  | Call fn as' ks' p =>
    cases fn with
    | Attribute r m ap =>
      cases r with
      | Name x q =>
        cases as' with
        | nil => simp [chkE] at h
        | cons b' t =>
          cases t with
          | cons _ _ => simp [chkE] at h
          | nil =>
            cases ks' with
            | cons _ _ => simp [chkE] at h
            | nil =>
              simp only [chkE, Bool.and_eq_true, decide_eq_true_eq] at h
              obtain ⟨⟨⟨h1, rfl⟩, h3⟩, h4⟩ := h
              exact ⟨x, q, ap, b', p, rfl, h1, h3, h4⟩
      | _ => simp [chkE] at h
    | _ => simp [chkE] at h
  | _ => simp [chkE] at h
theorem chkDs_nil {fl : List Bool} {es : List Expr} (h : chkDs c fl .nil es = true) : es = [] := by
  cases es with
  | nil => rfl
  | cons _ _ => cases fl with
    | nil => simp [chkDs] at h
    | cons b _ => cases b <;> simp [chkDs] at h
theorem chkDs_star {fl : List Bool} {a : E} {as : Es} {es : List Expr} (h : chkDs c (true :: fl) (.cons a as) es = true) : ∃ e p es', es = .Starred e p :: es' ∧ chkE c a e = true ∧ chkDs c fl as es' = true := by
  cases es with
  | nil => simp [chkDs] at h
  | cons e es' =>
    cases e <;> first
      | (simp [chkDs] at h; done)
      | (simp only [chkDs, Bool.and_eq_true] at h; exact ⟨_, _, _, rfl, h.1, h.2⟩)
theorem chkDs_plain {fl : List Bool} {a : E} {as : Es} {es : List Expr} (h : chkDs c (false :: fl) (.cons a as) es = true) : ∃ e es', es = e :: es' ∧ chkE c a e = true ∧ chkDs c fl as es' = true := by
  cases es with
  | nil => simp [chkDs] at h
  | cons e es' =>
    simp only [chkDs, Bool.and_eq_true] at h
    exact ⟨_, _, rfl, h.1, h.2⟩
theorem chkDs_rest {a : E} {as : Es} {es : List Expr} (h : chkDs c [] (.cons a as) es = true) : ∃ e es', es = e :: es' ∧ chkE c a e = true ∧ chkDs c [] as es' = true := by
  cases es with
  | nil => simp [chkDs] at h
  | cons e es' =>
    simp only [chkDs, Bool.and_eq_true] at h
    exact ⟨_, _, rfl, h.1, h.2⟩
theorem chk_lc {elt : E} {t : T} {it : I} {ifs : Es} {own : List Nat} (h : chkE c (.lc elt t it ifs own) ex = true) : ∃ elt' t' it' ifs' scope p, ex = .ListComp elt' [⟨t', it', ifs', 0⟩] scope p ∧
    chkI c it it' = true ∧ noSet it' = true ∧ (needTup it = true → isTupE t' = true) ∧ L2.blkC c.N c.sc scope (ownP c own) = true ∧ chkT (inner c scope) t t' = true ∧ chkEs (inner c scope) ifs ifs' = true ∧ chkE (inner c scope) elt elt' = true ∧ tin own t = true := by
  cases ex with
  | ListComp elt' gs scope p =>
    match gs with
    | [⟨t', it', ifs', ay⟩] =>
      by_cases ha : ay = 0
      · subst ha
        simp only [chkE, Bool.and_eq_true, Bool.or_eq_true, Bool.not_eq_true'] at h
        obtain ⟨⟨⟨⟨⟨⟨⟨⟨h1, h2⟩, h3⟩, h4⟩, h5⟩, h6⟩, h7⟩, h8⟩, _⟩ := h
        refine ⟨elt', t', it', ifs', scope, p, rfl, h1, h2, fun z => ?_, h4, h5, h6, h7, h8⟩
        rcases h3 with q | q
        · rw [z] at q; cases q
        · exact q
      · exfalso
        unfold chkE at h
        split at h
        all_goals first | (cases h; done) | simp_all
    | [] => simp [chkE] at h
    | _ :: _ :: _ => simp [chkE] at h
  | _ => simp [chkE] at h
theorem chkEs_len : ∀ {as : Es} {es : List Expr}, chkEs c as es = true → as.len = es.length
  | .nil, [], _ => rfl
  | .cons a as, e :: es, h => by
    simp only [chkEs, Bool.and_eq_true] at h
    show as.len + 1 = es.length + 1
    rw [chkEs_len h.2]
  | .nil, _ :: _, h => by simp [chkEs] at h
  | .cons _ _, [], h => by simp [chkEs] at h
theorem chkEs_nil {es : List Expr} (h : chkEs c .nil es = true) : es = [] := by
  cases es with
  | nil => rfl
  | cons _ _ => simp [chkEs] at h
theorem chkEs_cons {a : E} {as : Es} {es : List Expr} (h : chkEs c (.cons a as) es = true) : ∃ e es', es = e :: es' ∧ chkE c a e = true ∧ chkEs c as es' = true := by
  cases es with
  | nil => simp [chkEs] at h
  | cons e es' =>
    simp only [chkEs, Bool.and_eq_true] at h
    exact ⟨e, es', rfl, h.1, h.2⟩
def coldE : E → Bool
  | .lc .. => true | .sset _ => true | .lset _ => true | .call .. => true | .calk .. => true | .lzip .. => true | .lrg .. => true
  | .bi b _ => !hotB b
  | _ => false
theorem chk_cold {a : E} (h : chkE c a ex = true) (q : coldE a = true) : c.hot = false := by
  cases a <;> simp only [coldE, Bool.false_eq_true, Bool.not_eq_true'] at q <;> (unfold chkE at h; split at h) <;> simp_all
theorem clsN_inv {k : String} {y : Str} (h : clsN c k y = true) : y = Str.ofString k ∧ glob c (Str.ofString k) = true ∧ (k ∈ c.cls ∨ k = "ValueError") := by
  simp only [clsN, Bool.and_eq_true, decide_eq_true_eq, Bool.or_eq_true, List.contains_iff_mem, beq_iff_eq] at h
  obtain ⟨⟨rfl, h2⟩, h3⟩ := h
  exact ⟨rfl, h2, h3⟩
theorem chk_att {a : E} {f : String} (h : chkE c (.att a f) ex = true) : ∃ i x q p, a = .var i ∧ ex = .Attribute (.Name x q) (Str.ofString f) p ∧ seen c i x = true ∧ (f = "index" ∨ f = "word") := by
  unfold chkE at h
  split at h <;> first
    | contradiction
    | (rename_i e1
       cases e1
       simp only [Bool.and_eq_true, decide_eq_true_eq, Bool.or_eq_true, beq_iff_eq] at h
       obtain ⟨⟨rfl, h2⟩, h3⟩ := h
       exact ⟨_, _, _, _, rfl, rfl, h2, h3⟩)
theorem chk_dnw (h : chkE c .dnw ex = true) : ∃ p, ex = .Dict [] [] p := by
  unfold chkE at h
  split at h <;> first | (cases h; done) | exact ⟨_, rfl⟩ | simp_all
theorem chk_lrg {a b : E} (h : chkE c (.lrg a b) ex = true) : ∃ q q2 a' b' p p2, ex = .Call (.Name (Str.ofString "list") q) [.Call (.Name (Str.ofString "range") q2) [a', b'] [] p] [] p2 ∧ glob c (Str.ofString "list") = true ∧ glob c (Str.ofString "range") = true ∧ chkE c a a' = true ∧ chkE c b b' = true := by
  unfold chkE at h
  split at h <;> first
    | contradiction
    | (rename_i e1
       cases e1
       simp only [Bool.and_eq_true, decide_eq_true_eq] at h
       obtain ⟨⟨⟨⟨⟨⟨rfl, h1⟩, rfl⟩, h2⟩, h3⟩, h4⟩, _⟩ := h
       exact ⟨_, _, _, _, _, _, rfl, h1, h2, h3, h4⟩)
theorem clsNs_inv : ∀ {ks : List String} {ys : List Expr}, clsNs c ks ys = true → PySem.Paired (fun k y => ∃ p, y = .Name (Str.ofString k) p ∧ glob c (Str.ofString k) = true ∧ (k ∈ c.cls ∨ k = "ValueError")) ks ys
  | [], [], _ => .nil
  | [], _ :: _, h => by simp [clsNs] at h
  | _ :: _, [], h => by simp [clsNs] at h
  | k :: ks, y :: ys, h => by
    cases y with
    | Name x p =>
      simp only [clsNs, Bool.and_eq_true] at h
      obtain ⟨h1, h2⟩ := h
      obtain ⟨rfl, q1, q2⟩ := clsN_inv h1
      exact .cons ⟨p, rfl, q1, q2⟩ (clsNs_inv h2)
    | _ => simp [clsNs] at h
theorem chk_isc {a : E} {ks : List String} (h : chkE c (.isc a ks) ex = true) : ∃ a' q r p, (ex = .Call (.Name (Str.ofString "isinstance") q) [a', r] [] p ∧ glob c (Str.ofString "isinstance") = true ∧ chkE c a a' = true) ∧
    ((∃ k r0, ks = [k] ∧ r = .Name (Str.ofString k) r0 ∧ glob c (Str.ofString k) = true ∧ (k ∈ c.cls ∨ k = "ValueError")) ∨ ∃ ys j r0, r = .Tuple ys j r0 ∧ clsNs c ks ys = true ∧ ks.length ≤ 100) := by
  unfold chkE at h
  split at h <;> first
    | contradiction
    | (rename_i e1
       cases e1
       simp only [Bool.and_eq_true, decide_eq_true_eq] at h
       obtain ⟨⟨⟨⟨rfl, h1⟩, h2⟩, h3⟩, h4⟩ := h
       exact ⟨_, _, _, _, ⟨rfl, h1, h2⟩, .inr ⟨_, _, _, rfl, h3, h4⟩⟩)
    | (rename_i e1
       cases e1
       simp only [Bool.and_eq_true, decide_eq_true_eq] at h
       obtain ⟨⟨⟨rfl, h1⟩, h2⟩, h3⟩ := h
       obtain ⟨rfl, g1, g2⟩ := clsN_inv h3
       exact ⟨_, _, _, _, ⟨rfl, h1, h2⟩, .inl ⟨_, _, rfl, rfl, g1, g2⟩⟩)
end
end DP

/-! DpK: the steps of each construct, from its parts. -/
namespace DP
open PySem (Addr sizeLine wpAny model Value Shared Around FuncData BindsTo codeAny Str Paired Expr)
open PySem.W (Frag)
open L2
variable [CT]

section
variable {L : List Ent} {c : SC} {X : Cx} {W : WX} {me : List Nat}
theorem PE.never {e : Expr} : PE X e (fun _ _ _ => False) := ⟨fun _ _ _ _ _ _ h => h.elim⟩
theorem next_left {F : Hp} {A B : Own} {H F' : Hp} {O' : Own} {H' : Hp} (h : Held F (A ++ B) H) (n : Next F A H F' O' H') : Next F (A ++ B) H F' (O' ++ B) H' :=
  (Next.frame (h.perm List.perm_append_comm) n).perm_from List.perm_append_comm |>.perm List.perm_append_comm
theorem perm3 {A B C : Own} : (A ++ (B ++ C)).Perm (B ++ (A ++ C)) := by
  rw [← List.append_assoc, ← List.append_assoc]
  exact List.perm_append_comm.append_right _
theorem chkEs_cons' {c : SC} {as : Es} {e : Expr} {es : List Expr} (h : chkEs c as (e :: es) = true) : ∃ a as2, as = .cons a as2 ∧ chkE c a e = true ∧ chkEs c as2 es = true := by
  cases as with
  | nil => simp [chkEs] at h
  | cons a as2 =>
    simp only [chkEs, Bool.and_eq_true] at h
    exact ⟨a, as2, rfl, h.1, h.2⟩
/-- a looked-at value, just read -/
theorem borNow {F : Hp} {a : E} {d : D} {v : V} {Od Oe : Own} {env : Env} {σ : St} {H : Hp} (b : BorOk a F d v Od env σ) (s : SimE F env σ Oe) (h : Held F (Od ++ Oe) H) : ∃ A, Rep F d v A ∧ Own.inH A H := by
  refine borUse b ?_ (Sub.refl F) s h
  cases a <;> first | trivial | exact b.2.1
theorem sB {a : E} {ex : Expr} (hE : PE X ex (tE (sigOf L me) X.mg W a)) (C : Cok L c X W) (h : chkE c a ex = true) : PE X ex (tB (sigOf L me) X.mg W a) := by
  cases a with
  | var i =>
    obtain ⟨x, p, rfl, h⟩ := chk_var h
    obtain ⟨h1, h2, h3, h4⟩ := C.seen h
    refine PE.weak (pe_var h1 h2 h3 h4) fun σ H Q ⟨env, F, O, K, R, s, hh, w, ok, ox⟩ => ?_
    obtain ⟨d, e, hk⟩ := get_iff w
    obtain ⟨v, A, B, k1, k2, k3, k4⟩ := s.take e
    exact ⟨v, k1, ok d env hk F [] O v H (Next.refl hh) ⟨rfl, e, k1⟩ s⟩
  | _ => exact PE.weak hE fun _ _ _ q => q
theorem st_bin {o : Op} {a b : E} {a' b' : Expr} {p : PySem.Pos} (ha : PE X a' (tE (sigOf L me) X.mg W a)) (hb : PE X b' (tE (sigOf L me) X.mg W b)) : PE X (.BinOp a' (opOf o) b' p) (tE (sigOf L me) X.mg W (.bin o a b)) := by
  refine PE.weak (pe_op any_ok ha hb) fun σ H Q ⟨env, F, O, K, R, s, hh, w, ok, ox⟩ => ?_
  simp only [wpE] at w
  refine ⟨env, F, O, _, R, s, hh, w, fun d1 env1 w1 F1 Od1 Oe1 v1 H1 n1 r1 s1 => ?_, ox⟩
  refine ⟨env1, F1, Oe1, _, R, s1, n1.held.right, w1, fun d2 env2 w2 F2 Od2 Oe2 v2 H2 n2 r2 s2 => ?_, ox.step n1.drop⟩
  have nf := Next.frame n1.held n2
  rw [← List.append_assoc] at nf
  exact bin_ok w2 (r1.mono n2.f) r2 nf.held fun d hd F3 Od v H3 n3 r3 => ok d env2 hd F3 Od Oe2 v H3 ((n1.trans nf).trans n3) r3 (s2.mono n3.f)
theorem st_neg {a : E} {a' : Expr} {p : PySem.Pos} (ha : PE X a' (tE (sigOf L me) X.mg W a)) : PE X (.UnaryOp .USub a' p) (tE (sigOf L me) X.mg W (.neg a)) := by
  refine PE.weak (pe_un un_neg ha) fun σ H Q ⟨env, F, O, K, R, s, hh, w, ok, ox⟩ => ?_
  simp only [wpE] at w
  refine ⟨env, F, O, _, R, s, hh, w, fun d1 env1 w1 F1 Od1 Oe1 v1 H1 n1 r1 s1 => ?_, ox⟩
  obtain ⟨i, rfl, hk⟩ := w1
  obtain ⟨rfl, rfl⟩ := r1.intI
  exact ⟨i, rfl, ok _ env1 hk F1 [] Oe1 _ H1 n1 (.int _) s1⟩
theorem st_nt {a : E} {a' : Expr} {p : PySem.Pos} (ha : PE X a' (tE (sigOf L me) X.mg W a)) : PE X (.UnaryOp .Not a' p) (tE (sigOf L me) X.mg W (.nt a)) := by
  refine PE.weak (pe_notT ha) fun σ H Q ⟨env, F, O, K, R, s, hh, w, ok, ox⟩ => ?_
  simp only [wpE] at w
  refine ⟨env, F, O, _, R, s, hh, w, fun d1 env1 w1 F1 Od1 Oe1 v1 H1 n1 r1 s1 => ?_, ox⟩
  obtain ⟨t1, t2⟩ := tru_of (K := X.K) w1 r1 n1.held.f n1.held.left.o
  exact ⟨_, t1, ok _ env1 t2 F1 [] Oe1 _ H1 n1.drop (.bl _) s1⟩
theorem st_cmp {o : CO} {a b : E} {a' b' : Expr} {p : PySem.Pos} (C : Cok L c X W) (ha : PE X a' (tB (sigOf L me) X.mg W a)) (hb : PE X b' (tB (sigOf L me) X.mg W b)) (hn : noSet b' = true) : PE X (.Compare a' [cmpOf o] [b'] p) (tE (sigOf L me) X.mg W (.cmp o a b)) := by
  refine PE.weak (pe_cmpR any_ok ha hb (noSet_mark hn)) fun σ H Q ⟨env, F, O, K, R, s, hh, w, ok, ox⟩ => ?_
  simp only [wpE] at w
  refine ⟨env, F, O, _, R, s, hh, w, fun d1 env1 w1 F1 Od1 Oe1 v1 H1 n1 b1 s1 => ?_, ox⟩
  refine ⟨env1, F1, Oe1, _, R, s1, n1.held.right, w1, fun d2 env2 w2 F2 Od2 Oe2 v2 H2 n2 b2 s2 => ?_, ox.step n1.drop⟩
  have nf := Next.frame n1.held n2
  obtain ⟨A1, r1, i1⟩ := borUse b1 w2.1 n2.f s2 (nf.held.perm (by rw [← List.append_assoc]; exact (List.perm_append_comm (l₁ := Od1) (l₂ := Od2)).append_right _ |>.trans (by rw [List.append_assoc]))).right
  obtain ⟨A2, r2, i2⟩ := borNow b2 s2 n2.held
  exact cmp_ok w2.2 r1 r2 n2.held.f i1 i2 C.hu fun k hk => ok _ env2 hk F2 [] Oe2 _ H2 ((n1.trans nf).drop.drop) (.bl k) s2
theorem tt_cmp {o : CO} {a b : E} {a' b' : Expr} {p : PySem.Pos} (C : Cok L c X W) (ha : PE X a' (tB (sigOf L me) X.mg W a)) (hb : PE X b' (tB (sigOf L me) X.mg W b)) (hn : noSet b' = true) : PT X (.Compare a' [cmpOf o] [b'] p) (tT (sigOf L me) X.mg W (.cmp o a b)) := by
  refine PT.weak (pt_cmpR any_ok ha hb (noSet_mark hn)) fun σ H Q ⟨env, F, O, K, R, s, hh, w, ok, ox⟩ => ?_
  simp only [wpT] at w
  refine ⟨env, F, O, _, R, s, hh, w, fun d1 env1 w1 F1 Od1 Oe1 v1 H1 n1 b1 s1 => ?_, ox⟩
  refine ⟨env1, F1, Oe1, _, R, s1, n1.held.right, w1, fun d2 env2 w2 F2 Od2 Oe2 v2 H2 n2 b2 s2 => ?_, ox.step n1.drop⟩
  have nf := Next.frame n1.held n2
  obtain ⟨A1, r1, i1⟩ := borUse b1 w2.1 n2.f s2 (nf.held.perm (by rw [← List.append_assoc]; exact (List.perm_append_comm (l₁ := Od1) (l₂ := Od2)).append_right _ |>.trans (by rw [List.append_assoc]))).right
  obtain ⟨A2, r2, i2⟩ := borNow b2 s2 n2.held
  exact cmp_ok w2.2 r1 r2 n2.held.f i1 i2 C.hu fun k hk => ⟨k, rfl, ok _ env2 hk F2 Oe2 H2 ((n1.trans nf).drop.drop) s2⟩
theorem marks {op op' : PySem.CmpOp} {b d : Expr} (h : noSet d = true) : PySem.lastMarks [op, op'] [b, d] = false := by
  show PySem.behindInMarks op' d = false
  exact noSet_mark h
theorem st_chn {o q : CO} {a b d : E} {a' b' d' : Expr} {p : PySem.Pos} (C : Cok L c X W) (ha : PE X a' (tE (sigOf L me) X.mg W a)) (hb : PE X b' (tE (sigOf L me) X.mg W b)) (hd : PE X d' (tE (sigOf L me) X.mg W d)) (hn : noSet d' = true) :
    PE X (.Compare a' [cmpOf o, cmpOf q] [b', d'] p) (tE (sigOf L me) X.mg W (.chn o q a b d)) := by
  refine PE.weak (pe_chain any_ok any_ok ha hb hd (marks hn)) fun σ H Q ⟨env, F, O, K, R, s, hh, w, ok, ox⟩ => ?_
  simp only [wpE] at w
  refine ⟨env, F, O, _, R, s, hh, w, fun d1 env1 w1 F1 Od1 Oe1 v1 H1 n1 r1 s1 => ?_, ox⟩
  refine ⟨env1, F1, Oe1, _, R, s1, n1.held.right, w1, fun d2 env2 w2 F2 Od2 Oe2 v2 H2 n2 r2 s2 => ?_, ox.step n1.drop⟩
  have nf := Next.frame n1.held n2
  refine cmp_ok w2 (r1.mono n2.f) r2 n2.held.f nf.held.left.o n2.held.left.o C.hu fun k hk => ⟨k, rfl, ?_⟩
  have n12 := (n1.trans nf).drop
  cases k with
  | false => exact ok _ env2 hk F2 [] Oe2 _ H2 n12.drop (.bl _) s2
  | true =>
    refine ⟨env2, F2, Oe2, _, R, s2, n12.held.right, hk, fun d3 env3 w3 F3 Od3 Oe3 v3 H3 n3 r3 s3 => ?_, ox.step n12.drop⟩
    have ng := Next.frame n12.held n3
    exact cmp_ok w3 (r2.mono n3.f) r3 n3.held.f ng.held.left.o n3.held.left.o C.hu fun k' hk' => ok _ env3 hk' F3 [] Oe3 _ H3 (n12.trans ng).drop.drop (.bl _) s3
theorem tt_chn {o q : CO} {a b d : E} {a' b' d' : Expr} {p : PySem.Pos} (C : Cok L c X W) (ha : PE X a' (tE (sigOf L me) X.mg W a)) (hb : PE X b' (tE (sigOf L me) X.mg W b)) (hd : PE X d' (tE (sigOf L me) X.mg W d)) (hn : noSet d' = true) :
    PT X (.Compare a' [cmpOf o, cmpOf q] [b', d'] p) (tT (sigOf L me) X.mg W (.chn o q a b d)) := by
  refine PT.weak (pt_chain any_ok any_ok ha hb hd (marks hn)) fun σ H Q ⟨env, F, O, K, R, s, hh, w, ok, ox⟩ => ?_
  simp only [wpT] at w
  refine ⟨env, F, O, _, R, s, hh, w, fun d1 env1 w1 F1 Od1 Oe1 v1 H1 n1 r1 s1 => ?_, ox⟩
  refine ⟨env1, F1, Oe1, _, R, s1, n1.held.right, w1, fun d2 env2 w2 F2 Od2 Oe2 v2 H2 n2 r2 s2 => ?_, ox.step n1.drop⟩
  have nf := Next.frame n1.held n2
  refine cmp_ok w2 (r1.mono n2.f) r2 n2.held.f nf.held.left.o n2.held.left.o C.hu fun k hk => ⟨k, rfl, ?_⟩
  have n12 := (n1.trans nf).drop
  cases k with
  | false => exact ⟨_, rfl, ok _ env2 hk F2 Oe2 H2 n12.drop s2⟩
  | true =>
    refine ⟨env2, F2, Oe2, _, R, s2, n12.held.right, hk, fun d3 env3 w3 F3 Od3 Oe3 v3 H3 n3 r3 s3 => ?_, ox.step n12.drop⟩
    have ng := Next.frame n12.held n3
    exact cmp_ok w3 (r2.mono n3.f) r3 n3.held.f ng.held.left.o n3.held.left.o C.hu fun k' hk' => ⟨_, rfl, ok _ env3 hk' F3 Oe3 H3 (n12.trans ng).drop.drop s3⟩
theorem st_ife {d a b : E} {d' a' b' : Expr} {p : PySem.Pos} (hd : PT X d' (tT (sigOf L me) X.mg W d)) (ha : PE X a' (tE (sigOf L me) X.mg W a)) (hb : PE X b' (tE (sigOf L me) X.mg W b)) : PE X (.IfExp d' a' b' p) (tE (sigOf L me) X.mg W (.ife d a b)) := by
  refine PE.weak (pe_ifExp hd ha hb) fun σ H Q ⟨env, F, O, K, R, s, hh, w, ok, ox⟩ => ?_
  simp only [wpE] at w
  refine ⟨env, F, O, _, R, s, hh, w, fun k env1 w1 F1 Oe1 H1 n1 s1 => ?_, ox⟩
  cases k with
  | true => exact ⟨env1, F1, Oe1, _, R, s1, n1.held, w1, ok.step n1, ox.step n1⟩
  | false => exact ⟨env1, F1, Oe1, _, R, s1, n1.held, w1, ok.step n1, ox.step n1⟩

/-! ### a call of a def -/
/-- behind the call -/
theorem call_post {F F1 : Hp} {O Od Oe : Own} {σ : St} {H H1 : Hp} {env1 : Env} {tk : List Nat} {vs : List V} {ios : List Bool} (n1 : Next F O H F1 (Od ++ Oe) H1) (s1 : SimE F1 env1 σ Oe)
    (tko : Paired (Back σ) tk (pick ios vs)) {F2 : Hp} {Or Oo : Own} {H2 : Hp} {outs : List D} (n2 : Next F1 Od H1 F2 (Or ++ Oo) H2) (ro : RepL F2 outs (pick ios vs) Oo) :
    ∃ C, Next F O H F2 (Or ++ C) H2 ∧ SimE F2 (putAll tk outs env1) σ C := by
  have n3 := next_left n1.held n2
  obtain ⟨Z, B, C, k1, k2, Y, k3⟩ := putSim (s1.mono n2.f) ro tko
  refine ⟨C, ?_, k1⟩
  refine ((n1.trans n3).perm (O'' := (Z ++ Y) ++ (Or ++ C)) ?_).drop
  have q1 : (Or ++ Oo ++ Oe).Perm (Or ++ (Z ++ (Oo ++ B))) := by
    rw [List.append_assoc]
    refine List.Perm.append_left Or ((List.Perm.append_left Oo k2).trans ?_)
    rw [← List.append_assoc, ← List.append_assoc]
    exact List.perm_append_comm.append_right _
  refine q1.trans ?_
  refine (List.Perm.append_left Or (List.Perm.append_left Z k3)).trans ?_
  rw [← List.append_assoc Z Y C]
  exact perm3
theorem st_call {f : String} {as : Es} {es : List Expr} {q p : PySem.Pos} (C : Cok L c X W) (hx : glob c (Str.ofString f) = true) (hc : chkEs c as es = true) (hf : c.fns.contains (f, es.length) = true) (hot : c.hot = false)
    (ha : ∀ fl, PA X es (tA (sigOf L me) X.mg W fl as)) : ∃ (t : TE), PE X (.Call (.Name (Str.ofString f) q) es [] p) t ∧ ∀ (F : Hp) (O : Own) (σ : St) (H : Hp) (Q : VK) (env : Env) (K : KD) (R : KX), SimE F env σ O → Held F O H →
      wpA (sigOf L me) as ((sigOf L me).ios f) env (fun ds tk env1 => (sigOf L me).sp f ds (fun r outs => outs.length = tk.length ∧ K r (putAll tk outs env1)) fun x => R x env1) R → okE F O σ H Q K → okX X.mg W F O σ H R → t σ H Q := by
  obtain ⟨e, k, en, el, hr, KE, e1, e2, e3⟩ := C.ent hot me hf
  obtain ⟨a, fd, m1, m2, G, b1, b2⟩ := KE.ok
  obtain ⟨g1, g2⟩ := C.glob hx
  have m1' : X.mg (Str.ofString f) = some (.ref a) := by rw [← en]; exact m1
  refine ⟨tCallG (spM X.mg e.ps.length e.ios e.sp) W (tA (sigOf L me) X.mg W e.ios as), ?_, fun F O σ H Q env K R s hh w ok ox => ?_⟩
  · cases es with
    | nil =>
      have hn : as = .nil := by cases as with
        | nil => rfl
        | cons _ _ => simp [chkEs] at hc
      refine PE.weak (pe_callG0 (W := W) G C.hg hr C.tk g1 m1' m2 b1 g2) fun σ H Q h => ?_
      obtain ⟨env, F, O, K, R, s, hh, w, ok, ox⟩ := h
      subst hn
      simp only [wpA] at w
      exact ok [] [] env w rfl F [] O [] H (Next.refl hh) .nil s (by cases e.ios with | nil => exact .nil | cons b _ => cases b <;> exact .nil)
    | cons e' es' =>
      obtain ⟨a2, as2, _, c1, c2⟩ := chkEs_cons' hc
      exact pe_callG (W := W) G C.hg hr C.tk g1 m1' m2 b1 (ha e.ios) g2 (star_cons (chk_star c1)) (plain_all c2)
  · rw [e1, e2] at w
    refine ⟨env, F, O, _, R, s, hh, w, fun ds tk env1 w1 hl F1 Od Oe vs H1 n1 r1 s1 tko => ?_, ox⟩
    refine ⟨ds, F1, Od, _, _, r1, n1.held.left, by rw [hl, chkEs_len hc, el], w1, fun r outs hk F2 Or Oo v H2 n2 r2 ro => ?_, fun x rx F2 O2 cls dd H2 n2 rep => ?_⟩
    · obtain ⟨C', n3, s3⟩ := call_post n1 s1 tko n2 ro
      exact ok r _ hk.2 F2 Or C' v H2 n3 r2 s3
    · have n3 := n1.trans (next_left n1.held n2)
      exact ox x env1 rx F2 Oe cls dd H2 n3.drop (s1.mono n2.f) rep

/-! ### subscripts -/
theorem st_sub {a i : E} {a' i' : Expr} {p : PySem.Pos} (ha : PE X a' (tB (sigOf L me) X.mg W a)) (hi : PE X i' (tE (sigOf L me) X.mg W i)) (hp : PlainIx i') : PE X (.Subscript a' i' p) (tE (sigOf L me) X.mg W (.sub a i)) := by
  refine PE.weak (pe_ix anyI_ok ha hi hp) fun σ H Q ⟨env, F, O, K, R, s, hh, w, ok, ox⟩ => ?_
  simp only [wpE] at w
  refine ⟨env, F, O, _, R, s, hh, w, fun d1 env1 w1 F1 Od1 Oe1 v1 H1 n1 b1 s1 => ?_, ox⟩
  refine ⟨env1, F1, Oe1, _, R, s1, n1.held.right, w1, fun d2 env2 w2 F2 Od2 Oe2 v2 H2 n2 r2 s2 => ?_, ox.step n1.drop⟩
  have nf := n1.trans (Next.frame n1.held n2)
  obtain ⟨st, sz, ⟨m, rfl⟩, el, e1, hk⟩ := w2
  obtain ⟨rfl, rfl⟩ := r2.intI
  have tmp : Rep F1 d1 v1 Od1 → K el.fz env2 → anyI X v1 (.int m) H2 Q := fun r1 hk => by
    have h2 : Held F2 (Od1 ++ Oe2) H2 := nf.held
    have r1' := r1.mono n2.f
    have n3 := Next.freeze h2
    exact sub_ok e1 r1' h2.f h2.left.o sz fun v B rB mB => ok el.fz env2 hk _ [] Oe2 v H2 (nf.trans n3) (rB.froz n3.f fun p hp => addF_in h2.left.nd p (mB p hp)) (s2.mono n3.f)
  cases a with
  | var j =>
    obtain ⟨rfl, _, b3⟩ := b1
    have st' : env2[j]? = some (some d1) := st
    obtain ⟨v', A, B', k1, k2, k3, k4⟩ := s2.take st'
    rw [b3] at k1; cases k1
    have h2 : Held F2 (A ++ B') H2 := n2.held.perm k4
    refine sub_ok e1 k2 h2.f h2.left.o sz fun v B rB mB => ?_
    by_cases q : el.isFz = true
    · have hB := rB.free q
      subst hB
      have hk' : K el.fz env2 := by
        have : shareAt (.var j) d1 el env2 = env2 := by
          show (if el.isFz = true then env2 else env2.set j (some d1.fz)) = _
          rw [if_pos q]
        rw [this] at hk; exact hk
      exact ok el.fz env2 hk' F2 [] Oe2 v H2 nf (by rw [fz_of el q]; exact rB) s2
    · have hk' : K el.fz (env2.set j (some d1.fz)) := by
        have : shareAt (.var j) d1 el env2 = env2.set j (some d1.fz) := by
          show (if el.isFz = true then env2 else env2.set j (some d1.fz)) = _
          rw [if_neg q]
        rw [this] at hk; exact hk
      have n3 := Next.freeze h2
      have hj : j < env2.length := (List.getElem?_eq_some_iff.mp st').1
      obtain ⟨C3, h5, h6⟩ := (k3.mono n3.f).put (i := j) (by rw [List.getElem?_set_self hj]) (k2.frozen h2)
      rw [List.set_set, set_self b3] at h5
      exact ok el.fz _ hk' _ [] C3 v H2 (nf.trans ((n3.perm_from k4.symm).perm h6.symm)) (rB.froz n3.f fun p hp => addF_in h2.left.nd p (mB p hp)) h5
  | _ => exact tmp b1 hk
theorem st_slc {a : E} {lo hi : Eo} {a' : Expr} {lo' hi' : Option Expr} {q p : PySem.Pos} (ha : PE X a' (tE (sigOf L me) X.mg W a)) (hl : PO X lo' (tOpt (sigOf L me) X.mg W lo)) (hh' : PO X hi' (tOpt (sigOf L me) X.mg W hi)) :
    PE X (.Subscript a' (.Slice lo' hi' .none q) p) (tE (sigOf L me) X.mg W (.slc a lo hi)) := by
  refine PE.weak (pe_slice anyS_ok ha hl hh') fun σ H Q ⟨env, F, O, K, R, s, hh, w, ok, ox⟩ => ?_
  simp only [wpE] at w
  refine ⟨env, F, O, _, R, s, hh, w, fun d1 env1 w1 F1 Od1 Oe1 v1 H1 n1 r1 s1 => ?_, ox⟩
  refine ⟨env1, F1, Oe1, _, R, s1, n1.held.right, w1, fun l env2 w2 F2 Oe2 H2 n2 s2 => ?_, ox.step n1.drop⟩
  have nf := n1.trans (Next.frame n1.held n2)
  refine ⟨env2, F2, Oe2, _, R, s2, n2.held, w2, fun h env3 w3 F3 Oe3 H3 n3 s3 => ?_, ox.step nf.drop⟩
  have ng := nf.trans (Next.frame nf.held n3)
  have r3 := (r1.mono n2.f).mono n3.f
  have nz := Next.freeze ng.held
  have rz := r3.frozen ng.held
  have nn := ng.trans nz
  refine slc_ok w3 rz nn.held.f (fun d v hd r => ok d env3 hd _ [] Oe3 v H3 nn r (s3.mono nz.f)) (fun ds vs p hd r hp => ?_) fun ds vs p hd r hp => ?_
  · exact ok _ env3 hd _ [(p, .lst vs)] Oe3 _ _ (nn.trans (Next.newO nn.held hp (.lst vs))) (.own r) (s3.mono nz.f)
  · have n5 := Next.newF nn.held hp (.tup vs)
    exact ok _ env3 hd _ [] Oe3 _ _ (nn.trans n5) (.tup upd_same (r.mono n5.f)) ((s3.mono nz.f).mono n5.f)
theorem st_tup {as : Es} {es : List Expr} {k : Nat} {p : PySem.Pos} (ha : PA X es (tEs (sigOf L me) X.mg W as)) : PE X (.Tuple es k p) (tE (sigOf L me) X.mg W (.tup as)) := by
  refine PE.weak (pe_tup ha) fun σ H Q ⟨env, F, O, K, R, s, hh, w, ok, ox⟩ => ?_
  simp only [wpE] at w
  refine ⟨env, F, O, _, R, s, hh, w, fun ds env1 w1 hl F1 Od Oe vs H1 n1 r1 s1 => ⟨by rw [← r1.len]; exact w1.1, fun a ha => ?_⟩, ox⟩
  have n5 := Next.newF n1.held ha (.tup vs)
  exact ok _ env1 w1.2 _ Od Oe _ _ (n1.trans n5) (.tup upd_same (r1.mono n5.f)) (s1.mono n5.f)
theorem st_lst {as : Es} {es : List Expr} {p : PySem.Pos} (ha : PA X es (tEs (sigOf L me) X.mg W as)) : PE X (.List es p) (tE (sigOf L me) X.mg W (.lst as)) := by
  refine PE.weak (pe_lst ha) fun σ H Q ⟨env, F, O, K, R, s, hh, w, ok, ox⟩ => ?_
  simp only [wpE] at w
  refine ⟨env, F, O, _, R, s, hh, w, fun ds env1 w1 hl F1 Od Oe vs H1 n1 r1 s1 => ⟨by rw [← r1.len]; exact w1.1, fun a ha => ?_⟩, ox⟩
  exact ok _ env1 w1.2 F1 ((a, .lst vs) :: Od) Oe _ _ (n1.trans (Next.newO n1.held ha (.lst vs))) (.own r1) s1

theorem st_dsp {fl : List Bool} {as : Es} {es : List Expr} {p : PySem.Pos} (ha : PA X es (tDs (sigOf L me) X.mg W fl as)) : PE X (.List es p) (tE (sigOf L me) X.mg W (.dsp fl as)) := by
  refine PE.weak (pe_lst ha) fun σ H Q ⟨env, F, O, K, R, s, hh, w, ok, ox⟩ => ?_
  simp only [wpE] at w
  refine ⟨env, F, O, _, R, s, hh, w, fun ds env1 w1 F1 Od Oe vs H1 n1 r1 s1 => ⟨by rw [← r1.len]; exact w1.1, fun a ha => ?_⟩, ox⟩
  exact ok _ env1 w1.2 F1 ((a, .lst vs) :: Od) Oe _ _ (n1.trans (Next.newO n1.held ha (.lst vs))) (.own r1) s1
theorem pyL_get (xs : List D) (j : Nat) : (pyL xs)[j]? = xs[j]?.map D.py := by
  induction xs generalizing j with
  | nil => rfl
  | cons x xs ih => cases j with
    | zero => rfl
    | succ j => exact ih j
theorem st_idx {i : Nat} {b : E} {x : Str} {q ap cp : PySem.Pos} {b' : Expr} (C : Cok L c X W) (hx : seen c i x = true) (hc : chkE c b b' = true) (hl : (ap.endLine == cp.line) = true) (hb : PE X b' (tE (sigOf L me) X.mg W b)) :
    PE X (.Call (.Attribute (.Name x q) (Str.ofString "index") ap) [b'] [] cp) (tE (sigOf L me) X.mg W (.idx i b)) := by
  obtain ⟨h1, h2, h3, h4⟩ := C.seen hx
  have hs := star_cons (es := []) (env := X.env) (chk_star hc)
  have pe := pe_bm (X := X) (apos := ap) (cpos := cp) PySem.F.plainAttrs_list PySem.F.slot_list_index PySem.F.type_list_index (mt_indexD C.hu) (pe_var (pos := q) h1 h2 h3 h4) (pa_cons hb pa_nil hs) rfl (by rw [hs]; rfl) hl hs rfl
  refine PE.weak pe fun σ H Q ⟨env, F, O, K, R, s, hh, w, ok, ox⟩ => ?_
  simp only [wpE] at w
  obtain ⟨x0, e0, xs, hx0, w⟩ := get_iff w
  obtain ⟨v0, F', O', k1, k2, k3, k4⟩ := freezeSlot s hh e0
  have ef : ∃ ys, x0.fz = .lst false ys ∧ xs = ys := by
    cases x0 <;> first | (cases hx0; done) | (rw [D.fz] at hx0 ⊢; cases hx0; exact ⟨_, rfl, rfl⟩)
  obtain ⟨ys, ef, rfl⟩ := ef
  rw [ef] at k3 k4 w
  cases k3 with
  | @fro a vs _ e1 rl =>
    refine ⟨.ref a, k1, .inl ⟨rfl, vs, .inl (k2.held.f.rd e1)⟩, _, F', O', _, R, k4, k2.held, w, fun y env1 w1 F1 Od Oe u H1 n r s1 => ?_, ox.step k2⟩
    obtain ⟨w1, w2, j, z, w3, w4, w5, w6⟩ := w1
    have r0 : Rep F1 (.lst false xs) (.ref a) [] := .fro (n.f.rd e1) (rl.mono n.f)
    refine ⟨a, u, y.py, pyL xs, j, z.py, rfl, rfl, r0.dp n.held.f (fun p hp => by cases hp) (by rw [D.py]; exact shaped_nd w1), r.dp n.held.f n.held.left.o (shaped_nd w2), w1, w2, by rw [pyL_get, w3]; rfl, w4, fun m z' hm hz => ?_, ?_⟩
    · rw [pyL_get] at hz
      cases q1 : xs[m]? with
      | none => rw [q1] at hz; cases hz
      | some z0 =>
        rw [q1] at hz; cases hz
        exact w5 m z0 hm q1
    · exact ok _ env1 w6 F1 [] Oe _ H1 (k2.trans n.drop) (.int _) s1

/-! ### built-in functions -/
theorem pe_bi {b : BI} {e : Expr} {es : List Expr} {q p : PySem.Pos} {t : TA} (C : Cok L c X W) (hx : glob c (Str.ofString b.name) = true) (ha : PA X (e :: es) t) (hs : PySem.starEach (e :: es) X.env = (false, PySem.eval e X.env) :: PySem.starEach es X.env)
    (hpl : (PySem.backTo p (PySem.starEach es X.env)).any (·.1) = false) : PE X (.Call (.Name (Str.ofString b.name) q) (e :: es) [] p) (tCB (anyC X b.val) t) := by
  obtain ⟨g1, g2⟩ := C.glob hx
  have m := C.bn b.name_mem
  have nn := b.nn
  have bb := b.boot
  cases b <;> first
    | exact pe_callB anyC_ok g1 m bb ha nn g2 hs hpl
    | exact pe_callTy anyC_ok g1 m bb ha nn g2 hs hpl
theorem st_bi {b : BI} {as : Es} {es : List Expr} {q p : PySem.Pos} (C : Cok L c X W) (cold : hotB b = false → c.hot = false) (hx : glob c (Str.ofString b.name) = true) (hc : chkEs c as es = true) (ha : PA X es (tBs (sigOf L me) X.mg W as)) :
    PE X (.Call (.Name (Str.ofString b.name) q) es [] p) (tE (sigOf L me) X.mg W (.bi b as)) ∧ PE X (.Call (.Name (Str.ofString b.name) q) es [] p) (fun σ H Q => ∃ env F O K R, SimE F env σ O ∧ Held F O H ∧ wpT (sigOf L me) (.bi b as) env K R ∧
      (∀ d env', (truD d fun k => K k env') → ∀ F' Od Oe v H', Next F O H F' (Od ++ Oe) H' → Rep F' d v Od → SimE F' env' σ Oe → Q v H') ∧ okX X.mg W F O σ H R) := by
  have main : ∀ (K : KD) (R : KX) (env : Env) (F : Hp) (O : Own) (σ : St) (H : Hp) (Q : VK), SimE F env σ O → Held F O H → wpBs (sigOf L me) as env (fun ds env1 => stills as ds env1 ∧ biD b ds fun d => K d env1) R → okE F O σ H Q K → okX X.mg W F O σ H R →
      tCB (anyC X b.val) (tBs (sigOf L me) X.mg W as) σ H Q := fun K R env F O σ H Q s hh w ok ox => by
    refine ⟨env, F, O, _, R, s, hh, w, fun ds env1 w1 F1 Od Oe vs H1 n1 b1 s1 => ?_, ox⟩
    obtain ⟨A, rA, iA⟩ := borsUse s1 b1 w1.1 (Sub.refl _) n1.held
    refine bi_ok w1.2 rA n1.held.f iA (fun z => C.calm (cold z)) C.hg C.hu (fun d v hd r => ok d env1 hd F1 [] Oe v H1 n1.drop r s1) (fun ds' vs' p' hd r hp => ?_) fun ds' vs' p' hd r hp => ?_
    · exact ok _ env1 hd _ [(p', .lst vs')] Oe _ _ (n1.drop.trans (Next.newO n1.held.right hp (.lst vs'))) (.own r) s1
    · have n5 := Next.newF n1.held.right hp (.tup vs')
      exact ok _ env1 hd _ [] Oe _ _ (n1.drop.trans n5) (.tup upd_same (r.mono n5.f)) (s1.mono n5.f)
  cases es with
  | nil =>
    have hn : as = .nil := by cases as with
      | nil => rfl
      | cons _ _ => simp [chkEs] at hc
    subst hn
    refine ⟨PE.weak PE.never fun σ H Q ⟨env, F, O, K, R, s, hh, w, ok, ox⟩ => ?_, PE.weak PE.never fun σ H Q ⟨env, F, O, K, R, s, hh, w, ok, ox⟩ => ?_⟩
    · simp only [wpE, wpBs] at w
      have := w.2
      cases b <;> simp [biD] at this
    · simp only [wpT, wpBs] at w
      have := w.2
      cases b <;> simp [biD] at this
  | cons e es' =>
    have hcc : ∃ a as2, as = .cons a as2 ∧ chkE c a e = true ∧ chkEs c as2 es' = true := by
      cases as with
      | nil => simp [chkEs] at hc
      | cons a as2 => simp only [chkEs, Bool.and_eq_true] at hc; exact ⟨a, as2, rfl, hc.1, hc.2⟩
    obtain ⟨a, as2, rfl, c1, c2⟩ := hcc
    have pe := pe_bi (q := q) (p := p) (b := b) C hx ha (star_cons (chk_star c1)) (plain_all c2)
    refine ⟨PE.weak pe fun σ H Q ⟨env, F, O, K, R, s, hh, w, ok, ox⟩ => ?_, PE.weak pe fun σ H Q ⟨env, F, O, K, R, s, hh, w, ok, ox⟩ => ?_⟩
    · simp only [wpE] at w
      exact main K R env F O σ H Q s hh w ok ox
    · simp only [wpT] at w
      exact main (fun d env' => truD d fun k => K k env') R env F O σ H Q s hh w ok ox
/-- repr of a display whose items are only looked at -/
theorem st_rprL {as : Es} {es : List Expr} {q p r : PySem.Pos} (C : Cok L c X W) (hx : glob c (Str.ofString "repr") = true) (ha : PA X es (tBs (sigOf L me) X.mg W as)) : PE X (.Call (.Name (Str.ofString "repr") q) [.List es r] [] p) (tE (sigOf L me) X.mg W (.rpr false as)) := by
  obtain ⟨g1, g2⟩ := C.glob hx
  have cb : CallR X (.builtin "repr") (anyC X (.builtin "repr")) := anyC_ok
  have pe := pe_callB (pos := p) (p := q) cb g1 (C.bn (by decide)) (by decide +kernel) (pa_cons (pe_lst (pos := r) ha) pa_nil rfl) (by decide) g2 rfl rfl
  refine PE.weak pe fun σ H Q ⟨env, F, O, K, R, s, hh, w, ok, ox⟩ => ?_
  simp only [wpE] at w
  refine ⟨env, F, O, _, R, s, hh, w, fun ds env1 w1 F1 Od Oe vs H1 n1 b1 s1 => ?_, ox⟩
  obtain ⟨st, hz, h1, h2, h3, hk⟩ := w1
  obtain ⟨A, rA, iA⟩ := borsUse s1 b1 st (Sub.refl _) n1.held
  refine ⟨by rw [← rA.len]; exact hz, fun a hn => ?_⟩
  have n5 := Next.newF n1.held hn (.lst vs)
  have iA' : Own.inH A (upd H1 a (.lst vs)) := fun x hx => by
    have e := iA x hx
    rw [upd_ne (fun z => by rw [z, hn] at e; cases e)]; exact e
  have sub : Sub F1 (upd H1 a (.lst vs)) := n1.held.f.trans (fun b u e => by
      rw [upd_ne (fun z => by rw [z, hn] at e; cases e)]; exact e)
  have rp : Rep F1 (.lst true ds) (.ref a) ((a, .lst vs) :: A) := .own rA
  exact ⟨_, cr_repr C.hg C.hu, F1, _, _, _, rfl, rp, sub, fun p hp => (by
    rcases List.mem_cons.mp hp with rfl | hp
    · exact upd_same
    · exact iA' p hp), h1, h2, h3, ok _ env1 hk _ [] Oe _ _ (n1.trans n5).drop (.str _) (s1.mono n5.f)⟩
theorem st_rprT {as : Es} {es : List Expr} {k : Nat} {q p r : PySem.Pos} (C : Cok L c X W) (hx : glob c (Str.ofString "repr") = true) (ha : PA X es (tBs (sigOf L me) X.mg W as)) : PE X (.Call (.Name (Str.ofString "repr") q) [.Tuple es k r] [] p) (tE (sigOf L me) X.mg W (.rpr true as)) := by
  obtain ⟨g1, g2⟩ := C.glob hx
  have cb : CallR X (.builtin "repr") (anyC X (.builtin "repr")) := anyC_ok
  have pe := pe_callB (pos := p) (p := q) cb g1 (C.bn (by decide)) (by decide +kernel) (pa_cons (show PE X (.Tuple es k r) _ from pe_tup ha) pa_nil rfl) (by decide) g2 rfl rfl
  refine PE.weak pe fun σ H Q ⟨env, F, O, K, R, s, hh, w, ok, ox⟩ => ?_
  simp only [wpE] at w
  refine ⟨env, F, O, _, R, s, hh, w, fun ds env1 w1 F1 Od Oe vs H1 n1 b1 s1 => ?_, ox⟩
  obtain ⟨st, hz, h1, h2, h3, hk⟩ := w1
  obtain ⟨A, rA, iA⟩ := borsUse s1 b1 st (Sub.refl _) n1.held
  refine ⟨by rw [← rA.len]; exact hz, fun a hn => ?_⟩
  have n5 := Next.newF n1.held hn (.tup vs)
  have iA' : Own.inH A (upd H1 a (.tup vs)) := fun x hx => by
    have e := iA x hx
    rw [upd_ne (fun z => by rw [z, hn] at e; cases e)]; exact e
  exact ⟨_, cr_repr C.hg C.hu, _, _, _, _, rfl, Rep.tup upd_same (rA.mono n5.f), n5.held.f, iA', h1, h2, h3, ok _ env1 hk _ [] Oe _ _ (n1.trans n5).drop (.str _) (s1.mono n5.f)⟩
theorem st_isi {a : E} {t : String} {a' : Expr} {q r p : PySem.Pos} (C : Cok L c X W) (hx : glob c (Str.ofString "isinstance") = true) (hy : glob c (Str.ofString t) = true) (ht : tyNames.contains t = true) (hc : chkE c a a' = true)
    (ha : PE X a' (tB (sigOf L me) X.mg W a)) : PE X (.Call (.Name (Str.ofString "isinstance") q) [a', .Name (Str.ofString t) r] [] p) (fun σ H Q => ∃ (env : Env) (F : Hp) (O : Own) (R : KX) (K : Bool → Env → Prop), SimE F env σ O ∧ Held F O H ∧ (bor a (fun Q' => wpE (sigOf L me) a env Q' R) env fun x env1 => ∃ b, isiD x t = some b ∧ K b env1) ∧
      (∀ b env', K b env' → ∀ F' Oe H', Next F O H F' Oe H' → SimE F' env' σ Oe → Q (.bl b) H') ∧ okX X.mg W F O σ H R) := by
  obtain ⟨g1, g2⟩ := C.glob hx
  obtain ⟨g3, g4⟩ := C.glob hy
  have tn : t ∈ tyNames := by simpa using ht
  have tb : t ∈ bnames ∧ PySem.bootBuiltins (Str.ofString t) = some (.type t) ∧ Str.ofString t ≠ "__name__" := by
    have h6 : t = "int" ∨ t = "bool" ∨ t = "str" ∨ t = "list" ∨ t = "tuple" ∨ t = "dict" := by simpa [tyNames] using tn
    rcases h6 with rfl | rfl | rfl | rfl | rfl | rfl <;> exact ⟨by decide, by decide +kernel, by decide⟩
  have tyE : PE X (.Name (Str.ofString t) r) (tC (.ty t)) := pe_bltn g3 (C.bn tb.1) tb.2.1 rfl tb.2.2 g4
  have cb : CallR X (.builtin "isinstance") (anyC X (.builtin "isinstance")) := anyC_ok
  have pe := pe_callB (pos := p) (p := q) cb g1 (C.bn (by decide)) (by decide +kernel) (pa_cons ha (pa_cons tyE pa_nil) (star_cons (chk_star hc))) (by decide) g2 (star_cons (chk_star hc)) (by rfl)
  refine PE.weak pe fun σ H Q ⟨env, F, O, R, K, s, hh, w, ok, ox⟩ => ?_
  refine ⟨env, F, O, _, R, s, hh, w, fun d1 env1 w1 F1 Od1 Oe1 v1 H1 n1 b1 s1 => ?_, ox⟩
  obtain ⟨b, e1, hk⟩ := w1
  obtain ⟨A, rA, iA⟩ := borNow b1 s1 n1.held
  exact isi_ok e1 rA n1.held.f iA (ok b env1 hk F1 Oe1 H1 n1.drop s1)

/-! ### classes of errors -/
omit [CT] in
theorem lkm {α β : Type} [BEq α] [LawfulBEq α] {a : α} {b : β} : ∀ {l : List (α × β)}, l.lookup a = some b → (a, b) ∈ l
  | [], h => by cases h
  | (x, y) :: l, h => by
    rw [List.lookup_cons] at h
    cases q : a == x with
    | true =>
      rw [q] at h
      cases h
      rw [eq_of_beq q]
      exact List.mem_cons_self
    | false =>
      rw [q] at h
      exact List.mem_cons_of_mem _ (lkm h)
omit [CT] in
theorem subX_ve {k : String} (h : (excTab.lookup k).isSome = true) : subX k "ValueError" = some true := by
  obtain ⟨l, e⟩ := Option.isSome_iff_exists.mp h
  have m := lkm e
  have all : ∀ q ∈ excTab, q.2.contains "ValueError" = true := by decide
  unfold subX
  rw [e]
  exact congrArg some (all _ m)
/-- the name of a class, read -/
theorem cls_read (C : Cok L c X W) {k : String} {r : PySem.Pos} (hg : glob c (Str.ofString k) = true) (hk : k ∈ c.cls ∨ k = "ValueError") :
    ∃ v cv, PE X (.Name (Str.ofString k) r) (tC v) ∧ ClsV v cv ∧ ∀ cc CC, CT.cat cc = some CC → PySem.W.kitOne X.K (.ref CC) cv = subX cc k := by
  obtain ⟨g1, g2⟩ := C.glob hg
  rcases hk with hk | rfl
  · obtain ⟨D, hD⟩ := C.xw.at_ k hk
    have o := C.xw.one k D hD
    exact ⟨.ref D, .ref D, pe_glob g1 o.gC rfl g2, .own D, fun cc CC hc => (C.xw.two cc CC k D hc hD).1⟩
  · refine ⟨.ty "ValueError", .type "ValueError", pe_bltn g1 (C.bn (by decide)) (by decide +kernel) rfl (by decide) g2, .ty _, fun cc CC hc => ?_⟩
    rw [(C.xw.one cc CC hc).ve, subX_ve (C.xw.tab cc CC hc)]
theorem clss_read (C : Cok L c X W) : ∀ {ks : List String} {ys : List Expr}, clsNs c ks ys = true → ∃ vs us, PA X ys (fun σ H Q => Q vs H) ∧ Paired ClsV vs us ∧ vs.length = ks.length ∧ ∀ cc CC b, CT.cat cc = some CC → subXs cc ks = some b → PySem.W.kitAny X.K (.ref CC) us = some b
  | [], [], _ => ⟨[], [], ⟨fun pos pins s σ H Q I q => pa_nil.run pos pins s σ H Q I q⟩, .nil, rfl, fun cc CC b _ e => by cases e; exact kitAny_nil⟩
  | [], _ :: _, h => by simp [clsNs] at h
  | _ :: _, [], h => by simp [clsNs] at h
  | k :: ks, y :: ys, h => by
    cases y with
    | Name x p =>
      simp only [clsNs, Bool.and_eq_true] at h
      obtain ⟨h1, h2⟩ := h
      obtain ⟨rfl, q1, q2⟩ := clsN_inv h1
      obtain ⟨v, cv, e1, e2, e3⟩ := cls_read C (r := p) q1 q2
      obtain ⟨vs, us, f1, f2, f3, f4⟩ := clss_read C h2
      refine ⟨v :: vs, cv :: us, ⟨fun pos pins s σ H Q I q => (pa_cons e1 f1 rfl).run pos pins s σ H Q I q⟩, .cons e2 f2, by simp [f3], fun cc CC b hc e => ?_⟩
      unfold subXs at e
      cases q : subX cc k with
      | none => rw [q] at e; cases e
      | some b1 =>
        rw [q] at e
        cases b1 with
        | true =>
          have e' : some true = some b := e
          cases e'
          exact kitAny_cons ((e3 cc CC hc).trans q) (fun z => by cases z) fun _ => rfl
        | false => exact kitAny_cons ((e3 cc CC hc).trans q) (fun _ => f4 cc CC b hc e) (fun z => by cases z)
    | _ => simp [clsNs] at h
omit [CT] in
theorem xdAt_of {F H : Hp} {dd : Option Addr} {fs : List String} {vs : List V} (x : XdOf F dd fs vs) (s : Sub F H) : xdAt H dd := by
  cases dd with
  | none => trivial
  | some dx => exact ⟨_, s _ _ x⟩
theorem isx_ok {x : D} {ks : List String} {b : Bool} {F H : Hp} {A : Own} {v : V} (C : Cok L c X W) (w : isxD x ks = some b) (r : Rep F x v A) (s : Sub F H) :
    ∃ a CC dd cls, v = .ref a ∧ H a = some (exV (.ref CC) dd a) ∧ xdAt H dd ∧ XcC X.K CC ∧ CT.cat cls = some CC ∧ subXs cls ks = some b := by
  cases r with
  | exc hc e x r l => exact ⟨_, _, _, _, rfl, s _ _ e, xdAt_of x s, (C.xw.one _ _ hc).xC, hc, w⟩
  | _ => cases w
omit [CT] in
theorem subXs_one {cc k : String} {b : Bool} (h : subXs cc [k] = some b) : subX cc k = some b := by
  unfold subXs at h
  cases q : subX cc k with
  | none => rw [q] at h; cases h
  | some b1 =>
    rw [q] at h
    cases b1 with
    | true =>
      have e : some true = some b := h
      rw [← e]
    | false =>
      have e : some false = some b := h
      rw [← e]
theorem st_isc {a : E} {ks : List String} {ex : Expr} (C : Cok L c X W) (h : chkE c (.isc a ks) ex = true) (ha : ∀ e, chkE c a e = true → PE X e (tB (sigOf L me) X.mg W a)) : PE X ex (fun σ H Q => ∃ (env : Env) (F : Hp) (O : Own) (R : KX) (K : Bool → Env → Prop), SimE F env σ O ∧ Held F O H ∧ (bor a (fun Q' => wpE (sigOf L me) a env Q' R) env fun x env1 => ∃ b, isxD x ks = some b ∧ K b env1) ∧
      (∀ b env', K b env' → ∀ F' Oe H', Next F O H F' Oe H' → SimE F' env' σ Oe → Q (.bl b) H') ∧ okX X.mg W F O σ H R) := by
  obtain ⟨a', q, r, p, ⟨rfl, hx, hc⟩, hk⟩ := chk_isc h
  obtain ⟨g1, g2⟩ := C.glob hx
  have cb : CallR X (.builtin "isinstance") (anyC X (.builtin "isinstance")) := anyC_ok
  rcases hk with ⟨k, r0, rfl, rfl, k1, k2⟩ | ⟨ys, j, r0, rfl, k1, k2⟩
  · obtain ⟨v, cv, e1, e2, e3⟩ := cls_read C (r := r0) k1 k2
    have pe := pe_callB (pos := p) (p := q) cb g1 (C.bn (by decide)) (by decide +kernel) (pa_cons (ha a' hc) (pa_cons e1 pa_nil) (star_cons (chk_star hc))) (by decide) g2 (star_cons (chk_star hc)) (by rfl)
    refine PE.weak pe fun σ H Q ⟨env, F, O, R, K, s, hh, w, ok, ox⟩ => ?_
    refine ⟨env, F, O, _, R, s, hh, w, fun d1 env1 w1 F1 Od1 Oe1 v1 H1 n1 b1 s1 => ?_, ox⟩
    obtain ⟨b, e4, hk⟩ := w1
    obtain ⟨A, rA, iA⟩ := borNow b1 s1 n1.held
    obtain ⟨t, CC, dd, cls, rfl, i1, i2, i3, i4, i5⟩ := isx_ok C e4 rA n1.held.f
    exact ⟨_, call_isX, t, CC, dd, v, cv, b, rfl, i1, i2, i3, e2, (e3 cls CC i4).trans (subXs_one i5), ok b env1 hk F1 Oe1 H1 n1.drop s1⟩
  · obtain ⟨vs, us, f1, f2, f3, f4⟩ := clss_read C k1
    have pe := pe_callB (pos := p) (p := q) cb g1 (C.bn (by decide)) (by decide +kernel) (pa_cons (ha a' hc) (pa_cons (show PE X (.Tuple ys j r0) _ from pe_tup f1) pa_nil rfl) (star_cons (chk_star hc))) (by decide) g2 (star_cons (chk_star hc)) (by rfl)
    refine PE.weak pe fun σ H Q ⟨env, F, O, R, K, s, hh, w, ok, ox⟩ => ?_
    refine ⟨env, F, O, _, R, s, hh, w, fun d1 env1 w1 F1 Od1 Oe1 v1 H1 n1 b1 s1 => ?_, ox⟩
    refine ⟨by rw [f3]; exact Nat.le_trans k2 (by decide), fun tp hn => ?_⟩
    obtain ⟨b, e4, hk⟩ := w1
    obtain ⟨A, rA, iA⟩ := borNow b1 s1 n1.held
    have n5 := Next.newF n1.held hn (.tup vs)
    obtain ⟨t, CC, dd, cls, rfl, i1, i2, i3, i4, i5⟩ := isx_ok C e4 (rA.mono n5.f) n5.held.f
    exact ⟨_, call_isXT, t, CC, dd, tp, vs, us, b, rfl, i1, i2, i3, upd_same, f2, f4 cls CC b i4 i5, ok b env1 hk _ Oe1 _ (n1.trans n5).drop (s1.mono n5.f)⟩
theorem st_att {a : E} {f : String} {a' : Expr} {p : PySem.Pos} (C : Cok L c X W) (hf : f = "index" ∨ f = "word") (ha : PE X a' (tB (sigOf L me) X.mg W a)) (hb : PySem.attributeBase a' (Str.ofString f) X.env (PySem.eval a' X.env) = PySem.eval a' X.env) :
    PE X (.Attribute a' (Str.ofString f) p) (tE (sigOf L me) X.mg W (.att a f)) := by
  refine PE.weak (pe_att ha hb) fun σ H Q ⟨env, F, O, K, R, s, hh, w, ok, ox⟩ => ?_
  simp only [wpE] at w
  refine ⟨env, F, O, _, R, s, hh, w, fun d1 env1 w1 F1 Od1 Oe1 v1 H1 n1 b1 s1 => ?_, ox⟩
  obtain ⟨el, e4, hk⟩ := w1
  obtain ⟨A, rA, iA⟩ := borNow b1 s1 n1.held
  cases rA with
  | @exc t0 C0 dxo cc fs0 vs0 ds0 hc e x r l =>
    obtain ⟨l1, l2⟩ := l
    have o := C.xw.one _ _ hc
    have mk := o.made
    unfold fldsOf at l2
    split at l2
    · subst l2
      simp [attD] at e4
    · rename_i f0 hf0
      subst l2
      rw [hf0] at mk
      obtain ⟨fI, fd, fl, _, _⟩ := mk
      obtain ⟨dd0, rfl⟩ := List.length_eq_one_iff.mp l1.symm
      obtain ⟨vv0, us, rfl, r1, r2⟩ := r.nil_cons
      have hu : us = [] := List.length_eq_zero_iff.mp r2.len.symm
      subst hu
      have hf2 : f = f0 := by
        by_cases z : f = f0
        · exact z
        · have z' : (f == f0) = false := by simpa using z
          simp [attD, List.lookup, z'] at e4
      subst hf2
      have e5 : el = dd0 := by simpa [attD, List.lookup] using e4.symm
      subst e5
      cases dxo with
      | none =>
        have x' : [f] = [] := x
        cases x'
      | some dx =>
        refine ⟨_, _, dx, _, vv0, rfl, n1.held.f _ _ e, o.xC, fl.no, n1.held.f _ _ x, ?_, ?_⟩
        · simp [List.lookup]
        · exact ok el.fz env1 hk F1 [] Oe1 vv0 H1 n1.drop (r1.froz (Sub.refl _) fun p hp => by cases hp) s1
  | _ => cases e4
theorem st_dnw {p : PySem.Pos} : PE X (.Dict [] [] p) (tE (sigOf L me) X.mg W .dnw) := by
  refine PE.weak pe_dnewK fun σ H Q ⟨env, F, O, K, R, s, hh, w, ok, ox⟩ => ?_
  simp only [wpE] at w
  intro d hd
  have r : Rep F (.dct true [] []) (.ref d) ((d, .dK (([] : List L2.Key).zip ([] : List V))) :: []) := .dow .nil rfl
  exact ok _ env w F [(d, .dK [])] O _ _ (Next.newO hh hd (.dK [])) r s
end
end DP

/-! DpL: targets, iterators, comprehensions, keyword calls: the steps. -/
namespace DP
open PySem (Addr sizeLine wpAny model Value Shared Around FuncData BindsTo codeAny Str Paired Expr)
open PySem.W (Frag)
open L2
variable [CT]

section
variable {L : List Ent} {c : SC} {X : Cx} {W : WX} {me : List Nat}
/-! ### targets -/
theorem PG.or {tg : Expr} {t u : TG} (h : PG X tg t) (k : PG X tg u) : PG X tg (fun v σ H Q => t v σ H Q ∨ u v σ H Q) := ⟨fun pins s σ H v x Q I r q => q.elim (h.run pins s σ H v x Q I r) (k.run pins s σ H v x Q I r)⟩
theorem chkT_ae {t : T} {e : Expr} {es : List Expr} {env : PySem.Env} (h : chkT c t e = true) : PySem.assignEach (e :: es) env = (false, PySem.assign e env) :: PySem.assignEach es env := by
  cases e <;> first | rfl | (cases t <;> simp [chkT] at h)
def Ts.len : Ts → Nat
  | .nil => 0
  | .cons _ ts => ts.len + 1
theorem chkTs_ae {env : PySem.Env} : ∀ {ts : Ts} {es : List Expr}, chkTs c ts es = true → (PySem.assignEach es env).length = ts.len ∧ (PySem.assignEach es env).findIdx? (·.1) = none
  | .nil, [], _ => ⟨rfl, rfl⟩
  | .cons t ts, e :: es, h => by
    simp only [chkTs, Bool.and_eq_true] at h
    rw [chkT_ae h.1]
    obtain ⟨h1, h2⟩ := chkTs_ae (env := env) h.2
    refine ⟨by rw [List.length_cons, h1]; rfl, ?_⟩
    rw [List.findIdx?_cons, h2]; rfl
  | .nil, _ :: _, h => by simp [chkTs] at h
  | .cons _ _, [], h => by simp [chkTs] at h
mutual
theorem setT_ex : ∀ {t : T} {d : D} {env : Env} {P : Env → Prop}, setT me t d env P → ∃ e, P e
  | .nm i, d, env, P, h => ⟨_, h.2.2⟩
  | .tp ts, .tup ds, env, P, h => (setTs_ex (ts := ts) h).2
  | .tp ts, .lst _ ds, env, P, h => (setTs_ex (ts := ts) h).2
  | .tp _, .non, _, _, h => by simp only [setT] at h
  | .tp _, .bl _, _, _, h => by simp only [setT] at h
  | .tp _, .int _, _, _, h => by simp only [setT] at h
  | .tp _, .str _, _, _, h => by simp only [setT] at h
theorem setTs_ex : ∀ {ts : Ts} {ds : List D} {env : Env} {P : Env → Prop}, setTs me ts ds env P → ds.length = ts.len ∧ ∃ e, P e
  | .nil, [], env, P, h => ⟨rfl, _, h⟩
  | .cons t ts, d :: ds, env, P, h => by
    obtain ⟨e, h2⟩ := setT_ex (t := t) h
    obtain ⟨l, e2⟩ := setTs_ex (ts := ts) h2
    exact ⟨by rw [List.length_cons, l]; rfl, e2⟩
  | .nil, _ :: _, _, _, h => by simp only [setTs] at h
  | .cons _ _, [], _, _, h => by simp only [setTs] at h
end
theorem Chg.nm {σ : St} {i : Nat} {o : Option V} (h : i ∉ me) : Chg me [i] σ (σ.set i o) := Chg.one h
theorem gs_name {i : Nat} {x : Str} {p : PySem.Pos} (C : Cok L c X W) (h : mine c i x = true) : PG X (.Name x p) (gT me (.nm i)) := by
  obtain ⟨h1, h2, h3⟩ := C.mine h
  refine PG.weak (pg_name C.nd h1 h2 h3) fun v σ H Q ⟨env, F, Od, Oe, d, K, s, hh, r, w, ok⟩ => ?_
  obtain ⟨w1, w2, w3⟩ := w
  obtain ⟨Z, B, C', k1, k2, k3⟩ := s.store w2 r
  refine ok _ w3 F C' _ H (Next.keep (Z := Z) hh ?_) k1 (Chg.one w1)
  exact ((List.Perm.append_left Od k2).trans perm3).trans (List.Perm.append_left Z k3.symm)
theorem gs_nil : PGs X [] (gTs me .nil) := by
  refine PGs.weak pgs_nil fun vs σ H Q ⟨env, F, Od, Oe, ds, K, s, hh, r, w, ok⟩ => ?_
  cases ds with
  | nil => cases r; exact ⟨rfl, ok env w F Oe σ H (Next.refl hh) s (Chg.refl _ _ _)⟩
  | cons _ _ => exact w.elim
theorem gs_cons {t : T} {ts : Ts} {e : Expr} {es : List Expr} (h1 : PG X e (gT me t)) (h2 : PGs X es (gTs me ts)) (hc : chkT c t e = true) : PGs X (e :: es) (gTs me (.cons t ts)) := by
  refine PGs.weak (pgs_cons h1 h2 (by rw [chkT_ae hc]; rfl)) fun vs σ H Q ⟨env, F, Od, Oe, ds, K, s, hh, r, w, ok⟩ => ?_
  cases ds with
  | nil => exact w.elim
  | cons d ds =>
    cases r with
    | @cons _ v _ vs O1 O2 r1 r2 =>
      have w' : setT me t d env fun env' => setTs me ts ds env' K := w
      have hp : (O1 ++ O2 ++ Oe).Perm (O2 ++ (O1 ++ Oe)) := by rw [List.append_assoc]; exact perm3
      have hh' := hh.perm hp
      refine ⟨v, vs, rfl, env, F, O1, Oe, d, _, s, hh'.right, r1, w', fun env' w2 F' O' σ' H' n s' ch => ?_⟩
      have nf := Next.frame hh' n
      refine ⟨env', F', O2, O', ds, K, s', nf.held, r2.mono n.f, w2, fun env2 k2 F2 O2' σ2 H2 n2 s2 ch2 => ?_⟩
      exact ok env2 k2 F2 O2' σ2 H2 ((nf.perm_from hp.symm).trans n2) s2 ((ch.wide fun j hj => List.mem_append_left _ hj).trans (ch2.wide fun j hj => List.mem_append_right _ hj))
theorem gs_tup {ts : Ts} {es : List Expr} {k : Nat} {p : PySem.Pos} (C : Cok L c X W) (hot : c.hot = false) (h : PGs X es (gTs me ts)) (hc : chkTs c ts es = true) : PG X (.Tuple es k p) (gT me (.tp ts)) := by
  obtain ⟨a1, a2⟩ := chkTs_ae (env := X.env) hc
  refine PG.weak (PG.or (pg_tup (n := ts.len) (C.calm hot) h a1 a2) (pg_lst (n := ts.len) (C.calm hot) h a1 a2)) fun v σ H Q ⟨env, F, Od, Oe, d, K, s, hh, r, w, ok⟩ => ?_
  cases d with
  | tup ds =>
    obtain ⟨w1, w2⟩ : ds.length = ts.len ∧ setTs me ts ds env K := by
      have w0 : setTs me ts ds env K := by simpa only [setT] using w
      exact ⟨(setTs_ex w0).1, w0⟩
    obtain ⟨a, vs, rfl, _, e2, q⟩ := r.tupI hh
    exact .inl ⟨a, vs, rfl, SqT.of e2, by rw [← q.len]; exact w1, env, F, Od, Oe, ds, K, s, hh, q, w2, ok⟩
  | lst o ds =>
    obtain ⟨w1, w2⟩ : ds.length = ts.len ∧ setTs me ts ds env K := by
      have w0 : setTs me ts ds env K := by simpa only [setT] using w
      exact ⟨(setTs_ex w0).1, w0⟩
    obtain ⟨a, vs, O', rfl, e2, q, ⟨Z, p⟩, _⟩ := r.lstI hh
    have n := Next.keep2 hh p
    exact .inr ⟨a, vs, rfl, SqL.rd e2, by rw [← q.len]; exact w1, env, F, O', Oe, ds, K, s, n.held, q, w2, fun env2 k2 F2 O2' σ2 H2 n2 s2 ch2 => ok env2 k2 F2 O2' σ2 H2 (n.trans n2) s2 ch2⟩
  | _ => exact (show False from by simp only [setT] at w).elim
end
end DP

/-! DpM: iterators, comprehensions, keyword calls: the steps. -/
namespace DP
open PySem (Addr sizeLine wpAny model Value Shared Around FuncData BindsTo codeAny Str Paired Expr)
open PySem.W (Frag)
open L2
variable [CT]

section
variable {L : List Ent} {c : SC} {X : Cx} {W : WX} {me : List Nat}
/-! ### iterators -/
def iAny (K : Frag) (ta : TE) : TI := fun σ H R => ta σ H fun x H1 => (∃ a xs, x = .ref a ∧ SqL K H1 a xs ∧ R (Itl K a) H1) ∨ (∃ a xs, x = .ref a ∧ SqT K H1 a xs ∧ R (Itt K a) H1) ∨ ∃ z, x = .str z ∧ R (Its z) H1
theorem pi_any {tg a : Expr} {ta : TE} (ha : PE X a ta) : PI X tg a (iAny X.K ta) := by
  refine ⟨fun pins s σ H R I h => ?_⟩
  refine thn (ha.run pins s σ H _ I h) fun v s1 ⟨x, H1, I1, r1, q1⟩ => ?_
  rcases q1 with ⟨l, xs, rfl, hq, q⟩ | ⟨l, xs, rfl, hq, q⟩ | ⟨z, rfl, q⟩
  · cases r1; exact iter_list I1 hq q
  · cases r1; exact iter_tup I1 hq q
  · obtain ⟨t, rfl⟩ := r1; exact iter_str I1 q
theorem frz_lst {F : Hp} {o : Bool} {xs : List D} {v : V} (r : Rep F (D.lst o xs).fz v []) : ∃ a vs, v = .ref a ∧ Rd F a (.lst vs) ∧ RepL F (fzL xs) vs [] := by
  rw [D.fz] at r
  cases r with
  | fro e q => exact ⟨_, _, rfl, e, q⟩
theorem frz_tup {F : Hp} {xs : List D} {v : V} (r : Rep F (D.tup xs).fz v []) : ∃ a vs, v = .ref a ∧ F a = some (.tup vs) ∧ RepL F (fzL xs) vs [] := by
  rw [D.fz] at r
  cases r with
  | tup e q => exact ⟨_, _, rfl, e, q⟩
theorem lstD_eq {d : D} {xs : List D} (h : lstD d = some xs) : ∃ o, d = .lst o xs := by
  cases d <;> first | (cases h; done) | (cases h; exact ⟨_, rfl⟩)
theorem SqL.rd' {K : Frag} {H : Hp} {a : Addr} {xs : List V} (r : Rd H a (.lst xs)) : SqL K H a xs := .inl r
theorem si_ex {tg : Expr} {a : E} {e : Expr} (ha : PE X e (tE (sigOf L me) X.mg W a)) : PI X tg e (tI (sigOf L me) X.mg W (.ex a)) := by
  refine PI.weak (pi_any ha) fun σ H R ⟨env, F, O, K, R', s, hh, w, ok, ox⟩ => ?_
  simp only [wpI] at w
  refine ⟨env, F, O, _, R', s, hh, w, fun d1 env1 w1 F1 Od1 Oe1 v1 H1 n1 r1 s1 => ?_, ox⟩
  obtain ⟨xs, e1, hk⟩ := w1
  have nz := Next.freeze n1.held
  have rz := r1.frozen n1.held
  have nn := n1.trans nz
  have s2 := s1.mono nz.f
  cases d1 with
  | lst o ys =>
    cases e1
    obtain ⟨a, vs, rfl, e2, q⟩ := frz_lst rz
    exact .inl ⟨a, vs, rfl, .inl (nn.held.f.rd e2), ok _ env1 hk _ Oe1 _ H1 nn s2 (Walk.list e2 q)⟩
  | tup ys =>
    cases e1
    obtain ⟨a, vs, rfl, e2, q⟩ := frz_tup rz
    exact .inr (.inl ⟨a, vs, rfl, SqT.of (nn.held.f _ _ e2), ok _ env1 hk _ Oe1 _ H1 nn s2 (Walk.tup e2 q)⟩)
  | str z =>
    cases e1
    obtain ⟨rfl, _⟩ := r1.strI
    have ez : fzL (z.cps.toList.map fun c => D.str ⟨#[c]⟩) = z.cps.toList.map fun c => D.str ⟨#[c]⟩ := by
      rw [fzL_map, List.map_map]; rfl
    rw [ez] at hk
    exact .inr (.inr ⟨z, rfl, ok _ env1 hk _ Oe1 _ H1 nn s2 Walk.str⟩)
  | _ => cases e1
variable {tg : Expr}
theorem si_rng1 {a : E} {e : Expr} {q p : PySem.Pos} (C : Cok L c X W) (hx : glob c (Str.ofString "range") = true) (hc : chkE c a e = true) (ha : PE X e (tE (sigOf L me) X.mg W a)) : PI X tg (.Call (.Name (Str.ofString "range") q) [e] [] p) (tI (sigOf L me) X.mg W (.rng1 a)) := by
  refine PI.weak (pi_range1 (C.glob hx).1 (C.bn (by decide)) (pa_cons ha pa_nil (star_cons (chk_star hc))) (star_cons (chk_star hc))) fun σ H R ⟨env, F, O, K, R', s, hh, w, ok, ox⟩ => ?_
  simp only [wpI] at w
  refine ⟨env, F, O, _, R', s, hh, w, fun d1 env1 w1 F1 Od1 Oe1 v1 H1 n1 r1 s1 => ?_, ox⟩
  obtain ⟨n, rfl, b1, b2, hk⟩ := w1
  obtain ⟨rfl, rfl⟩ := r1.intI
  exact ⟨n, rfl, b1, b2, ok _ env1 hk _ Oe1 _ H1 n1 s1 Walk.rng⟩
theorem si_rng2 {a b : E} {e f : Expr} {q p : PySem.Pos} (C : Cok L c X W) (hx : glob c (Str.ofString "range") = true) (hc : chkE c a e = true) (hd : chkE c b f = true) (ha : PE X e (tE (sigOf L me) X.mg W a)) (hb : PE X f (tE (sigOf L me) X.mg W b)) :
    PI X tg (.Call (.Name (Str.ofString "range") q) [e, f] [] p) (tI (sigOf L me) X.mg W (.rng2 a b)) := by
  have h1 : PySem.starEach [f] X.env = [(false, PySem.eval f X.env)] := star_cons (chk_star hd)
  have h2 : PySem.starEach [e, f] X.env = [(false, PySem.eval e X.env), (false, PySem.eval f X.env)] := by rw [star_cons (chk_star hc), h1]
  refine PI.weak (pi_range2 (C.glob hx).1 (C.bn (by decide)) (pa_cons ha (pa_cons hb pa_nil h1) (star_cons (chk_star hc))) h2 h1) fun σ H R ⟨env, F, O, K, R', s, hh, w, ok, ox⟩ => ?_
  simp only [wpI] at w
  refine ⟨env, F, O, _, R', s, hh, w, fun d1 env1 w1 F1 Od1 Oe1 v1 H1 n1 r1 s1 => ?_, ox⟩
  refine ⟨env1, F1, Oe1, _, R', s1, n1.held.right, w1, fun d2 env2 w2 F2 Od2 Oe2 v2 H2 n2 r2 s2 => ?_, ox.step n1.drop⟩
  obtain ⟨i, j, rfl, rfl, b, hk⟩ := w2
  obtain ⟨rfl, rfl⟩ := r1.intI
  obtain ⟨rfl, rfl⟩ := r2.intI
  exact ⟨i, j, rfl, b, ok _ env2 hk _ Oe2 _ H2 (n1.drop.trans n2) s2 Walk.rng⟩
theorem si_rng3 {a b d : E} {e f g : Expr} {q p : PySem.Pos} (C : Cok L c X W) (hx : glob c (Str.ofString "range") = true) (hc : chkE c a e = true) (hd : chkE c b f = true) (he : chkE c d g = true) (ha : PE X e (tE (sigOf L me) X.mg W a)) (hb : PE X f (tE (sigOf L me) X.mg W b))
    (hg : PE X g (tE (sigOf L me) X.mg W d)) : PI X tg (.Call (.Name (Str.ofString "range") q) [e, f, g] [] p) (tI (sigOf L me) X.mg W (.rng3 a b d)) := by
  have h1 : PySem.starEach [g] X.env = [(false, PySem.eval g X.env)] := star_cons (chk_star he)
  have h2 : PySem.starEach [f, g] X.env = [(false, PySem.eval f X.env), (false, PySem.eval g X.env)] := by rw [star_cons (chk_star hd), h1]
  refine PI.weak (pi_range3 (C.glob hx).1 (C.bn (by decide)) (pa_cons ha (pa_cons hb (pa_cons hg pa_nil h1) (star_cons (chk_star hd))) (star_cons (chk_star hc))) (star_cons (chk_star hc)) (by rw [h2]; rfl)) fun σ H R ⟨env, F, O, K, R', s, hh, w, ok, ox⟩ => ?_
  simp only [wpI] at w
  refine ⟨env, F, O, _, R', s, hh, w, fun d1 env1 w1 F1 Od1 Oe1 v1 H1 n1 r1 s1 => ?_, ox⟩
  refine ⟨env1, F1, Oe1, _, R', s1, n1.held.right, w1, fun d2 env2 w2 F2 Od2 Oe2 v2 H2 n2 r2 s2 => ?_, ox.step n1.drop⟩
  refine ⟨env2, F2, Oe2, _, R', s2, n2.held.right, w2, fun d3 env3 w3 F3 Od3 Oe3 v3 H3 n3 r3 s3 => ?_, ox.step (n1.drop.trans n2.drop)⟩
  obtain ⟨i, j, k, n, rfl, rfl, rfl, b, hk⟩ := w3
  obtain ⟨rfl, rfl⟩ := r1.intI
  obtain ⟨rfl, rfl⟩ := r2.intI
  obtain ⟨rfl, rfl⟩ := r3.intI
  exact ⟨i, j, k, n, rfl, b, ok _ env3 hk _ Oe3 _ H3 ((n1.drop.trans n2.drop).trans n3) s3 Walk.rngC⟩
theorem si_zip2 {a b : E} {e f : Expr} {q p : PySem.Pos} (C : Cok L c X W) (ht : isTupE tg = true) (hx : glob c (Str.ofString "zip") = true) (hc : chkE c a e = true) (hd : chkE c b f = true) (ha : PE X e (tE (sigOf L me) X.mg W a)) (hb : PE X f (tE (sigOf L me) X.mg W b)) :
    PI X tg (.Call (.Name (Str.ofString "zip") q) [e, f] [] p) (tI (sigOf L me) X.mg W (.zip2 a b)) := by
  have h1 : PySem.starEach [f] X.env = [(false, PySem.eval f X.env)] := star_cons (chk_star hd)
  cases tg with
  | Tuple ts k tp =>
    refine PI.weak (pi_zip (C.glob hx).1 (C.bn (by decide)) (pa_cons ha (pa_cons hb pa_nil h1) (star_cons (chk_star hc))) (star_cons (chk_star hc)) (by rw [h1]; rfl)) fun σ H R ⟨env, F, O, K, R', s, hh, w, ok, ox⟩ => ?_
    simp only [wpI] at w
    refine ⟨env, F, O, _, R', s, hh, w, fun d1 env1 w1 F1 Od1 Oe1 v1 H1 n1 r1 s1 => ?_, ox⟩
    refine ⟨env1, F1, Oe1, _, R', s1, n1.held.right, w1, fun d2 env2 w2 F2 Od2 Oe2 v2 H2 n2 r2 s2 => ?_, ox.step n1.drop⟩
    obtain ⟨xs, ys, l1, l2, hk⟩ := w2
    obtain ⟨o1, rfl⟩ := lstD_eq l1
    obtain ⟨o2, rfl⟩ := lstD_eq l2
    have nf := n1.trans (Next.frame n1.held n2)
    rw [← List.append_assoc] at nf
    have nz := Next.freeze nf.held
    have mz := addF_in (F := F2) nf.held.left.nd
    have z1 := (r1.mono n2.f).froz nz.f fun p hp => mz p (List.mem_append_left _ hp)
    have z2 := r2.froz nz.f fun p hp => mz p (List.mem_append_right _ hp)
    have nn := nf.trans nz
    obtain ⟨a1, vs, rfl, e2, q1⟩ := frz_lst z1
    obtain ⟨a2, us, rfl, e3, q2⟩ := frz_lst z2
    exact ⟨a1, a2, vs, us, rfl, .inl (nn.held.f.rd e2), .inl (nn.held.f.rd e3), ok _ env2 hk _ Oe2 _ H2 nn (s2.mono nz.f) (Walk.zip e2 q1 e3 q2)⟩
  | _ => simp [isTupE] at ht
theorem Walk.zip3 {K : PySem.W.Frag} {F : Hp} {a b d : Addr} {vs us ws : List V} {xs ys zs : List D} (e : Rd F a (.lst vs)) (r : RepL F xs vs []) (e' : Rd F b (.lst us)) (r' : RepL F ys us []) (e'' : Rd F d (.lst ws)) (r'' : RepL F zs ws []) :
    Walk F (((xs.zip ys).zip zs).map fun p => .tup [p.1.1, p.1.2, p.2]) (Itz3 K a b d) := by
  intro F0 O0 H i h s
  have eH : SqL K H a vs := .inl ((s.trans h.f).rd e)
  have eH' : SqL K H b us := .inl ((s.trans h.f).rd e')
  have eH'' : SqL K H d ws := .inl ((s.trans h.f).rd e'')
  refine ⟨fun t hd => ?_, fun hi => ⟨vs, us, ws, eH, eH', eH'', ?_⟩⟩
  · simp only [List.zip, List.getElem?_map, List.getElem?_zipWith] at hd
    cases q1 : xs[i]? with
    | none => rw [q1] at hd; cases hd
    | some x =>
      cases q2 : ys[i]? with
      | none => rw [q1, q2] at hd; cases hd
      | some y =>
        cases q3 : zs[i]? with
        | none => rw [q1, q2, q3] at hd; cases hd
        | some z =>
          rw [q1, q2, q3] at hd; cases hd
          obtain ⟨v, h1, h2⟩ := r.nth0 q1
          obtain ⟨u, k1, k2⟩ := r'.nth0 q2
          obtain ⟨t, l1, l2⟩ := r''.nth0 q3
          refine ⟨⟨vs, us, ws, v, u, t, eH, eH', eH'', h1, k1, l1⟩, fun z H'' w => ?_⟩
          obtain ⟨T, p, p', p'', rfl, hT, rfl, w1, w2, w3⟩ := w
          have z1 := w1 vs eH
          have z2 := w2 us eH'
          have z3 := w3 ws eH''
          rw [h1] at z1; rw [k1] at z2; rw [l1] at z3; cases z1; cases z2; cases z3
          have n := Next.newF h hT (.tup [v, u, t])
          exact ⟨_, n, .tup upd_same (.mk ((h2.mono s).mono n.f) (.mk ((k2.mono s).mono n.f) (.mk ((l2.mono s).mono n.f) .nil)))⟩
  · simp only [List.length_map, List.length_zip] at hi
    rw [← r.len, ← r'.len, ← r''.len]
    omega
theorem si_zip3 {a b d : E} {e f g : Expr} {q p : PySem.Pos} (C : Cok L c X W) (ht : isTupE tg = true) (hx : glob c (Str.ofString "zip") = true) (hc : chkE c a e = true) (hd : chkE c b f = true) (he : chkE c d g = true)
    (ha : PE X e (tE (sigOf L me) X.mg W a)) (hb : PE X f (tE (sigOf L me) X.mg W b)) (hg : PE X g (tE (sigOf L me) X.mg W d)) :
    PI X tg (.Call (.Name (Str.ofString "zip") q) [e, f, g] [] p) (tI (sigOf L me) X.mg W (.zip3 a b d)) := by
  have h1 : PySem.starEach [g] X.env = [(false, PySem.eval g X.env)] := star_cons (chk_star he)
  have h2 : PySem.starEach [f, g] X.env = [(false, PySem.eval f X.env), (false, PySem.eval g X.env)] := by rw [star_cons (chk_star hd), h1]
  cases tg with
  | Tuple ts k tp =>
    refine PI.weak (pi_zip3 (C.glob hx).1 (C.bn (by decide)) (pa_cons ha (pa_cons hb (pa_cons hg pa_nil h1) (star_cons (chk_star hd))) (star_cons (chk_star hc))) (star_cons (chk_star hc)) (by rw [h2]; rfl)) fun σ H R ⟨env, F, O, K, R', s, hh, w, ok, ox⟩ => ?_
    simp only [wpI] at w
    refine ⟨env, F, O, _, R', s, hh, w, fun d1 env1 w1 F1 Od1 Oe1 v1 H1 n1 r1 s1 => ?_, ox⟩
    refine ⟨env1, F1, Oe1, _, R', s1, n1.held.right, w1, fun d2 env2 w2 F2 Od2 Oe2 v2 H2 n2 r2 s2 => ?_, ox.step n1.drop⟩
    refine ⟨env2, F2, Oe2, _, R', s2, n2.held.right, w2, fun d3 env3 w3 F3 Od3 Oe3 v3 H3 n3 r3 s3 => ?_, ox.step (n1.drop.trans n2.drop)⟩
    obtain ⟨xs, ys, zs, l1, l2, l3, hk⟩ := w3
    obtain ⟨o1, rfl⟩ := lstD_eq l1
    obtain ⟨o2, rfl⟩ := lstD_eq l2
    obtain ⟨o3, rfl⟩ := lstD_eq l3
    have nf1 := n1.trans (Next.frame n1.held n2)
    rw [← List.append_assoc] at nf1
    have nf := nf1.trans (Next.frame nf1.held n3)
    rw [← List.append_assoc] at nf
    have nz := Next.freeze nf.held
    have mz := addF_in (F := F3) nf.held.left.nd
    have z1 := ((r1.mono n2.f).mono n3.f).froz nz.f fun p hp => mz p (List.mem_append_left _ (List.mem_append_left _ hp))
    have z2 := (r2.mono n3.f).froz nz.f fun p hp => mz p (List.mem_append_left _ (List.mem_append_right _ hp))
    have z3 := r3.froz nz.f fun p hp => mz p (List.mem_append_right _ hp)
    have nn := nf.trans nz
    obtain ⟨a1, vs, rfl, e2, q1⟩ := frz_lst z1
    obtain ⟨a2, us, rfl, e3, q2⟩ := frz_lst z2
    obtain ⟨a3, ws, rfl, e4, q3⟩ := frz_lst z3
    exact ⟨a1, a2, a3, vs, us, ws, rfl, .inl (nn.held.f.rd e2), .inl (nn.held.f.rd e3), .inl (nn.held.f.rd e4), ok _ env3 hk _ Oe3 _ H3 nn (s3.mono nz.f) (Walk.zip3 e2 q1 e3 q2 e4 q3)⟩
  | _ => simp [isTupE] at ht
theorem si_enum {a : E} {e : Expr} {q p : PySem.Pos} (C : Cok L c X W) (ht : isTupE tg = true) (hx : glob c (Str.ofString "enumerate") = true) (hc : chkE c a e = true) (ha : PE X e (tE (sigOf L me) X.mg W a)) :
    PI X tg (.Call (.Name (Str.ofString "enumerate") q) [e] [] p) (tI (sigOf L me) X.mg W (.enum a)) := by
  cases tg with
  | Tuple ts k tp =>
    refine PI.weak (pi_enum (C.glob hx).1 (C.bn (by decide)) (pa_cons ha pa_nil (star_cons (chk_star hc))) (star_cons (chk_star hc))) fun σ H R ⟨env, F, O, K, R', s, hh, w, ok, ox⟩ => ?_
    simp only [wpI] at w
    refine ⟨env, F, O, _, R', s, hh, w, fun d1 env1 w1 F1 Od1 Oe1 v1 H1 n1 r1 s1 => ?_, ox⟩
    obtain ⟨xs, l1, hk⟩ := w1
    obtain ⟨o1, rfl⟩ := lstD_eq l1
    have nz := Next.freeze n1.held
    have nn := n1.trans nz
    obtain ⟨a1, vs, rfl, e2, q1⟩ := frz_lst (r1.frozen n1.held)
    exact ⟨a1, vs, rfl, .inl (nn.held.f.rd e2), ok _ env1 hk _ Oe1 _ H1 nn (s1.mono nz.f) (Walk.enum e2 q1)⟩
  | _ => simp [isTupE] at ht
theorem si_enk {k : Int} {a : E} {e : Expr} {j : Nat} {q p r : PySem.Pos} (C : Cok L c X W) (ht : isTupE tg = true) (hx : glob c (Str.ofString "enumerate") = true) (hc : chkE c a e = true) (hk : 0 ≤ k ∧ k < 1000) (ha : PE X e (tE (sigOf L me) X.mg W a)) :
    PI X tg (.Call (.Name (Str.ofString "enumerate") q) [e, .Constant (.int k) j r] [] p) (tI (sigOf L me) X.mg W (.enk k a)) := by
  have h1 : PySem.starEach [Expr.Constant (.int k) j r] X.env = [(false, PySem.eval (.Constant (.int k) j r) X.env)] := rfl
  cases tg with
  | Tuple ts kk tp =>
    refine PI.weak (pi_enk (C.glob hx).1 (C.bn (by decide)) (pa_cons ha (pa_cons pe_int pa_nil h1) (star_cons (chk_star hc))) (star_cons (chk_star hc)) (by rw [h1]; rfl)) fun σ H R ⟨env, F, O, K, R', s, hh, w, ok, ox⟩ => ?_
    simp only [wpI] at w
    refine ⟨env, F, O, _, R', s, hh, w, fun d1 env1 w1 F1 Od1 Oe1 v1 H1 n1 r1 s1 => ?_, ox⟩
    obtain ⟨xs, l1, hk'⟩ := w1
    obtain ⟨o1, rfl⟩ := lstD_eq l1
    have nz := Next.freeze n1.held
    have nn := n1.trans nz
    obtain ⟨a1, vs, rfl, e2, q1⟩ := frz_lst (r1.frozen n1.held)
    exact ⟨k, a1, vs, rfl, .inl (nn.held.f.rd e2), by omega, by omega, ok _ env1 hk' _ Oe1 _ H1 nn (s1.mono nz.f) (Walk.enk e2 q1)⟩
  | _ => simp [isTupE] at ht
theorem si_rev {a : E} {e : Expr} {q p : PySem.Pos} (C : Cok L c X W) (hx : glob c (Str.ofString "reversed") = true) (hc : chkE c a e = true) (ha : PE X e (tE (sigOf L me) X.mg W a)) :
    PI X tg (.Call (.Name (Str.ofString "reversed") q) [e] [] p) (tI (sigOf L me) X.mg W (.rev a)) := by
  refine PI.weak (pi_reversed (C.glob hx).1 (C.bn (by decide)) (pa_cons ha pa_nil (star_cons (chk_star hc))) (star_cons (chk_star hc))) fun σ H R ⟨env, F, O, K, R', s, hh, w, ok, ox⟩ => ?_
  simp only [wpI] at w
  refine ⟨env, F, O, _, R', s, hh, w, fun d1 env1 w1 F1 Od1 Oe1 v1 H1 n1 r1 s1 => ?_, ox⟩
  obtain ⟨xs, l1, hk⟩ := w1
  obtain ⟨o1, rfl⟩ := lstD_eq l1
  have nz := Next.freeze n1.held
  have nn := n1.trans nz
  obtain ⟨a1, vs, rfl, e2, q1⟩ := frz_lst (r1.frozen n1.held)
  exact ⟨a1, vs, rfl, .inl (nn.held.f.rd e2), ok _ env1 hk _ Oe1 _ H1 nn (s1.mono nz.f) (Walk.rev e2 q1)⟩

/-! ### list comprehensions -/
theorem ownP_snd {own : List Nat} : (ownP c own).map (·.2) = own := by
  unfold ownP
  rw [List.map_map]
  show own.map (fun i => i) = own
  simp
theorem wipe_get {σ : St} (j : Nat) : ∀ own : List Nat, (wipe σ own)[j]? = if j ∈ own then σ[j]?.map (fun _ => none) else σ[j]?
  | [] => by simp [wipe]
  | i :: own => by
    show ((wipe σ own).set i none)[j]? = _
    rw [List.getElem?_set, wipe_get j own, wipe_length]
    by_cases e : i = j
    · subst e
      simp only [if_pos, List.mem_cons, true_or]
      by_cases hl : i < σ.length
      · simp [hl]
      · simp [hl]
    · rw [if_neg e]
      have : (j ∈ i :: own) ↔ j ∈ own := by simp [Ne.symm e]
      simp only [this]
theorem wipe_chg {σ σ2 : St} {l own : List Nat} (h : Chg me l (wipe σ own) σ2) (hl : ∀ j ∈ l, j ∈ own) : wipe σ2 own = wipe σ own := by
  apply List.ext_getElem?
  intro j
  rw [wipe_get, wipe_get]
  by_cases e : j ∈ own
  · rw [if_pos e, if_pos e]
    have hlen := h.1
    rw [wipe_length] at hlen
    by_cases q : j < σ.length
    · rw [List.getElem?_eq_getElem q, List.getElem?_eq_getElem (by omega)]; rfl
    · rw [List.getElem?_eq_none (by omega), List.getElem?_eq_none (by omega)]
  · rw [if_neg e, if_neg e]
    have := h.2.1 j fun z => e (hl j z)
    rw [this, wipe_get, if_neg e]
mutual
theorem tin_slots {own : List Nat} : ∀ {t : T}, tin own t = true → ∀ j ∈ slots t, j ∈ own
  | .nm i, h, j, hj => by
    have : j = i := by simpa [slots] using hj
    subst this
    simpa [tin] using h
  | .tp ts, h, j, hj => tins_slots (ts := ts) (by simpa [tin] using h) j (by simpa [slots] using hj)
theorem tins_slots {own : List Nat} : ∀ {ts : Ts}, tins own ts = true → ∀ j ∈ slotsL ts, j ∈ own
  | .nil, h, j, hj => by simp [slotsL] at hj
  | .cons t ts, h, j, hj => by
    simp only [tins, Bool.and_eq_true] at h
    simp only [slotsL, List.mem_append] at hj
    exact hj.elim (tin_slots h.1 j) (tins_slots h.2 j)
end
def lcStep (Γ : Sig) (elt : E) (t : T) (ifs : Es) (own : List Nat) (x : D) (k : List D → Env → Prop) (acc : List D) (e : Env) : Prop :=
  setT [] t x e fun e2 => wpTs Γ ifs e2 (fun b e3 => if b = true then wpE Γ elt e3 (fun d e4 => acc.length < sizeLine ∧ k (acc ++ [d]) (wipeE own e4)) (fun _ _ => False) else k acc (wipeE own e3)) (fun _ _ => False)
theorem lc_read {elt : E} {t : T} {it : I} {ifs : Es} {own : List Nat} {mg : Str → Option Value} {σ : St} {H : Hp} {Q : VK} (ht : tin own t = true) (h : tE (sigOf L me) mg W (.lc elt t it ifs own) σ H Q) :
    tLc (tI (sigOf L me) mg W it) (gT [] t) (tTs (sigOf L me) mg (fun _ _ _ _ => False) ifs) (tE (sigOf L me) mg (fun _ _ _ _ => False) elt) ((ownP c own).map (·.2)) σ H Q := by
  obtain ⟨env, F, O, K, R, s, hh, w, ok, ox⟩ := h
  rw [ownP_snd]
  simp only [wpE] at w
  refine ⟨env, F, O, _, R, s, hh, w, fun items env1 w1 F1 Oe1 J H1 n1 s1 wk => ?_, ox⟩
  intro D hD
  obtain ⟨Z0, B0, q1, q2⟩ := wipeSim s1 own
  have w1' : (items.foldr (lcStep (sigOf L me) elt t ifs own) fun acc e => K (.lst true acc) (backE env1 own e)) [] (wipeE own env1) := w1
  have nw := Next.newO n1.held hD (.lst [])
  let W0 : Nat → Nat → Hp → Prop := fun i m H => m = items.length - i ∧ i ≤ items.length ∧ ∃ F2 Oacc Oe acc accV e, SimE F2 e (wipe σ own) Oe ∧ RepL F2 acc accV Oacc ∧ ((items.drop i).foldr (lcStep (sigOf L me) elt t ifs own) fun acc e => K (.lst true acc) (backE env1 own e)) acc e ∧
    Next F1 Oe1 H1 F2 (((D, HO.lst accV) :: Oacc) ++ Oe) H
  refine ⟨W0, ⟨items.length, rfl, Nat.zero_le _, F1, [], B0, [], [], _, q1, .nil, w1', ?_⟩, fun i m H2 hw => ?_⟩
  · have := nw.perm (O'' := Z0 ++ ((D, HO.lst []) :: [] ++ B0)) (by
      show ((D, HO.lst []) :: Oe1).Perm (Z0 ++ ((D, HO.lst []) :: B0))
      exact (q2.cons _).trans List.perm_middle.symm)
    exact this.drop
  · obtain ⟨rfl, hi', F2, Oacc, Oe, acc, accV, e, s2, ra, hf, n2⟩ := hw
    have wk2 := wk F2 _ H2 i n2.held n2.f
    by_cases hlt : i < items.length
    · right
      obtain ⟨g1, g2⟩ := wk2.1 items[i] (List.getElem?_eq_getElem hlt)
      refine ⟨g1, W0 (i + 1) (items.length - (i + 1)), fun H' h' => ⟨_, by omega, h'⟩, fun x H3 hy => ?_⟩
      obtain ⟨F3, n3, r3⟩ := g2 x H3 hy
      rw [List.drop_eq_getElem_cons hlt, List.foldr_cons] at hf
      have hf' : setT [] t items[i] e _ := hf
      have n13 := n2.trans n3
      refine ⟨e, F3, [], Oe, items[i], _, s2.mono n3.f, n13.held.right, r3, hf', fun e2 w2 F4 O4 σ2 H4 n4 s4 ch => ?_⟩
      have wp := wipe_chg ch (tin_slots ht)
      refine ⟨wp, ?_⟩
      have n4' := n13.trans (Next.frame n13.held n4)
      refine ⟨e2, F4, O4, _, _, s4, n4.held, w2, fun b e3 w3 F5 Oe5 H5 n5 s5 => ?_, fun _ _ z => z.elim⟩
      have n5' := n4'.trans (Next.frame n4'.held n5)
      have ra5 := ((ra.mono n3.f).mono n4.f).mono n5.f
      cases b with
      | false =>
        obtain ⟨Z, B, k1, k2⟩ := wipeSim s5 own
        rw [wp] at k1
        refine ⟨rfl, by omega, F5, Oacc, B, acc, accV, _, k1, ra5, w3, ?_⟩
        refine (n5'.perm (O'' := Z ++ ((D, HO.lst accV) :: Oacc ++ B)) ?_).drop
        exact (List.Perm.append_left _ k2).trans perm3
      | true =>
        refine ⟨e3, F5, Oe5, _, _, s5, n5.held, w3, fun d e4 w4 F6 Od Oe6 y H6 n6 r6 s6 => ?_, fun _ _ z => z.elim⟩
        have n6' := n5'.trans (Next.frame n5'.held n6)
        obtain ⟨hz, hk⟩ := w4
        have hD6 : H6 D = some (.lst accV) := n6'.held.o (D, .lst accV) (by simp)
        refine ⟨accV, hD6, by rw [← ra.len]; exact hz, ?_⟩
        obtain ⟨Z, B, k1, k2⟩ := wipeSim s6 own
        rw [wp] at k1
        have nwr := Next.write (u := .lst accV) n6'.held (.lst (accV ++ [y]))
        have rr : RepL F6 [d] [y] Od := by
          have := RepL.cons (O2 := []) r6 RepL.nil
          rw [List.append_nil] at this; exact this
        refine ⟨rfl, by omega, F6, Oacc ++ Od, B, acc ++ [d], accV ++ [y], _, k1, (ra5.mono n6.f).append rr, hk, ?_⟩
        refine ((n6'.trans nwr).perm (O'' := Z ++ ((D, HO.lst (accV ++ [y])) :: (Oacc ++ Od) ++ B)) ?_).drop
        show ((D, HO.lst (accV ++ [y])) :: (Oacc ++ (Od ++ Oe6))).Perm _
        have a1 : (Oacc ++ (Od ++ Oe6)).Perm (Z ++ (Oacc ++ Od ++ B)) := by
          rw [← List.append_assoc]
          exact (List.Perm.append_left _ k2).trans perm3
        exact (a1.cons _).trans List.perm_middle.symm
    · left
      have hge : items.length ≤ i := by omega
      refine ⟨wk2.2 hge, ?_⟩
      rw [List.drop_eq_nil_of_le hge] at hf
      obtain ⟨Z, B, k1, k2⟩ := backSim s1 n2.f own s2
      refine ok (.lst true acc) _ hf F2 ((D, .lst accV) :: Oacc) B (.ref D) H2 ?_ (.own ra) k1
      refine ((n1.trans n2).perm (O'' := Z ++ ((D, HO.lst accV) :: Oacc ++ B)) ?_).drop
      exact (List.Perm.append_left _ k2).trans perm3
theorem st_lc {elt : E} {t : T} {it : I} {ifs : Es} {own : List Nat} {elt' t' it' : Expr} {ifs' : List Expr} {scope : PySem.Scope} {p : PySem.Pos} (C : Cok L c X W) (hot : c.hot = false) (hn : noSet it' = true) (hb : blkC c.N c.sc scope (ownP c own) = true) (ht : tin own t = true)
    (hi : PI X t' it' (tI (sigOf L me) X.mg W it)) (hg : ∀ {X' : Cx} {W' : WX}, Cok L (inner c scope) X' W' → PG X' t' (gT [] t)) (hts : ∀ {X' : Cx} {W' : WX}, Cok L (inner c scope) X' W' → PTs X' ifs' (tTs (sigOf L me) X'.mg W' ifs))
    (he : ∀ {X' : Cx} {W' : WX}, Cok L (inner c scope) X' W' → PE X' elt' (tE (sigOf L me) X'.mg W' elt)) : PE X (.ListComp elt' [⟨t', it', ifs', 0⟩] scope p) (tE (sigOf L me) X.mg W (.lc elt t it ifs own)) := by
  have bo : BlkOk X.N X.env.scope scope (ownP c own) := by rw [C.N, C.sc]; exact blkOk_by hb
  exact PE.weak (pe_lc (pos := p) (g := gT [] t) (tt := tTs (sigOf L me) X.mg (fun _ _ _ _ => False) ifs) (te := tE (sigOf L me) X.mg (fun _ _ _ _ => False) elt) (C.calm hot) C.nd hi bo (fun s H C' cl fp => hg (blk_cok C)) (fun s H C' cl fp => hts (blk_cok C)) (fun s H C' cl fp => he (blk_cok C)) (noSet_ok hn)) fun σ H Q h => lc_read ht h
/-- name = [..] where the name is given a new value in the display's own place -/
theorem st_setLc {elt : E} {t : T} {it : I} {ifs : Es} {own : List Nat} {elt' t' it' : Expr} {ifs' : List Expr} {scope : PySem.Scope} {p py sp : PySem.Pos} {i : Nat} {y : Str} (C : Cok L c X W) (hot : c.hot = false) (hy : mine c i y = true) (hyl : X.env.scope.names.lookup y = some .local)
    (hsw : PySem.swapsWith (.ListComp elt' [⟨t', it', ifs', 0⟩] scope p) (some (.Name y py)) sp.line X.env = pure true) (hn : noSet it' = true) (hb : blkC c.N c.sc scope (ownP c own) = true) (ht : tin own t = true)
    (hi : PI X t' it' (tI (sigOf L me) X.mg W it)) (hg : ∀ {X' : Cx} {W' : WX}, Cok L (inner c scope) X' W' → PG X' t' (gT [] t)) (hts : ∀ {X' : Cx} {W' : WX}, Cok L (inner c scope) X' W' → PTs X' ifs' (tTs (sigOf L me) X'.mg W' ifs))
    (he : ∀ {X' : Cx} {W' : WX}, Cok L (inner c scope) X' W' → PE X' elt' (tE (sigOf L me) X'.mg W' elt)) : PS X (.Assign [.Name y py] (.ListComp elt' [⟨t', it', ifs', 0⟩] scope p) sp) (tAsg (tE (sigOf L me) X.mg W (.lc elt t it ifs own)) (gName i)) := by
  have bo : BlkOk X.N X.env.scope scope (ownP c own) := by rw [C.N, C.sc]; exact blkOk_by hb
  have ps := ps_setLc (pos := p) (g := gT [] t) (tt := tTs (sigOf L me) X.mg (fun _ _ _ _ => False) ifs) (te := tE (sigOf L me) X.mg (fun _ _ _ _ => False) elt) (C.calm hot) C.nd (C.mine hy).1 hyl hsw hi bo (fun s H C' cl fp => hg (blk_cok C)) (fun s H C' cl fp => hts (blk_cok C)) (fun s H C' cl fp => he (blk_cok C)) (noSet_ok hn)
  exact ⟨fun pins s σ H D I h => ps.run pins s σ H D I (lc_read ht h)⟩
end
end DP

/-! DpMa: list(zip(xs, ys)). -/
namespace DP
open PySem PySem.Spec PyProof.Rows
open PySem.W (Frag)
open L2
variable [CT]
theorem zip_no_len : typeLookup (.type "zip") "__len__" = pure none := by rw [typeLookup_type, builtinLookup_eq_fast]; kernel_rfl
theorem zip_no_hint : typeLookup (.type "zip") "__length_hint__" = pure none := by rw [typeLookup_type, builtinLookup_eq_fast]; kernel_rfl
def LzSt (z TI TO i1 i2 a b S : Addr) (i : Nat) (h : Heap) : Prop := IsPair h TI (.ref i1) (.ref i2) ∧ h.IsListIter i1 a i ∧ h.IsListIter i2 b i ∧ (∃ o, h.get? TO = some o) ∧
  ((IsZip h z TI TO .none ∧ ∃ x y, IsPair h TO x y) ∨ ∃ T f oT, IsZipHeld h z TI TO T f ∧ h.get? T = some oT ∧ T ≠ z ∧ T ≠ i1 ∧ T ≠ i2 ∧ T ≠ S)
section
variable {X : Cx} {pins : List (Addr × Obj)} {σ : L2.St}
theorem lz_frame {z TI TO i1 i2 a b S : Addr} {i : Nat} {h h' : Heap} (st : LzSt z TI TO i1 i2 a b S i h) (hk : ∀ c o, c ≠ S → h.get? c = some o → h'.get? c = some o) (hS : S ∉ [z, TI, TO, i1, i2]) : LzSt z TI TO i1 i2 a b S i h' := by
  simp only [List.mem_cons, List.not_mem_nil, or_false, not_or] at hS
  obtain ⟨d1, d2, d3, d4, d5⟩ := hS
  obtain ⟨hTI, h1, h2, ⟨oo, ho⟩, hz⟩ := st
  refine ⟨hk _ _ (Ne.symm d2) hTI, h1.at fun o e => hk _ o (Ne.symm d4) e, h2.at fun o e => hk _ o (Ne.symm d5) e, ⟨oo, hk _ _ (Ne.symm d3) ho⟩, ?_⟩
  rcases hz with ⟨hz, x, y, hTO⟩ | ⟨T, f, oT, hz, hT, r1, r2, r3, r4⟩
  · exact .inl ⟨hk _ _ (Ne.symm d1) hz, x, y, hk _ _ (Ne.symm d3) hTO⟩
  · exact .inr ⟨T, f, oT, hk _ _ (Ne.symm d1) hz, hk _ _ r4 hT, r1, r2, r3, r4⟩
theorem lz_loop {A : Around} (hA : A.in1.handled = none) {z TI TO i1 i2 a b S : Addr} (D : ZipApart z TI TO i1 i2 a b) {xs ys : List V} {Pv : Nat → Hp → Prop} {R : Result → Shared → Prop} (hS : S ∉ [z, TI, TO, i1, i2])
    (hfp : ∀ c ∈ [z, TI, TO, i1, i2], ∀ H : Hp, H c = none → FpOk X pins H c) (hn : xs.length ≤ sizeLine) (hl : xs.length = ys.length)
    (hq : ∀ i H, Pv i H → SqL X.K H a xs ∧ SqL X.K H b ys ∧ ∃ acc : List V, H S = some (.lst acc) ∧ acc.length = i)
    (hs : ∀ i H x y T acc, i < xs.length → Pv i H → xs[i]? = some x → ys[i]? = some y → H T = none → H S = some (.lst acc) → Pv (i + 1) (upd (upd H T (.tup [x, y])) S (.lst (acc ++ [.ref T]))))
    (hR : ∀ s' H', Inv X pins σ H' s' → Pv xs.length H' → R (.ok (.ret .none)) s') :
    ∀ (k i : Nat) (s : Shared) (H : Hp), xs.length - i = k → i ≤ xs.length → Inv X pins σ H s → Pv i H → (∀ c ∈ [z, TI, TO, i1, i2], H c = none) → LzSt z TI TO i1 i2 a b S i s.heap →
      codeAny (model X.prog X.w) A (.builtin "list.extend.loop" ⟨[.ref S, .ref z, .none], []⟩) R s := by
  intro k
  induction k with
  | zero =>
    intro i s H hk hi I hp hno st
    have hin : i = xs.length := by omega
    subst hin
    obtain ⟨qa, qb, acc, qS, hacc⟩ := hq _ _ hp
    obtain ⟨its, rv, p1, _⟩ := I.list qa
    obtain ⟨its2, rv2, p2, _⟩ := I.list qb
    have l1 := rv.length
    obtain ⟨hTI, h1, h2, ⟨oo, hoo⟩, hz⟩ := st
    have hend : its.toArray[xs.length]? = none ∨ its2.toArray[xs.length]? = none := .inl (by simp; omega)
    refine codeAny_builtin F.entry_extend_loop ?_
    rw [Around.under_plainId F.plain_extend_loop _]
    show wpAny _ A.in1 (pyNext (.ref z) >>= _) _ _ s
    have fin : ∀ h', (∀ c o, c ∉ [z, TI, TO, i1, i2] → s.heap.get? c = some o → h'.get? c = some o) → Inv X pins σ H { s with heap := h' } := fun h' hk' => I.turnedL (t' := s.toks) (ch := [z, TI, TO, i1, i2]) hk' fun c hc => hfp c hc H (hno c hc)
    rcases hz with ⟨hz, x, y, hTO⟩ | ⟨T, f, oT, hz, hT, r1, r2, r3, r4⟩
    · refine wpAny_bind (wpAny_pyNext_zip_end hA D hz hTI hTO h1 h2 p1.isList p2.isList hend fun h' hk' => ?_)
      exact wpAny_pure (hR _ H (fin h' fun c o hc e => hk' c o (fun q => hc (by simp [q])) (fun q => hc (by simp [q])) (fun q => hc (by simp [q])) (fun q => hc (by simp [q])) e) hp)
    · refine wpAny_bind (wpAny_pyNext_zip_end_held hA D hz hT hTI h1 h2 p1.isList p2.isList hend fun h' hk' => ?_)
      exact wpAny_pure (hR _ H (fin h' fun c o hc e => hk' c o (fun q => hc (by simp [q])) (fun q => hc (by simp [q])) (fun q => hc (by simp [q])) e) hp)
  | succ k ih =>
    intro i s H hk hi I hp hno st
    have hlt : i < xs.length := by omega
    obtain ⟨qa, qb, acc, qS, hacc⟩ := hq _ _ hp
    obtain ⟨its, rv, p1, _⟩ := I.list qa
    obtain ⟨its2, rv2, p2, _⟩ := I.list qb
    have hx : xs[i]? = some xs[i] := List.getElem?_eq_getElem hlt
    have hy : ys[i]? = some (ys[i]'(by omega)) := List.getElem?_eq_getElem (by omega)
    obtain ⟨u, hu, ru⟩ := rv.get hx
    obtain ⟨u2, hu2, ru2⟩ := rv2.get hy
    have hSn := hS
    simp only [List.mem_cons, List.not_mem_nil, or_false, not_or] at hSn
    obtain ⟨d1, d2, d3, d4, d5⟩ := hSn
    have hTn : H s.heap.objs.size = none := I.hok.fresh (Nat.le_refl _)
    have hST : S ≠ s.heap.objs.size := fun q => by rw [q, hTn] at qS; cases qS
    have lt : ∀ {c o}, s.heap.get? c = some o → s.heap.objs.size ≠ c := fun e => Nat.ne_of_gt (Heap.lt_size e)
    refine codeAny_builtin F.entry_extend_loop ?_
    rw [Around.under_plainId F.plain_extend_loop _]
    show wpAny _ A.in1 (pyNext (.ref z) >>= _) _ _ s
    -- behind one item
    have go : ∀ h', LzSt z TI TO i1 i2 a b S (i + 1) h' → IsPair h' s.heap.objs.size u u2 → (∀ c o, c ∉ [z, TI, TO, i1, i2] → s.heap.get? c = some o → h'.get? c = some o) → s.heap.objs.size ∉ [z, TI, TO, i1, i2] →
        wpAny (model X.prog X.w) A.in1 (updateSeq S (·.push (.ref s.heap.objs.size)) >>= fun _ => again (.builtin "list.extend.loop" ⟨[.ref S, .ref z, .none], []⟩))
          (fun fin s' => match fin with | .done f => R (.ok f) s' | .again c' => c'.quiet = true ∧ codeAny (model X.prog X.w) A c' R s') (fun e s' => R (.error e) s') { s with heap := h' } := fun h' st' hT hk' hTf => by
      have new : ObjOk X.prog X.w (upd H s.heap.objs.size (.tup [xs[i], ys[i]'(by omega)])) h' s.heap.objs.size (.tup [xs[i], ys[i]'(by omega)]) :=
        ⟨by show 2 ≤ sizeLine; decide, [u, u2], .cons ru (.cons ru2 .nil), ⟨_, hT, rfl, _, rfl⟩⟩
      have I1 : Inv X pins σ (upd H s.heap.objs.size (.tup [xs[i], ys[i]'(by omega)])) { s with heap := h' } :=
        I.turnedNew (t' := s.toks) (ch := [z, TI, TO, i1, i2]) (fun c o hb q => hk' c o hb q) (fun c hc => hfp c hc H (hno c hc)) (Nat.le_refl _) new
      have qS1 : (upd H s.heap.objs.size (.tup [xs[i], ys[i]'(by omega)])) S = some (.lst acc) := by rw [upd_ne hST]; exact qS
      obtain ⟨zz, its3, n3, rv3, hl3, e3⟩ := I1.lstM qS1
      have e3' : h'.get? S = some { cls := .type "list", data := .seq its3.toArray n3 } := e3
      refine wpAny_bind (wpAny_updateSeq e3' rfl (wpAny_pure ⟨plainId_quiet F.plain_extend_loop _, ?_⟩) (by simp; omega) (by simp; omega))
      have I2 := I1.lset (its' := its3 ++ [.ref s.heap.objs.size]) (t' := s.toks) (ys := acc ++ [.ref s.heap.objs.size]) (f := fun v => v.push (.ref s.heap.objs.size)) qS1 e3 (by simp) (rv3.append (.cons (show RelV (.ref _) (.ref _) from rfl) .nil)) (by rw [List.length_append, List.length_singleton]; omega)
      refine ih (i + 1) _ _ (by omega) hlt I2 (hs i H _ _ s.heap.objs.size acc hlt hp hx hy hTn qS) (fun c hc => ?_) (lz_frame st' (fun c o hc e => (Heap.get?_update_other _ _ (Ne.symm hc)).trans e) hS)
      have c1 : c ≠ S := fun q => hS (q ▸ hc)
      have c2 : c ≠ s.heap.objs.size := fun q => hTf (q ▸ hc)
      rw [upd_ne c1, upd_ne c2]
      exact hno c hc
    obtain ⟨hTI, h1, h2, ⟨oo, hoo⟩, hz⟩ := st
    have n1 : s.heap.objs.size ≠ i1 := let ⟨_, e, _⟩ := h1; lt e
    have n2 : s.heap.objs.size ≠ i2 := let ⟨_, e, _⟩ := h2; lt e
    have nTI : s.heap.objs.size ≠ TI := lt hTI
    have nTO : s.heap.objs.size ≠ TO := lt hoo
    rcases hz with ⟨hz, x0, y0, hTO⟩ | ⟨T, f, oT, hz, hT, r1, r2, r3, r4⟩
    · refine wpAny_bind (wpAny_pyNext_zip_item D hz hTI hTO h1 h2 p1.isList p2.isList (x := u) (y := u2) (by simpa using hu) (by simpa using hu2) fun h' a1 a2 a3 a4 a5 a6 hk' => ?_)
      refine go h' ⟨hk' _ _ D.TIz D.TITO D.TIi1 D.TIi2 hTI, a3, a4, ⟨_, a2⟩, .inr ⟨s.heap.objs.size, false, _, a1, a5, lt hz, n1, n2, Ne.symm hST⟩⟩ a5 (fun c o hc e => hk' c o (fun q => hc (by simp [q])) (fun q => hc (by simp [q])) (fun q => hc (by simp [q])) (fun q => hc (by simp [q])) e) ?_
      simp only [List.mem_cons, List.not_mem_nil, or_false, not_or]
      exact ⟨lt hz, nTI, lt hTO, n1, n2⟩
    · refine wpAny_bind (wpAny_pyNext_zip_item_held D hz hT hTI h1 h2 p1.isList p2.isList (x := u) (y := u2) (by simpa using hu) (by simpa using hu2) fun h' a1 a3 a4 a5 a6 hk' => ?_)
      refine go h' ⟨hk' _ _ D.TIz D.TIi1 D.TIi2 hTI, a3, a4, ⟨_, hk' _ _ D.TOz D.TOi1 D.TOi2 hoo⟩, .inr ⟨T, true, oT, a1, hk' _ _ r1 r2 r3 hT, r1, r2, r3, r4⟩⟩ a5 (fun c o hc e => hk' c o (fun q => hc (by simp [q])) (fun q => hc (by simp [q])) (fun q => hc (by simp [q])) e) ?_
      simp only [List.mem_cons, List.not_mem_nil, or_false, not_or]
      exact ⟨lt hz, nTI, nTO, n1, n2⟩
/-- list(zip(a, b)): S, a new list; Pv by the turn -/
def tLZ (K : Frag) (ta : TA) : TE := fun σ H Q => ta σ H fun vs H1 => ∃ a b xs ys, vs = [.ref a, .ref b] ∧ SqL K H1 a xs ∧ SqL K H1 b ys ∧ xs.length = ys.length ∧ ∀ S, H1 S = none → ∃ Pv : Nat → Hp → Prop, Pv 0 (upd H1 S (.lst [])) ∧
  (∀ i H, Pv i H → SqL K H a xs ∧ SqL K H b ys ∧ ∃ acc : List V, H S = some (.lst acc) ∧ acc.length = i) ∧
  (∀ i H x y T acc, i < xs.length → Pv i H → xs[i]? = some x → ys[i]? = some y → H T = none → H S = some (.lst acc) → Pv (i + 1) (upd (upd H T (.tup [x, y])) S (.lst (acc ++ [.ref T])))) ∧
  ∀ H, Pv xs.length H → Q (.ref S) H
theorem pe_listZip {e e2 : Expr} {ta : TA} {p q pos pos2 : Pos} (hc : X.calm = true) (hgl : Gl X "list") (hml : X.mg "list" = none) (hg : Gl X "zip") (hm : X.mg "zip" = none) (ha : PA X [e, e2] ta)
    (hs : starEach [e, e2] X.env = (false, eval e X.env) :: starEach [e2] X.env) (hpl : (backTo pos (starEach [e2] X.env)).any (·.1) = false) :
    PE X (.Call (.Name "list" p) [.Call (.Name "zip" q) [e, e2] [] pos] [] pos2) (tLZ X.K ta) := by
  refine ⟨fun pins s σ H Q I h => ?_⟩
  refine Call_ (ld_blt I hgl hml PyProof.Rows.boot_list (PyProof.Rows.callWith_type1 ?_ rfl rfl))
  show wpAny _ _ (spliced ((false, eval (.Call (.Name "zip" q) [e, e2] [] pos) X.env) :: backTo pos2 (starEach [] X.env))) _ _ s
  refine Calls.spliced_cons ?_
  refine Call_ (ld_blt I hg hm PyProof.Rows.boot_zip (PyProof.Rows.callWith_type1 (thn (ha.run pos pins s σ H _ I h) fun us s1 ⟨vs, H1, I1, r1, q1⟩ => ?_) hs hpl))
  obtain ⟨a, b, xs, ys, ex, hqx, hqy, hl, q⟩ := q1
  subst ex
  cases r1 with
  | cons r rr =>
    cases rr with
    | cons r' rr =>
      cases rr
      cases r
      cases r'
      obtain ⟨its, rv, p1, _⟩ := I1.list hqx
      obtain ⟨its2, rv2, p2, hz1⟩ := I1.list hqy
      have la : a < s1.heap.objs.size := p1.lt
      have lb : b < s1.heap.objs.size := p2.lt
      have hlen : xs.length ≤ sizeLine := by rw [hl]; exact hz1
      refine call_zip_2 p1.isList p2.isList fun h' hz hTI hTO h1 h2 hsz hk => ?_
      refine Calls.spliced_nil ?_
      have I2 : Inv X pins σ H1 { s1 with heap := h' } := I1.kept (t' := s1.toks) hk
      have D := PySem.W.ktu_apart s1.heap.objs.size a b la lb
      refine callType_codes (Q₁ := fun obj s₁ => obj = .ref h'.objs.size ∧ s₁ = { s1 with heap := h'.push { cls := .type "list", data := .seq #[] } }) F.called_list (F.typeCall_list_1 _) F.entry_list_init
        (code_list_new _ ⟨rfl, rfl⟩) fun obj s₁ h₁ => ?_
      obtain ⟨rfl, rfl⟩ := h₁
      have hS : (h'.push { cls := .type "list", data := .seq #[] }).get? h'.objs.size = some { cls := .type "list", data := .seq #[] } := Heap.get?_push_size _ rfl
      refine ⟨⟨_, hS, rfl⟩, F.args_list_init_2 _ _, ?_⟩
      have hSn : H1 h'.objs.size = none := I2.hok.fresh (Nat.le_refl _)
      obtain ⟨Pv, v0, v1, v2, v3⟩ := q h'.objs.size hSn
      have I3 : Inv X pins σ (upd H1 h'.objs.size (.lst [])) { s1 with heap := h'.push { cls := .type "list", data := .seq #[] } } := Inv.lnew (its := []) (t' := s1.toks) I2 .nil (Nat.zero_le _)
      generalize hSS : h'.objs.size = S at *
      have ltS : ∀ c ∈ [s1.heap.objs.size + 4, s1.heap.objs.size + 2, s1.heap.objs.size + 3, s1.heap.objs.size, s1.heap.objs.size + 1], s1.heap.objs.size ≤ c ∧ c < S := fun c hcm => by
        have e' : c = s1.heap.objs.size + 4 ∨ c = s1.heap.objs.size + 2 ∨ c = s1.heap.objs.size + 3 ∨ c = s1.heap.objs.size ∨ c = s1.heap.objs.size + 1 := by simpa using hcm
        have hsz' : S = s1.heap.objs.size + 5 := hsz
        rcases e' with z | z | z | z | z <;> (rw [z, hsz']; constructor) <;> first | exact Nat.le_refl _ | exact Nat.le_add_right _ _ | exact Nat.lt_succ_self _ | (apply Nat.add_lt_add_left; decide) | exact Nat.lt_add_of_pos_right (by decide)
      have hSf : S ∉ [s1.heap.objs.size + 4, s1.heap.objs.size + 2, s1.heap.objs.size + 3, s1.heap.objs.size, s1.heap.objs.size + 1] := fun hm => Nat.lt_irrefl _ (ltS S hm).2
      have st0 : LzSt (s1.heap.objs.size + 4) (s1.heap.objs.size + 2) (s1.heap.objs.size + 3) s1.heap.objs.size (s1.heap.objs.size + 1) a b S 0 h' := ⟨hTI, h1, h2, ⟨_, hTO⟩, .inl ⟨hz, _, _, hTO⟩⟩
      have st1 : LzSt (s1.heap.objs.size + 4) (s1.heap.objs.size + 2) (s1.heap.objs.size + 3) s1.heap.objs.size (s1.heap.objs.size + 1) a b S 0 (h'.push { cls := .type "list", data := .seq #[] }) := lz_frame st0 (fun c o _ e => Heap.get?_push_of_some _ e) hSf
      have hSz : S ≠ s1.heap.objs.size + 4 := fun z => hSf (by rw [z]; simp)
      have hz3 : IsZip (h'.push { cls := .type "list", data := .seq #[] }) (s1.heap.objs.size + 4) (s1.heap.objs.size + 2) (s1.heap.objs.size + 3) .none := Heap.get?_push_of_some _ hz
      show wpAny _ X.A.in1.in1 (do let old ← Builtin.List.listItems (.ref S); Builtin.List.listUpdate (.ref S) (fun _ => #[]); letGo old.toList.reverse; Builtin.List.listExtendWith (.ref S) (.ref (s1.heap.objs.size + 4)) .none) _ _ _
      refine wpAny_bind ?_
      unfold Builtin.List.listItems
      refine wpAny_bind (wpAny_seqItems hS rfl (wpAny_pure ?_))
      show wpAny _ _ (updateSeq S (fun _ => #[]) >>= fun _ => letGo (#[] : Array Value).toList.reverse >>= fun _ => Builtin.List.listExtendWith (.ref S) (.ref (s1.heap.objs.size + 4)) .none) _ _ _
      refine wpAny_bind (wpAny_updateSeq hS rfl ?_)
      have hS2 := Heap.get?_update_self (Obj.mapSeq (fun _ => (#[] : Array Value))) hS rfl
      have ot2 : ∀ c o, c ≠ S → (h'.push { cls := .type "list", data := .seq #[] }).get? c = some o → ((h'.push { cls := .type "list", data := .seq #[] }).update S (Obj.mapSeq (fun _ => (#[] : Array Value)))).get? c = some o := fun c o hc e => (Heap.get?_update_other _ _ (Ne.symm hc)).trans e
      refine wpAny_bind (wpAny_letGo ?_)
      have hz4 := ot2 _ _ (Ne.symm hSz) hz3
      unfold Builtin.List.listExtendWith
      refine wpAny_bind (wpAny_typeOf (T := "zip") ⟨_, hz4, rfl⟩ ?_)
      have g1 : Builtin.List.listSameRef (.ref S) (.ref (s1.heap.objs.size + 4)) = false := by simp [Builtin.List.listSameRef, hSz]
      have g2 : (Value.type "zip" == Value.type "list") = false := by decide
      have g3 : (Value.type "zip" == Value.type "tuple") = false := by decide
      simp only [g1, g2, g3, Bool.or_false, Bool.false_eq_true, if_false]
      refine wpAny_bind (wpAny_pyIter_zip hz4 ?_)
      refine wpAny_bind (wpAny_holding ?_)
      unfold Builtin.List.listLengthHint
      refine wpAny_bind (wpAny_specialOf (T := "zip") ⟨_, hz4, rfl⟩ zip_no_len ?_)
      show wpAny _ X.A.in1.in1 (specialOf (Value.ref (s1.heap.objs.size + 4)) (Str.ofString "__length_hint__") >>= _) _ _ _
      refine wpAny_bind (wpAny_specialOf (T := "zip") ⟨_, hz4, rfl⟩ zip_no_hint ?_)
      refine wpAny_pure ?_
      show wpAny _ X.A.in1.in1 (rule "list.extend.makes-room" >>= fun _ => Builtin.List.listTouch (.ref S) >>= fun _ =>
        again (.builtin "list.extend.loop" ⟨[.ref S, .ref (s1.heap.objs.size + 4), .none], []⟩)) _ _ _
      refine wpAny_bind (wpAny_rule ?_)
      refine wpAny_bind ?_
      show wpAny _ X.A.in1.in1 (updateSeq S (·.push .none) >>= fun _ => updateSeq S (·.pop)) _ _ _
      refine wpAny_bind (wpAny_updateSeq hS2 rfl ?_)
      have hS3 := Heap.get?_update_self (Obj.mapSeq (·.push Value.none)) hS2 rfl
      refine wpAny_updateSeq (hz := by seq_fits) hS3 rfl ?_
      have hS4 := Heap.get?_update_self (Obj.mapSeq (·.pop)) hS3 rfl
      have ot4 : ∀ c o, c ≠ S → (h'.push { cls := .type "list", data := .seq #[] }).get? c = some o → ((((h'.push { cls := .type "list", data := .seq #[] }).update S (Obj.mapSeq (fun _ => (#[] : Array Value)))).update S (Obj.mapSeq (·.push Value.none))).update S (Obj.mapSeq (·.pop))).get? c = some o :=
        fun c o hc e => (Heap.get?_update_other _ _ (Ne.symm hc)).trans ((Heap.get?_update_other _ _ (Ne.symm hc)).trans (ot2 c o hc e))
      have eH : upd (upd H1 S (.lst [])) S (.lst []) = upd H1 S (.lst []) := by
        funext c
        by_cases hcS : c = S
        · rw [hcS, upd_same, upd_same]
        · rw [upd_ne hcS]
      have I4 := Inv.write (t' := s1.toks) (x := S) (e := S) (o := .lst []) I3 (by rw [upd_same]; exact trivial) (.inl rfl) (fun c u hc e => ot4 c u hc e) ⟨_, hS4⟩ ⟨Nat.zero_le _, [], _, .nil, hS4⟩
      rw [eH] at I4
      refine wpAny_pure ⟨plainId_quiet F.plain_extend_loop _, lz_loop (A := X.A.in1) (I.ok.hd hc) D hSf (fun c hcm H hn => ?_) hlen hl v1 v2 (fun s' H' J hp => ⟨rfl, ⟨.ref S, H', J, rfl, v3 H' hp⟩⟩) _ 0 _ _ rfl (Nat.zero_le _) I4 v0 (fun c hcm => ?_) (lz_frame st1 ot4 hSf)⟩
      · exact I1.fpOk (ltS c hcm).1 hn
      · have hcS : c ≠ S := fun z => hSf (z ▸ hcm)
        rw [upd_ne hcS]
        exact I1.hok.fresh (ltS c hcm).1
end
section
variable {L : List Ent} {c : SC} {X : Cx} {W : WX} {me : List Nat}
theorem st_lzip {a b : E} {e f : Expr} {q q2 p p2 : PySem.Pos} (C : Cok L c X W) (hot : c.hot = false) (hx : glob c (Str.ofString "list") = true) (hx2 : glob c (Str.ofString "zip") = true) (hc : chkE c a e = true) (hd : chkE c b f = true) (ha : PE X e (tE (sigOf L me) X.mg W a)) (hb : PE X f (tE (sigOf L me) X.mg W b)) :
    PE X (.Call (.Name (Str.ofString "list") q) [.Call (.Name (Str.ofString "zip") q2) [e, f] [] p] [] p2) (tE (sigOf L me) X.mg W (.lzip a b)) := by
  have h1 : PySem.starEach [f] X.env = [(false, PySem.eval f X.env)] := star_cons (chk_star hd)
  have h2 : PySem.starEach [e, f] X.env = (false, PySem.eval e X.env) :: PySem.starEach [f] X.env := star_cons (chk_star hc)
  refine PE.weak (pe_listZip (C.calm hot) (C.glob hx).1 (C.bn (by decide)) (C.glob hx2).1 (C.bn (by decide)) (pa_cons ha (pa_cons hb pa_nil h1) h2) h2 (by rw [h1]; rfl)) fun σ H Q ⟨env, F, O, K, R', s, hh, w, ok, ox⟩ => ?_
  simp only [wpE] at w
  refine ⟨env, F, O, _, R', s, hh, w, fun d1 env1 w1 F1 Od1 Oe1 v1 H1 n1 r1 s1 => ?_, ox⟩
  refine ⟨env1, F1, Oe1, _, R', s1, n1.held.right, w1, fun d2 env2 w2 F2 Od2 Oe2 v2 H2 n2 r2 s2 => ?_, ox.step n1.drop⟩
  obtain ⟨xs, ys, l1, l2, hll, hk⟩ := w2
  obtain ⟨o1, rfl⟩ := lstD_eq l1
  obtain ⟨o2, rfl⟩ := lstD_eq l2
  have nf := n1.trans (Next.frame n1.held n2)
  rw [← List.append_assoc] at nf
  have nz := Next.freeze nf.held
  have mz := addF_in (F := F2) nf.held.left.nd
  have z1 := (r1.mono n2.f).froz nz.f fun p hp => mz p (List.mem_append_left _ hp)
  have z2 := r2.froz nz.f fun p hp => mz p (List.mem_append_right _ hp)
  have nn := nf.trans nz
  have s3 := s2.mono nz.f
  obtain ⟨a1, vs, rfl, e2, q1⟩ := frz_lst z1
  obtain ⟨a2, us, rfl, e3, q2⟩ := frz_lst z2
  generalize addF F2 (Od1 ++ Od2) = F3 at *
  have lv : vs.length = us.length := by rw [← q1.len, ← q2.len, fzL_length, fzL_length]; exact hll
  refine ⟨a1, a2, vs, us, rfl, .inl (nn.held.f.rd e2), .inl (nn.held.f.rd e3), lv, fun S hS => ?_⟩
  have nS := Next.newO nn.held hS (.lst [])
  have hn : ((fzL xs).zipWith (fun x y => D.tup [x, y]) (fzL ys)).length = vs.length := by rw [List.length_zipWith, q1.len, q2.len]; omega
  generalize hit : (fzL xs).zipWith (fun x y => D.tup [x, y]) (fzL ys) = items at *
  refine ⟨fun i H => ∃ F4 accV, Next F O _ F4 ((S, HO.lst accV) :: Oe2) H ∧ Sub F3 F4 ∧ RepL F4 (items.take i) accV [] ∧ i ≤ items.length, ⟨F3, [], nn.trans nS, Sub.refl _, by simpa using RepL.nil, Nat.zero_le _⟩, ?_, ?_, ?_⟩
  · rintro i H ⟨F4, accV, n4, sb, rl, hi⟩
    refine ⟨.inl (n4.held.f.rd (sb.rd e2)), .inl (n4.held.f.rd (sb.rd e3)), accV, n4.held.o (S, .lst accV) List.mem_cons_self, ?_⟩
    rw [← rl.len, List.length_take]
    omega
  · rintro i H x y T acc hi ⟨F4, accV, n4, sb, rl, _⟩ hx hy hT hSa
    have ea : accV = acc := by
      have := n4.held.o (S, .lst accV) List.mem_cons_self
      rw [this] at hSa
      cases hSa
      rfl
    subst ea
    have nT := Next.newF n4.held hT (.tup [x, y])
    have nw := Next.write nT.held (.lst (accV ++ [.ref T]))
    have hxd : i < (fzL xs).length := by rw [q1.len]; exact hi
    have hyd : i < (fzL ys).length := by rw [q2.len]; omega
    obtain ⟨x', k1, k2⟩ := q1.nth0 (List.getElem?_eq_getElem hxd)
    obtain ⟨y', k3, k4⟩ := q2.nth0 (List.getElem?_eq_getElem hyd)
    rw [hx] at k1; cases k1
    rw [hy] at k3; cases k3
    have hI : items[i]? = some (.tup [(fzL xs)[i], (fzL ys)[i]]) := by
      rw [← hit, List.getElem?_zipWith, List.getElem?_eq_getElem hxd, List.getElem?_eq_getElem hyd]
    refine ⟨_, accV ++ [.ref T], (n4.trans nT).trans nw, sb.trans nT.f, ?_, by omega⟩
    rw [List.take_succ, hI]
    refine RepL.append (O := []) (P := []) (rl.mono nT.f) ?_
    exact RepL.mk (.tup upd_same (RepL.mk ((k2.mono sb).mono nT.f) (RepL.mk ((k4.mono sb).mono nT.f) .nil))) .nil
  · rintro H ⟨F4, accV, n4, sb, rl, _⟩
    rw [← hn, List.take_length] at rl
    exact ok _ env2 hk F4 [(S, .lst accV)] Oe2 (.ref S) H n4 (.own rl) (s3.mono sb)
omit [CT] in
theorem rgV_rng (i j : Int) : rgV i j = (rngD i (j - i).toNat 1).map (fun d => match d with | .int k => V.int k | _ => .non) := by
  unfold rgV rngD
  rw [List.map_map]
  refine List.map_congr_left fun k _ => ?_
  simp
theorem st_lrg {a b : E} {a' b' : Expr} {q q2 p p2 : PySem.Pos} (C : Cok L c X W) (hot : c.hot = false) (hx : glob c (Str.ofString "list") = true) (hx2 : glob c (Str.ofString "range") = true) (hc : chkE c a a' = true) (hd : chkE c b b' = true) (ha : PE X a' (tE (sigOf L me) X.mg W a)) (hb : PE X b' (tE (sigOf L me) X.mg W b)) :
    PE X (.Call (.Name (Str.ofString "list") q) [.Call (.Name (Str.ofString "range") q2) [a', b'] [] p] [] p2) (tE (sigOf L me) X.mg W (.lrg a b)) := by
  have h1 : PySem.starEach [b'] X.env = [(false, PySem.eval b' X.env)] := star_cons (chk_star hd)
  refine PE.weak (pe_listRg (C.calm hot) (C.glob hx).1 (C.bn (by decide)) (prg_2 (C.glob hx2).1 (C.bn (by decide)) ha hb (star_cons (chk_star hc)) h1 (by rw [h1]; rfl)) rfl) fun σ H Q ⟨env, F, O, K, R', s, hh, w, ok, ox⟩ => ?_
  simp only [wpE] at w
  refine ⟨env, F, O, _, R', s, hh, w, fun d1 env1 w1 F1 Od1 Oe1 v1 H1 n1 r1 s1 => ?_, ox⟩
  refine ⟨env1, F1, Oe1, _, R', s1, n1.held.right, w1, fun d2 env2 w2 F2 Od2 Oe2 v2 H2 n2 r2 s2 => ?_, ox.step n1.drop⟩
  obtain ⟨i, j, rfl, rfl, ⟨b1, b2, b3, b4⟩, b5, hk⟩ := w2
  obtain ⟨rfl, rfl⟩ := r1.intI
  obtain ⟨rfl, rfl⟩ := r2.intI
  refine ⟨i, j, rfl, rfl, ⟨b1, b2, b3, b4, Nat.le_trans b5 (by decide)⟩, fun p hp => ?_⟩
  have rp : RepL F2 (rngD i (j - i).toNat 1) (rgV i j) [] := by
    have e1 : rngD i (j - i).toNat 1 = ((List.range (j - i).toNat).map fun k => i + ((k : Nat) : Int) * 1).map D.int := by unfold rngD; rw [List.map_map]; rfl
    have e2 : rgV i j = ((List.range (j - i).toNat).map fun k => i + ((k : Nat) : Int) * 1).map V.int := by
      unfold rgV; rw [List.map_map]; refine List.map_congr_left fun k _ => ?_; simp
    rw [e1, e2]
    exact repL_ints _
  have nn : Next F O H F2 Oe2 H2 := n1.drop.trans n2.drop
  exact ok _ env2 hk F2 [(p, .lst (rgV i j))] Oe2 _ _ (nn.trans (Next.newO nn.held hp _)) (.own rp) s2
end
end DP
/-! DpMb: len(set(xs)), sorted(set(xs)) of a list of ints; chains of three comparisons. -/
namespace DP
open PySem PySem.Spec PyProof.Rows
open PySem.W (Frag)
open L2
variable [CT]
section
variable {P : Program} {w : World} {A : Around} {E : Value → Shared → Prop} {s : Shared}
/-- set(l), l a list of ints -/
theorem set_of_list {l : Addr} {items : Array Value} (ns : List Int) {Q : Value → Shared → Prop} (hh : A.handled = none) (hl : s.heap.IsList l items) (hit : IntsAre items.toList ns) (hb : ns.length + 1 < scanBound)
    (h : ∀ (h' : Heap) (tk c : Nat), SetR w h' s.heap.objs.size (fun j => decide (j ∈ ns)) c → (∀ b o, s.heap.get? b = some o → h'.get? b = some o) → Q (.ref s.heap.objs.size) { s with heap := h', toks := tk }) :
    wpAny (model P w) A (call (.type "set") [.ref l]) Q E s := by
  have hisz : items.size = ns.length := by
    have q := IntsAre.length hit
    rw [Array.length_toList] at q
    exact q
  obtain ⟨c, tl, hmro⟩ := F.called_set.mro
  have hmade := F.called_set.made
  have hsub := F.called_set.sub
  refine wpAny_call (codeAny_of_tree ?_)
  show wpAny _ _ (callAny (.type "set") _) _ _ _
  refine wpAny_pure ⟨Code.quiet_builtin _ (by decide +kernel), codeAny_builtin F.entry_type_call ?_⟩
  rw [Around.under_plain (weight_type_call_type "set" [.ref l] []) rfl]
  have h1 := F.called_set.notType
  have h2 := F.called_set.canCreate
  have hct := F.typeCall_set_1 (.ref l)
  repeat (any_goals (first | assumption | wp_step))
  refine codeAny_mono (code_set_led1 (.ref l) (E := E) (Q₁ := fun obj s₁ => obj = .ref s.heap.objs.size ∧ s₁ = { s with heap := s.heap.push { cls := .type "set", dict := none, data := .set #[] 0 (.fresh 0 0 (!w.params.followText "set-order")) } }) ⟨rfl, rfl⟩) fun r s₁ hr => ?_
  cases r with
  | error e => exact hr
  | ok fl =>
    cases fl with
    | ret obj =>
      obtain ⟨rfl, rfl⟩ := hr
      have hS : (s.heap.push { cls := .type "set", dict := none, data := .set #[] 0 (.fresh 0 0 (!w.params.followText "set-order")) }).get? s.heap.objs.size = some { cls := .type "set", dict := none, data := .set #[] 0 (.fresh 0 0 (!w.params.followText "set-order")) } := Heap.get?_push_size _ rfl
      have hT : Shared.TypeIs { s with heap := s.heap.push { cls := .type "set", dict := none, data := .set #[] 0 (.fresh 0 0 (!w.params.followText "set-order")) } } (.ref s.heap.objs.size) "set" := ⟨_, hS, rfl⟩
      have hli := F.called_set.init.lookup
      have hbi := F.called_set.init.bind (.ref s.heap.objs.size)
      repeat (any_goals (first | assumption | wp_step))
      refine codeAny_mono (codeAny_call_builtin (R := wants (fun r s₂ => r = .none ∧ ∃ h' tk c, s₂ = { s with heap := h', toks := tk } ∧ SetR w h' s.heap.objs.size (fun j => decide (j ∈ ns)) c ∧
          (∀ b o, s.heap.get? b = some o → h'.get? b = some o)) E) F.called_set.init.plain F.entry_set_init (check_set_init_1 hT ?_)) fun r₂ s₂ hr₂ => ?_
      · obtain ⟨ol, hol, hcl, nl, hdl⟩ := hl
        obtain ⟨ocls, odict, odata, oslots⟩ := ol
        simp only at hcl hdl
        subst hcl; subst hdl
        have hol' : (s.heap.push { cls := .type "set", dict := none, data := .set #[] 0 (.fresh 0 0 (!w.params.followText "set-order")) }).get? l = some { cls := .type "list", dict := odict, data := .seq items nl, slots := oslots } := Heap.get?_push_of_some _ hol
        have hsls := F.sub_list_set
        have hslf := F.sub_list_frozenset
        have hne : (Value.type "list" == Value.type "dict") = false := by decide
        have hl1 : (s.heap.push { cls := .type "set", dict := none, data := .set #[] 0 (.fresh 0 0 (!w.params.followText "set-order")) }).IsList l items := ⟨_, hol', rfl, nl, rfl⟩
        unfold Builtin.«set.__init__» noKeywords Builtin.Frozenset.updateFrom
        generalize hPI : pyIter = PI
        wp_walk
        subst hPI
        refine wpAny_pyIter_list hl1 ?_
        refine wpAny_bind (wpAny_runValue ?_)
        have hlS : l < s.heap.objs.size := Heap.lt_size hol
        have hh3 : A.in1.in1.in1.handled = none := by simp [hh]
        have hneI : l ≠ (s.heap.push { cls := .type "set", dict := none, data := .set #[] 0 (.fresh 0 0 (!w.params.followText "set-order")) }).objs.size := by
          rw [Heap.size_push]; exact Nat.ne_of_lt (Nat.lt_succ_of_lt hlS)
        have hSf : s.heap.objs.size ∉ [(s.heap.push { cls := .type "set", dict := none, data := .set #[] 0 (.fresh 0 0 (!w.params.followText "set-order")) }).objs.size, l] := by
          rw [Heap.size_push]; simp only [List.mem_cons, List.mem_singleton, List.not_mem_nil, or_false, not_or]
          exact ⟨Nat.ne_of_lt (Nat.lt_succ_self _), Nat.ne_of_gt hlS⟩
        have hval : ∀ (i : Nat) (v : Value), items[i]? = some v → ∃ k t, ns[i]? = some k ∧ v = .int k t := fun i v hv => by
          have hi : i < ns.length := by rw [← hisz]; exact (Array.getElem?_eq_some_iff.mp hv).1
          obtain ⟨t, e⟩ := PyProof.Rows.IntsAre.int_at hit i v (by rw [Array.getElem?_toList]; exact hv)
          refine ⟨ns[i], t, List.getElem?_eq_getElem hi, ?_⟩
          rw [e, List.getD_eq_getElem?_getD, List.getElem?_eq_getElem hi] <;> rfl
        refine set_update_ints ((Walks.list hh3 _ l hneI items).toS) s.heap.objs.size
          hSf ns hisz hb hval (items.size - 0) 0 _ (by omega) (Nat.zero_le _)
          ⟨⟨_, Heap.get?_push_size _ rfl, rfl, rfl⟩, (hl1.push _)⟩ ?hS0 ?hR
        case hS0 =>
          have hget : ((s.heap.push { cls := .type "set", dict := none, data := .set #[] 0 (.fresh 0 0 (!w.params.followText "set-order")) }).push { cls := .type "list_iterator", data := .fields #[.ref l, .int 0 0] }).get? s.heap.objs.size
              = some { cls := .type "set", dict := none, data := .set #[] 0 (.fresh 0 0 (!w.params.followText "set-order")) } := Heap.get?_push_of_some _ hS
          exact ⟨0, Nat.le_refl 0, setR_new_at hget⟩
        case hR =>
          intro s' c' hm hc' hS'
          obtain ⟨h', g2, d', tk', os'⟩ := s'
          have eg : g2 = s.gens := hm.gens
          have ed : d' = s.drawn := hm.drawn
          have eo : os' = s.os := hm.os
          subst eg; subst ed; subst eo
          show wpAny _ _ _ _ _ _
          refine wpAny_pure ?_
          show wpAny _ _ (ret Value.none) _ _ _
          refine wpAny_pure ⟨rfl, h', tk', c', rfl, hS', fun b o e => ?_⟩
          have hb0 : b < s.heap.objs.size := Heap.lt_size e
          have hb1 : b ≠ s.heap.objs.size := Nat.ne_of_lt hb0
          have hb2 : b ≠ (s.heap.push { cls := .type "set", dict := none, data := .set #[] 0 (.fresh 0 0 (!w.params.followText "set-order")) }).objs.size := by
            rw [Heap.size_push]; exact Nat.ne_of_lt (Nat.lt_succ_of_lt hb0)
          exact hm.heap b o (by simp only [List.mem_cons, List.mem_singleton, List.not_mem_nil, or_false, not_or]; exact ⟨hb1, hb2⟩) (Heap.get?_push_of_some _ (Heap.get?_push_of_some _ e))
      · cases r₂ with
        | error e => exact hr₂
        | ok fl₂ =>
          cases fl₂ with
          | ret r =>
            obtain ⟨rfl, h', tk, c', rfl, hS', hk'⟩ := hr₂
            repeat (any_goals (first | assumption | wp_step))
            exact h _ _ _ hS' hk'
          | _ => exact hr₂.elim
    | _ => exact hr.elim
end
section
variable {P : Program} {w : World} {A : Around} {E : Value → Shared → Prop} {s : Shared}
/-- sorted(set), any number of members -/
theorem sorted_set_any {a : Addr} {S : Int → Bool} {n : Nat} {Q : Value → Shared → Prop} (R : SetR w s.heap a S n) (hh : A.handled = none)
    (hQ : ∀ s' p (out : List Value) (c : Nat) (ns : List Int), (∀ b o, s.heap.get? b = some o → s'.heap.get? b = some o) → s'.gens = s.gens → s'.os = s.os → s.heap.objs.size ≤ p →
      s'.heap.get? p = some (seqObj "list" out.toArray c) → IntsAre out ns → ns.Pairwise (· < ·) → (∀ k, k ∈ ns ↔ S k = true) → ns.length = n → Q (.ref p) s') :
    wpAny (model P w) A (call (.builtin "sorted") [.ref a]) Q E s := by
  obtain ⟨o, es, ep, t, ho, hex, hd, g, nd, hm, hb, hf, hn, hr, hl⟩ := R
  refine Calls.call_function_entry kind_sorted plain_sorted entry_sorted (args_sorted1 _) ?_
  unfold Builtin.«sorted»
  refine wpAny_bind (m := checkCount "sorted" 1 1 _) (wpAny_pure ?_)
  refine wpAny_bind (collect_set (A := A.in1) hh ⟨o, ho, hex.1, hd⟩ hf hb hr hl fun s1 vs k1 hz g1 o1 pm => ?_)
  have hvl : vs.length = n := by rw [pm.length_eq, List.length_map, Array.length_toList]; exact hn
  have hI : IntsAre vs (vs.map Builtin.Re.reRawOf) := ints_of vs fun v hv => by
    obtain ⟨e, he, q⟩ := List.mem_map.mp (pm.mem_iff.mp hv)
    obtain ⟨k, tk, h1, _⟩ := g e he
    exact ⟨k, tk, by rw [← q]; exact h1⟩
  have pk : (vs.map Builtin.Re.reRawOf).Perm (es.toList.map keyOf) := by
    have q := pm.map Builtin.Re.reRawOf
    rw [List.map_map] at q
    exact q
  have hzl : vs.length ≤ sizeLine := by
    have : scanBound = 4096 := rfl
    rw [hvl, sizeLine_eq]; omega
  refine wpAny_bind (wpAny_newList ?_ hzl)
  have hoL : (s1.heap.push (seqObj "list" vs.toArray 0)).get? s1.heap.objs.size = some (seqObj "list" vs.toArray 0) := Heap.get?_push_size _ rfl
  refine wpAny_bind (wpAny_holding (wpAny_call_entry slot_list_sort ⟨_, hoL, rfl⟩ entry_list_sort (SrtO.list_sort_ord SrtO.swo_int hoL hzl (fun h2 => SrtO.ints_sortable hI h2) fun out h1 h2 => ⟨_, rfl, ?_⟩) (args_list_sort _)))
  obtain ⟨b1, b2, b3⟩ := SrtO.ints_out hI h1 h2
  obtain ⟨c, hc⟩ := sortedHeap_at (vs := vs) (out := out.toArray) hoL
  have pn : (out.map SrtO.iv).Perm (es.toList.map keyOf) := b2.trans pk
  refine wpAny_pure ⟨_, rfl, hQ _ s1.heap.objs.size out c (out.map SrtO.iv) (fun b u e => ?_) g1 o1 hz hc b1 (lt_of_le_nodup _ b3 (pn.nodup_iff.mpr nd)) (fun k => by rw [pn.mem_iff, ← hm k]) ?_⟩
  · have q := k1 b u e
    have hlt := Heap.lt_size q
    show (sortedHeap (s1.heap.push (seqObj "list" vs.toArray 0)) s1.heap.objs.size vs out.toArray).get? b = some u
    rw [sortedHeap_old (Nat.ne_of_lt hlt) (by rw [size_push']; exact Nat.lt_succ_of_lt hlt)]
    exact Heap.get?_push_of_some _ q
  · rw [pn.length_eq, List.length_map, Array.length_toList]; exact hn
end
section
variable {X : Cx}
theorem intsAreV {ns : List Int} : ∀ {us : List Value}, Vals (ns.map V.int) us → IntsAre us ns := by
  induction ns with
  | nil => intro us r; cases r; exact .nil
  | cons n ns ih => intro us r; cases r with
    | cons r t =>
      obtain ⟨k, rfl⟩ := r
      exact .cons n k (ih t)
/-- len(set(xs)) -/
def tLenSetN (K : Frag) (ta : TE) : TE := fun σ H Q => ta σ H fun x H1 => ∃ (l : Addr) (ns : List Int), x = V.ref l ∧ SqL K H1 l (ns.map V.int) ∧ ns.length ≤ 4000 ∧ ∀ ds : List Int, ds.Nodup → (∀ k, k ∈ ds ↔ k ∈ ns) → Q (.int (ds.length : Nat)) H1
theorem pe_lenSetN {a : Expr} {ta : TE} {p p2 q pos : Pos} (hc : X.calm = true) (hg : Gl X "len") (hm : X.mg "len" = none) (hg2 : Gl X "set") (hm2 : X.mg "set" = none) (ha : PE X a ta)
    (na : starEach [a] X.env = (false, eval a X.env) :: starEach [] X.env := by rfl) : PE X (.Call (.Name "len" p) [.Call (.Name "set" p2) [a] [] q] [] pos) (tLenSetN X.K ta) := by
  refine ⟨fun pins s σ H Q I h => ?_⟩
  refine Call_ (ld_blt I hg hm PySem.boot_len ?_)
  refine PyProof.Rows.callWith_builtin1 (PyProof.Rows.args_cons ?_ rfl) rfl rfl
  refine Call_ (ld_blt I hg2 hm2 PyProof.Rows.boot_set ?_)
  refine PyProof.Rows.callWith_type1 (PyProof.Rows.args_cons (thn (ha.run pins s σ H _ I h) fun v s1 ⟨x, H1, I1, r1, q1⟩ => PyProof.Rows.args_nil ?_) na) na rfl
  obtain ⟨l, ns, rfl, hq, h1, q1⟩ := q1
  cases r1
  obtain ⟨its, r, pl, hz⟩ := I1.list hq
  refine set_of_list ns (I1.ok.hd hc) pl.isList (by simpa using intsAreV r) (by unfold scanBound; omega) fun h' tk c hS hk => ?_
  refine PyProof.Rows.args_nil ?_
  obtain ⟨o, es, ep, t, ho, hex, hd, hg, hnd, hmem, hb, hf, hn, _, _⟩ := hS
  have I2 : Inv X pins σ H1 { s1 with heap := h', toks := tk } := I1.kept hk
  have hl : (es.toList.map keyOf).length = es.size := by rw [List.length_map, Array.length_toList]
  have q2 := q1 (es.toList.map keyOf) hnd fun k => by rw [← hmem k, decide_eq_true_eq]
  rw [hl] at q2
  exact call_len_set ho hex hd hf (by have : scanBound = 4096 := rfl; omega) ⟨.int es.size, H1, I2.tok _, ⟨_, rfl⟩, q2⟩
/-- sorted(set(xs)) -/
def tSortedSetN (K : Frag) (ta : TE) : TE := fun σ H Q => ta σ H fun x H1 => ∃ (l : Addr) (ns : List Int), x = V.ref l ∧ SqL K H1 l (ns.map V.int) ∧ ns.length ≤ 4000 ∧
  ∀ (ms : List Int) (p : Addr), ms.Pairwise (· < ·) → (∀ k, k ∈ ms ↔ k ∈ ns) → H1 p = none → Q (.ref p) (upd H1 p (.lst (ms.map V.int)))
theorem pe_sortedSetN {a : Expr} {ta : TE} {p p2 q pos : Pos} (hc : X.calm = true) (hg : Gl X "sorted") (hm : X.mg "sorted" = none) (hg2 : Gl X "set") (hm2 : X.mg "set" = none) (ha : PE X a ta)
    (na : starEach [a] X.env = (false, eval a X.env) :: starEach [] X.env := by rfl) : PE X (.Call (.Name "sorted" p) [.Call (.Name "set" p2) [a] [] q] [] pos) (tSortedSetN X.K ta) := by
  refine ⟨fun pins s σ H Q I h => ?_⟩
  refine Call_ (ld_blt I hg hm PyProof.Rows.boot_sorted ?_)
  refine PyProof.Rows.callWith_builtin1 (PyProof.Rows.args_cons ?_ rfl) rfl rfl
  refine Call_ (ld_blt I hg2 hm2 PyProof.Rows.boot_set ?_)
  refine PyProof.Rows.callWith_type1 (PyProof.Rows.args_cons (thn (ha.run pins s σ H _ I h) fun v s1 ⟨x, H1, I1, r1, q1⟩ => PyProof.Rows.args_nil ?_) na) na rfl
  obtain ⟨l, ns, rfl, hq, h1, q1⟩ := q1
  cases r1
  obtain ⟨its, r, pl, hz⟩ := I1.list hq
  refine set_of_list ns (I1.ok.hd hc) pl.isList (by simpa using intsAreV r) (by unfold scanBound; omega) fun h' tk c hS hk => ?_
  refine PyProof.Rows.args_nil ?_
  have I2 : Inv X pins σ H1 { s1 with heap := h', toks := tk } := I1.kept hk
  have hc64 : c ≤ 4096 := by
    obtain ⟨o, es, ep, t, ho, hex, hd, hg, hnd, hmem, hb, hf, hn, _, _⟩ := hS
    have : scanBound = 4096 := rfl
    omega
  refine sorted_set_any hS (I2.ok.hd hc) fun s' p' out c' ms k g o hp hg' hi hs hm' hl => ?_
  have hlen : (ms.map V.int).length ≤ sizeLine := by rw [List.length_map, hl, sizeLine_eq]; omega
  have hn : H1 p' = none := I2.hok.fresh hp
  have J : Inv X pins σ (upd H1 p' (.lst (ms.map V.int))) { ({ s1 with heap := h', toks := tk } : Shared) with heap := s'.heap, gens := s'.gens, drawn := s'.drawn, toks := s'.toks } :=
    I2.call (ch := []) (Un.laid k hp hn) (I2.hok.laid k hp ⟨hlen, out, c', vals_of_ints hi, hg'⟩) (by rw [g]; exact I2.bare) (fun _ z => nomatch z)
  have e : s' = { ({ s1 with heap := h', toks := tk } : Shared) with heap := s'.heap, gens := s'.gens, drawn := s'.drawn, toks := s'.toks } := by
    cases s'
    cases s1
    cases o
    rfl
  rw [e]
  exact ⟨.ref p', _, J, rfl, q1 ms p' hs (fun k => by rw [hm' k, decide_eq_true_eq]) hn⟩
end
section
variable {X : Cx}
/-- a op1 b op2 c op3 d -/
def tChain3 (r r' r2 : R2) (ta tb tc td : TE) : TE := fun σ H Q => ta σ H fun x H1 => tb σ H1 fun y H2 => r x y H2 fun z H3 => ∃ k, z = .bl k ∧
  (if k = true then tc σ H3 fun w' H4 => r' y w' H4 fun z2 H5 => ∃ k2, z2 = .bl k2 ∧ (if k2 = true then td σ H5 fun u H6 => r2 w' u H6 Q else Q (.bl false) H5) else Q (.bl false) H3)
theorem pe_chain3 {op op' op2 : CmpOp} {r r' r2 : R2} {a b c d : Expr} {ta tb tc td : TE} {pos : Pos} (ho : OpR X (compareOp op) r) (ho' : OpR X (compareOp op') r') (ho2 : OpR X (compareOp op2) r2) (ha : PE X a ta) (hb : PE X b tb) (hc : PE X c tc) (hd : PE X d td)
    (hm : lastMarks [op, op', op2] [b, c, d] = false) : PE X (.Compare a [op, op', op2] [b, c, d] pos) (tChain3 r r' r2 ta tb tc td) := by
  refine ⟨fun pins s σ H Q I h => ?_⟩
  refine Compare_chain (thn (ha.run pins s σ H _ I h) fun v s1 ⟨x, H1, I1, r1, q1⟩ => chain_link (thn (hb.run pins s1 σ H1 _ I1 q1) fun u s2 ⟨y, H2, I2, r2, q2⟩ =>
    thn (ho pins s2 σ H2 x y v u _ I2 r1 r2 q2) fun d' s3 ⟨z, H3, I3, r3, k, e, q3⟩ => ?_)) hm
  subst e
  cases r3
  refine wpAny_truthy_bool ?_
  cases k with
  | false => exact ite_ff ⟨.bl false, H3, I3, rfl, q3⟩
  | true =>
    refine ite_tt (chain_link (thn (hc.run pins s3 σ H3 _ I3 q3) fun w' s4 ⟨z', H4, I4, r4, q4⟩ => thn (ho' pins s4 σ H4 y z' u w' _ I4 r2 r4 q4) fun d2 s5 ⟨z2, H5, I5, r5, k2, e2, q5⟩ => ?_))
    subst e2
    cases r5
    refine wpAny_truthy_bool ?_
    cases k2 with
    | false => exact ite_ff ⟨.bl false, H5, I5, rfl, q5⟩
    | true => exact ite_tt (chain_last (thn (hd.run pins s5 σ H5 _ I5 q5) fun w2 s6 ⟨z3, H6, I6, r6, q6⟩ => ho2 pins s6 σ H6 z' z3 w' w2 Q I6 r4 r6 q6))
/-- a op1 b op2 c op3 d op4 e -/
def tChain4 (r r' r2 r3 : R2) (ta tb tc td tf : TE) : TE := fun σ H Q => ta σ H fun x H1 => tb σ H1 fun y H2 => r x y H2 fun z H3 => ∃ k, z = .bl k ∧
  (if k = true then tc σ H3 fun w' H4 => r' y w' H4 fun z2 H5 => ∃ k2, z2 = .bl k2 ∧ (if k2 = true then td σ H5 fun u H6 => r2 w' u H6 fun z4 H7 => ∃ k3, z4 = .bl k3 ∧ (if k3 = true then tf σ H7 fun u5 H8 => r3 u u5 H8 Q else Q (.bl false) H7) else Q (.bl false) H5) else Q (.bl false) H3)
theorem pe_chain4 {op op' op2 op3 : CmpOp} {r r' r2 r3 : R2} {a b c d f : Expr} {ta tb tc td tf : TE} {pos : Pos} (ho : OpR X (compareOp op) r) (ho' : OpR X (compareOp op') r') (ho2 : OpR X (compareOp op2) r2) (ho3 : OpR X (compareOp op3) r3) (ha : PE X a ta) (hb : PE X b tb) (hc : PE X c tc) (hd : PE X d td) (hf : PE X f tf)
    (hm : lastMarks [op, op', op2, op3] [b, c, d, f] = false) : PE X (.Compare a [op, op', op2, op3] [b, c, d, f] pos) (tChain4 r r' r2 r3 ta tb tc td tf) := by
  refine ⟨fun pins s σ H Q I h => ?_⟩
  refine Compare_chain (thn (ha.run pins s σ H _ I h) fun v s1 ⟨x, H1, I1, r1, q1⟩ => chain_link (thn (hb.run pins s1 σ H1 _ I1 q1) fun u s2 ⟨y, H2, I2, r2, q2⟩ =>
    thn (ho pins s2 σ H2 x y v u _ I2 r1 r2 q2) fun d' s3 ⟨z, H3, I3, r3, k, e, q3⟩ => ?_)) hm
  subst e
  cases r3
  refine wpAny_truthy_bool ?_
  cases k with
  | false => exact ite_ff ⟨.bl false, H3, I3, rfl, q3⟩
  | true =>
    refine ite_tt (chain_link (thn (hc.run pins s3 σ H3 _ I3 q3) fun w' s4 ⟨z', H4, I4, r4, q4⟩ => thn (ho' pins s4 σ H4 y z' u w' _ I4 r2 r4 q4) fun d2 s5 ⟨z2, H5, I5, r5, k2, e2, q5⟩ => ?_))
    subst e2
    cases r5
    refine wpAny_truthy_bool ?_
    cases k2 with
    | false => exact ite_ff ⟨.bl false, H5, I5, rfl, q5⟩
    | true =>
      refine ite_tt (chain_link (thn (hd.run pins s5 σ H5 _ I5 q5) fun w2 s6 ⟨z3, H6, I6, r6, q6⟩ => thn (ho2 pins s6 σ H6 z' z3 w' w2 _ I6 r4 r6 q6) fun d3 s7 ⟨z4, H7, I7, r7, k3, e3, q7⟩ => ?_))
      subst e3
      cases r7
      refine wpAny_truthy_bool ?_
      cases k3 with
      | false => exact ite_ff ⟨.bl false, H7, I7, rfl, q7⟩
      | true => exact ite_tt (chain_last (thn (hf.run pins s7 σ H7 _ I7 q7) fun w3 s8 ⟨z5, H8, I8, r8, q8⟩ => ho3 pins s8 σ H8 z3 z5 w2 w3 Q I8 r6 r8 q8))
theorem pt_chain4 {op op' op2 op3 : CmpOp} {r r' r2 r3 : R2} {a b c d f : Expr} {ta tb tc td tf : TE} {pos : Pos} (ho : OpR X (compareOp op) r) (ho' : OpR X (compareOp op') r') (ho2 : OpR X (compareOp op2) r2) (ho3 : OpR X (compareOp op3) r3) (ha : PE X a ta) (hb : PE X b tb) (hc : PE X c tc) (hd : PE X d td) (hf : PE X f tf)
    (hm : lastMarks [op, op', op2, op3] [b, c, d, f] = false) : PT X (.Compare a [op, op', op2, op3] [b, c, d, f] pos) (tTest (tChain4 r r' r2 r3 ta tb tc td tf)) := by
  refine ⟨fun pins s σ H Q I h => ?_⟩
  refine isTrue_chain (thn (ha.run pins s σ H _ I h) fun v s1 ⟨x, H1, I1, r1, q1⟩ => test_link (thn (hb.run pins s1 σ H1 _ I1 q1) fun u s2 ⟨y, H2, I2, r2, q2⟩ =>
    thn (ho pins s2 σ H2 x y v u _ I2 r1 r2 q2) fun d' s3 ⟨z, H3, I3, r3, k, e, q3⟩ => ?_)) hm
  subst e
  cases r3
  refine wpAny_truthy_bool ?_
  cases k with
  | false =>
    obtain ⟨k', e', q'⟩ := q3
    cases e'
    exact ite_ff ⟨H3, I3, q'⟩
  | true =>
    refine ite_tt (test_link (thn (hc.run pins s3 σ H3 _ I3 q3) fun w' s4 ⟨z', H4, I4, r4, q4⟩ => thn (ho' pins s4 σ H4 y z' u w' _ I4 r2 r4 q4) fun d2 s5 ⟨z2, H5, I5, r5, k2, e2, q5⟩ => ?_))
    subst e2
    cases r5
    refine wpAny_truthy_bool ?_
    cases k2 with
    | false =>
      obtain ⟨k', e', q'⟩ := q5
      cases e'
      exact ite_ff ⟨H5, I5, q'⟩
    | true =>
      refine ite_tt (test_link (thn (hd.run pins s5 σ H5 _ I5 q5) fun w2 s6 ⟨z3, H6, I6, r6, q6⟩ => thn (ho2 pins s6 σ H6 z' z3 w' w2 _ I6 r4 r6 q6) fun d3 s7 ⟨z4, H7, I7, r7, k3, e3, q7⟩ => ?_))
      subst e3
      cases r7
      refine wpAny_truthy_bool ?_
      cases k3 with
      | false =>
        obtain ⟨k', e', q'⟩ := q7
        cases e'
        exact ite_ff ⟨H7, I7, q'⟩
      | true =>
        refine ite_tt (test_last (thn (hf.run pins s7 σ H7 _ I7 q7) fun w3 s8 ⟨z5, H8, I8, r8, q8⟩ => thn (ho3 pins s8 σ H8 z3 z5 w2 w3 _ I8 r6 r8 q8) fun d4 s9 ⟨z6, H9, I9, r9, k4, e4, q9⟩ => ?_))
        subst e4
        cases r9
        exact wpAny_truthy_bool ⟨H9, I9, q9⟩
theorem pt_chain3 {op op' op2 : CmpOp} {r r' r2 : R2} {a b c d : Expr} {ta tb tc td : TE} {pos : Pos} (ho : OpR X (compareOp op) r) (ho' : OpR X (compareOp op') r') (ho2 : OpR X (compareOp op2) r2) (ha : PE X a ta) (hb : PE X b tb) (hc : PE X c tc) (hd : PE X d td)
    (hm : lastMarks [op, op', op2] [b, c, d] = false) : PT X (.Compare a [op, op', op2] [b, c, d] pos) (tTest (tChain3 r r' r2 ta tb tc td)) := by
  refine ⟨fun pins s σ H Q I h => ?_⟩
  refine isTrue_chain (thn (ha.run pins s σ H _ I h) fun v s1 ⟨x, H1, I1, r1, q1⟩ => test_link (thn (hb.run pins s1 σ H1 _ I1 q1) fun u s2 ⟨y, H2, I2, r2, q2⟩ =>
    thn (ho pins s2 σ H2 x y v u _ I2 r1 r2 q2) fun d' s3 ⟨z, H3, I3, r3, k, e, q3⟩ => ?_)) hm
  subst e
  cases r3
  refine wpAny_truthy_bool ?_
  cases k with
  | false =>
    obtain ⟨k', e', q'⟩ := q3
    cases e'
    exact ite_ff ⟨H3, I3, q'⟩
  | true =>
    refine ite_tt (test_link (thn (hc.run pins s3 σ H3 _ I3 q3) fun w' s4 ⟨z', H4, I4, r4, q4⟩ => thn (ho' pins s4 σ H4 y z' u w' _ I4 r2 r4 q4) fun d2 s5 ⟨z2, H5, I5, r5, k2, e2, q5⟩ => ?_))
    subst e2
    cases r5
    refine wpAny_truthy_bool ?_
    cases k2 with
    | false =>
      obtain ⟨k', e', q'⟩ := q5
      cases e'
      exact ite_ff ⟨H5, I5, q'⟩
    | true =>
      refine ite_tt (test_last (thn (hd.run pins s5 σ H5 _ I5 q5) fun w2 s6 ⟨z3, H6, I6, r6, q6⟩ => thn (ho2 pins s6 σ H6 z' z3 w' w2 _ I6 r4 r6 q6) fun d3 s7 ⟨z4, H7, I7, r7, k3, e3, q7⟩ => ?_))
      subst e3
      cases r7
      exact wpAny_truthy_bool ⟨H7, I7, q7⟩
end
section
variable {L : List Ent} {c : SC} {X : Cx} {W : WX} {me : List Nat}
theorem marks3 {op op' op2 : PySem.CmpOp} {b d e : Expr} (h : noSet e = true) : PySem.lastMarks [op, op', op2] [b, d, e] = false := by
  show PySem.behindInMarks op2 e = false
  exact noSet_mark h
theorem st_chn3 {o q t : CO} {a b d e : E} {a' b' d' e' : Expr} {p : PySem.Pos} (C : Cok L c X W) (ha : PE X a' (tE (sigOf L me) X.mg W a)) (hb : PE X b' (tE (sigOf L me) X.mg W b)) (hd : PE X d' (tE (sigOf L me) X.mg W d)) (he : PE X e' (tE (sigOf L me) X.mg W e)) (hn : noSet e' = true) :
    PE X (.Compare a' [cmpOf o, cmpOf q, cmpOf t] [b', d', e'] p) (tE (sigOf L me) X.mg W (.chn3 o q t a b d e)) := by
  refine PE.weak (pe_chain3 any_ok any_ok any_ok ha hb hd he (marks3 hn)) fun σ H Q ⟨env, F, O, K, R, s, hh, w, ok, ox⟩ => ?_
  simp only [wpE] at w
  refine ⟨env, F, O, _, R, s, hh, w, fun d1 env1 w1 F1 Od1 Oe1 v1 H1 n1 r1 s1 => ?_, ox⟩
  refine ⟨env1, F1, Oe1, _, R, s1, n1.held.right, w1, fun d2 env2 w2 F2 Od2 Oe2 v2 H2 n2 r2 s2 => ?_, ox.step n1.drop⟩
  have nf := Next.frame n1.held n2
  refine cmp_ok w2 (r1.mono n2.f) r2 n2.held.f nf.held.left.o n2.held.left.o C.hu fun k hk => ⟨k, rfl, ?_⟩
  have n12 := (n1.trans nf).drop
  cases k with
  | false => exact ok _ env2 hk F2 [] Oe2 _ H2 n12.drop (.bl _) s2
  | true =>
    refine ⟨env2, F2, Oe2, _, R, s2, n12.held.right, hk, fun d3 env3 w3 F3 Od3 Oe3 v3 H3 n3 r3 s3 => ?_, ox.step n12.drop⟩
    have ng := Next.frame n12.held n3
    refine cmp_ok w3 (r2.mono n3.f) r3 n3.held.f ng.held.left.o n3.held.left.o C.hu fun k' hk' => ⟨k', rfl, ?_⟩
    have n13 := (n12.trans ng).drop
    cases k' with
    | false => exact ok _ env3 hk' F3 [] Oe3 _ H3 n13.drop (.bl _) s3
    | true =>
      refine ⟨env3, F3, Oe3, _, R, s3, n13.held.right, hk', fun d4 env4 w4 F4 Od4 Oe4 v4 H4 n4 r4 s4 => ?_, ox.step n13.drop⟩
      have nh := Next.frame n13.held n4
      exact cmp_ok w4 (r3.mono n4.f) r4 n4.held.f nh.held.left.o n4.held.left.o C.hu fun k2 hk2 => ok _ env4 hk2 F4 [] Oe4 _ H4 (n13.trans nh).drop.drop (.bl _) s4
theorem tt_chn3 {o q t : CO} {a b d e : E} {a' b' d' e' : Expr} {p : PySem.Pos} (C : Cok L c X W) (ha : PE X a' (tE (sigOf L me) X.mg W a)) (hb : PE X b' (tE (sigOf L me) X.mg W b)) (hd : PE X d' (tE (sigOf L me) X.mg W d)) (he : PE X e' (tE (sigOf L me) X.mg W e)) (hn : noSet e' = true) :
    PT X (.Compare a' [cmpOf o, cmpOf q, cmpOf t] [b', d', e'] p) (tT (sigOf L me) X.mg W (.chn3 o q t a b d e)) := by
  refine PT.weak (pt_chain3 any_ok any_ok any_ok ha hb hd he (marks3 hn)) fun σ H Q ⟨env, F, O, K, R, s, hh, w, ok, ox⟩ => ?_
  simp only [wpT] at w
  refine ⟨env, F, O, _, R, s, hh, w, fun d1 env1 w1 F1 Od1 Oe1 v1 H1 n1 r1 s1 => ?_, ox⟩
  refine ⟨env1, F1, Oe1, _, R, s1, n1.held.right, w1, fun d2 env2 w2 F2 Od2 Oe2 v2 H2 n2 r2 s2 => ?_, ox.step n1.drop⟩
  have nf := Next.frame n1.held n2
  refine cmp_ok w2 (r1.mono n2.f) r2 n2.held.f nf.held.left.o n2.held.left.o C.hu fun k hk => ⟨k, rfl, ?_⟩
  have n12 := (n1.trans nf).drop
  cases k with
  | false => exact ⟨_, rfl, ok _ env2 hk F2 Oe2 H2 n12.drop s2⟩
  | true =>
    refine ⟨env2, F2, Oe2, _, R, s2, n12.held.right, hk, fun d3 env3 w3 F3 Od3 Oe3 v3 H3 n3 r3 s3 => ?_, ox.step n12.drop⟩
    have ng := Next.frame n12.held n3
    refine cmp_ok w3 (r2.mono n3.f) r3 n3.held.f ng.held.left.o n3.held.left.o C.hu fun k' hk' => ⟨k', rfl, ?_⟩
    have n13 := (n12.trans ng).drop
    cases k' with
    | false => exact ⟨_, rfl, ok _ env3 hk' F3 Oe3 H3 n13.drop s3⟩
    | true =>
      refine ⟨env3, F3, Oe3, _, R, s3, n13.held.right, hk', fun d4 env4 w4 F4 Od4 Oe4 v4 H4 n4 r4 s4 => ?_, ox.step n13.drop⟩
      have nh := Next.frame n13.held n4
      exact cmp_ok w4 (r3.mono n4.f) r4 n4.held.f nh.held.left.o n4.held.left.o C.hu fun k2 hk2 => ⟨_, rfl, ok _ env4 hk2 F4 Oe4 H4 (n13.trans nh).drop.drop s4⟩
theorem marks4 {op op' op2 op3 : PySem.CmpOp} {b d e f : Expr} (h : noSet f = true) : PySem.lastMarks [op, op', op2, op3] [b, d, e, f] = false := by
  show PySem.behindInMarks op3 f = false
  exact noSet_mark h
theorem st_chn4 {o q t t2 : CO} {a b d e f : E} {a' b' d' e' f' : Expr} {p : PySem.Pos} (C : Cok L c X W) (ha : PE X a' (tE (sigOf L me) X.mg W a)) (hb : PE X b' (tE (sigOf L me) X.mg W b)) (hd : PE X d' (tE (sigOf L me) X.mg W d)) (he : PE X e' (tE (sigOf L me) X.mg W e)) (hf : PE X f' (tE (sigOf L me) X.mg W f)) (hn : noSet f' = true) :
    PE X (.Compare a' [cmpOf o, cmpOf q, cmpOf t, cmpOf t2] [b', d', e', f'] p) (tE (sigOf L me) X.mg W (.chn4 o q t t2 a b d e f)) := by
  refine PE.weak (pe_chain4 any_ok any_ok any_ok any_ok ha hb hd he hf (marks4 hn)) fun σ H Q ⟨env, F, O, K, R, s, hh, w, ok, ox⟩ => ?_
  simp only [wpE] at w
  refine ⟨env, F, O, _, R, s, hh, w, fun d1 env1 w1 F1 Od1 Oe1 v1 H1 n1 r1 s1 => ?_, ox⟩
  refine ⟨env1, F1, Oe1, _, R, s1, n1.held.right, w1, fun d2 env2 w2 F2 Od2 Oe2 v2 H2 n2 r2 s2 => ?_, ox.step n1.drop⟩
  have nf := Next.frame n1.held n2
  refine cmp_ok w2 (r1.mono n2.f) r2 n2.held.f nf.held.left.o n2.held.left.o C.hu fun k hk => ⟨k, rfl, ?_⟩
  have n12 := (n1.trans nf).drop
  cases k with
  | false => exact ok _ env2 hk F2 [] Oe2 _ H2 n12.drop (.bl _) s2
  | true =>
    refine ⟨env2, F2, Oe2, _, R, s2, n12.held.right, hk, fun d3 env3 w3 F3 Od3 Oe3 v3 H3 n3 r3 s3 => ?_, ox.step n12.drop⟩
    have ng := Next.frame n12.held n3
    refine cmp_ok w3 (r2.mono n3.f) r3 n3.held.f ng.held.left.o n3.held.left.o C.hu fun k' hk' => ⟨k', rfl, ?_⟩
    have n13 := (n12.trans ng).drop
    cases k' with
    | false => exact ok _ env3 hk' F3 [] Oe3 _ H3 n13.drop (.bl _) s3
    | true =>
      refine ⟨env3, F3, Oe3, _, R, s3, n13.held.right, hk', fun d4 env4 w4 F4 Od4 Oe4 v4 H4 n4 r4 s4 => ?_, ox.step n13.drop⟩
      have nh := Next.frame n13.held n4
      refine cmp_ok w4 (r3.mono n4.f) r4 n4.held.f nh.held.left.o n4.held.left.o C.hu fun k2 hk2 => ⟨k2, rfl, ?_⟩
      have n14 := (n13.trans nh).drop
      cases k2 with
      | false => exact ok _ env4 hk2 F4 [] Oe4 _ H4 n14.drop (.bl _) s4
      | true =>
        refine ⟨env4, F4, Oe4, _, R, s4, n14.held.right, hk2, fun d5 env5 w5 F5 Od5 Oe5 v5 H5 n5 r5 s5 => ?_, ox.step n14.drop⟩
        have ni := Next.frame n14.held n5
        exact cmp_ok w5 (r4.mono n5.f) r5 n5.held.f ni.held.left.o n5.held.left.o C.hu fun k3 hk3 => ok _ env5 hk3 F5 [] Oe5 _ H5 (n14.trans ni).drop.drop (.bl _) s5
theorem tt_chn4 {o q t t2 : CO} {a b d e f : E} {a' b' d' e' f' : Expr} {p : PySem.Pos} (C : Cok L c X W) (ha : PE X a' (tE (sigOf L me) X.mg W a)) (hb : PE X b' (tE (sigOf L me) X.mg W b)) (hd : PE X d' (tE (sigOf L me) X.mg W d)) (he : PE X e' (tE (sigOf L me) X.mg W e)) (hf : PE X f' (tE (sigOf L me) X.mg W f)) (hn : noSet f' = true) :
    PT X (.Compare a' [cmpOf o, cmpOf q, cmpOf t, cmpOf t2] [b', d', e', f'] p) (tT (sigOf L me) X.mg W (.chn4 o q t t2 a b d e f)) := by
  refine PT.weak (pt_chain4 any_ok any_ok any_ok any_ok ha hb hd he hf (marks4 hn)) fun σ H Q ⟨env, F, O, K, R, s, hh, w, ok, ox⟩ => ?_
  simp only [wpT] at w
  refine ⟨env, F, O, _, R, s, hh, w, fun d1 env1 w1 F1 Od1 Oe1 v1 H1 n1 r1 s1 => ?_, ox⟩
  refine ⟨env1, F1, Oe1, _, R, s1, n1.held.right, w1, fun d2 env2 w2 F2 Od2 Oe2 v2 H2 n2 r2 s2 => ?_, ox.step n1.drop⟩
  have nf := Next.frame n1.held n2
  refine cmp_ok w2 (r1.mono n2.f) r2 n2.held.f nf.held.left.o n2.held.left.o C.hu fun k hk => ⟨k, rfl, ?_⟩
  have n12 := (n1.trans nf).drop
  cases k with
  | false => exact ⟨_, rfl, ok _ env2 hk F2 Oe2 H2 n12.drop s2⟩
  | true =>
    refine ⟨env2, F2, Oe2, _, R, s2, n12.held.right, hk, fun d3 env3 w3 F3 Od3 Oe3 v3 H3 n3 r3 s3 => ?_, ox.step n12.drop⟩
    have ng := Next.frame n12.held n3
    refine cmp_ok w3 (r2.mono n3.f) r3 n3.held.f ng.held.left.o n3.held.left.o C.hu fun k' hk' => ⟨k', rfl, ?_⟩
    have n13 := (n12.trans ng).drop
    cases k' with
    | false => exact ⟨_, rfl, ok _ env3 hk' F3 Oe3 H3 n13.drop s3⟩
    | true =>
      refine ⟨env3, F3, Oe3, _, R, s3, n13.held.right, hk', fun d4 env4 w4 F4 Od4 Oe4 v4 H4 n4 r4 s4 => ?_, ox.step n13.drop⟩
      have nh := Next.frame n13.held n4
      refine cmp_ok w4 (r3.mono n4.f) r4 n4.held.f nh.held.left.o n4.held.left.o C.hu fun k2 hk2 => ⟨k2, rfl, ?_⟩
      have n14 := (n13.trans nh).drop
      cases k2 with
      | false => exact ⟨_, rfl, ok _ env4 hk2 F4 Oe4 H4 n14.drop s4⟩
      | true =>
        refine ⟨env4, F4, Oe4, _, R, s4, n14.held.right, hk2, fun d5 env5 w5 F5 Od5 Oe5 v5 H5 n5 r5 s5 => ?_, ox.step n14.drop⟩
        have ni := Next.frame n14.held n5
        exact cmp_ok w5 (r4.mono n5.f) r5 n5.held.f ni.held.left.o n5.held.left.o C.hu fun k3 hk3 => ⟨_, rfl, ok _ env5 hk3 F5 Oe5 H5 (n14.trans ni).drop.drop s5⟩
theorem st_sset {a : E} {e : Expr} {q q2 p p2 : PySem.Pos} (C : Cok L c X W) (hot : c.hot = false) (hx : glob c (Str.ofString "sorted") = true) (hx2 : glob c (Str.ofString "set") = true) (hc : chkE c a e = true) (ha : PE X e (tE (sigOf L me) X.mg W a)) :
    PE X (.Call (.Name (Str.ofString "sorted") q) [.Call (.Name (Str.ofString "set") q2) [e] [] p] [] p2) (tE (sigOf L me) X.mg W (.sset a)) := by
  have h1 : PySem.starEach [e] X.env = (false, PySem.eval e X.env) :: PySem.starEach [] X.env := star_cons (chk_star hc)
  refine PE.weak (pe_sortedSetN (C.calm hot) (C.glob hx).1 (C.bn (by decide)) (C.glob hx2).1 (C.bn (by decide)) ha h1) fun σ H Q ⟨env, F, O, K, R', s, hh, w, ok, ox⟩ => ?_
  simp only [wpE] at w
  refine ⟨env, F, O, _, R', s, hh, w, fun d1 env1 w1 F1 Od1 Oe1 v1 H1 n1 r1 s1 => ?_, ox⟩
  obtain ⟨xs, ns, l1, l2, l3, hk⟩ := w1
  obtain ⟨o, rfl⟩ := lstD_eq l1
  obtain ⟨a1, us, P, rfl, e1, q1, _⟩ := r1.lstB n1.held.f n1.held.left.o
  obtain ⟨rfl, _, _⟩ := intsD_rep q1 l2
  refine ⟨a1, ns, rfl, .inl e1, l3, fun ms p' hp hm hn => ?_⟩
  have nS := Next.newO n1.drop.held hn (.lst (ms.map V.int))
  exact ok _ env1 (hk ms hp hm) F1 [(p', .lst (ms.map V.int))] Oe1 (.ref p') _ (n1.drop.trans nS) (.own (repL_ints ms)) s1
theorem st_lset {a : E} {e : Expr} {q q2 p p2 : PySem.Pos} (C : Cok L c X W) (hot : c.hot = false) (hx : glob c (Str.ofString "len") = true) (hx2 : glob c (Str.ofString "set") = true) (hc : chkE c a e = true) (ha : PE X e (tE (sigOf L me) X.mg W a)) :
    PE X (.Call (.Name (Str.ofString "len") q) [.Call (.Name (Str.ofString "set") q2) [e] [] p] [] p2) (tE (sigOf L me) X.mg W (.lset a)) := by
  have h1 : PySem.starEach [e] X.env = (false, PySem.eval e X.env) :: PySem.starEach [] X.env := star_cons (chk_star hc)
  refine PE.weak (pe_lenSetN (C.calm hot) (C.glob hx).1 (C.bn (by decide)) (C.glob hx2).1 (C.bn (by decide)) ha h1) fun σ H Q ⟨env, F, O, K, R', s, hh, w, ok, ox⟩ => ?_
  simp only [wpE] at w
  refine ⟨env, F, O, _, R', s, hh, w, fun d1 env1 w1 F1 Od1 Oe1 v1 H1 n1 r1 s1 => ?_, ox⟩
  obtain ⟨xs, ns, l1, l2, l3, hk⟩ := w1
  obtain ⟨o, rfl⟩ := lstD_eq l1
  obtain ⟨a1, us, P, rfl, e1, q1, _⟩ := r1.lstB n1.held.f n1.held.left.o
  obtain ⟨rfl, _, _⟩ := intsD_rep q1 l2
  exact ⟨a1, ns, rfl, .inl e1, l3, fun ds hp hm => ok _ env1 (hk ds hp hm) F1 [] Oe1 _ H1 n1.drop (.int _) s1⟩
theorem repL_rev {F : Hp} : ∀ {ds : List D} {vs : List V}, RepL F ds vs [] → RepL F ds.reverse vs.reverse []
  | [], _, .nil => .nil
  | d :: ds, v :: vs, h => by
    have h2 : Rep F d v [] ∧ RepL F ds vs [] := by
      generalize ho : ([] : Own) = O at h
      cases h with
      | cons a b =>
        obtain ⟨rfl, rfl⟩ := List.append_eq_nil_iff.mp ho.symm
        exact ⟨a, b⟩
    rw [List.reverse_cons, List.reverse_cons]
    exact RepL.append (O := []) (P := []) (repL_rev h2.2) (RepL.mk h2.1 .nil)
theorem st_ice {a : E} {e : Expr} (ha : PE X e (tE (sigOf L me) X.mg W a)) : PE X e (tE (sigOf L me) X.mg W (.ice a)) := by
  refine PE.weak ha fun σ H Q ⟨env, F, O, K, R', s, hh, w, ok, ox⟩ => ?_
  simp only [wpE] at w
  refine ⟨env, F, O, _, R', s, hh, w, fun d1 env1 w1 F1 Od1 Oe1 v1 H1 n1 r1 s1 => ?_, ox⟩
  have nz := Next.freeze n1.held
  have mz := addF_in (F := F1) n1.held.left.nd
  have z1 := r1.froz nz.f fun p hp => mz p hp
  exact ok _ env1 w1 _ [] Oe1 v1 _ (n1.trans nz) z1 (s1.mono nz.f)
theorem st_rvl {a : E} {e : Expr} {k : Nat} {p1 p2 p3 p : PySem.Pos} (C : Cok L c X W) (ha : PE X e (tE (sigOf L me) X.mg W a)) :
    PE X (.Subscript e (.Slice none none (some (.UnaryOp .USub (.Constant (.int 1) k p1) p2)) p3) p) (tE (sigOf L me) X.mg W (.rvl a)) := by
  refine PE.weak (pe_revL ha) fun σ H Q ⟨env, F, O, K, R', s, hh, w, ok, ox⟩ => ?_
  simp only [wpE] at w
  refine ⟨env, F, O, _, R', s, hh, w, fun d1 env1 w1 F1 Od1 Oe1 v1 H1 n1 r1 s1 => ?_, ox⟩
  obtain ⟨xs, l1, hk⟩ := w1
  obtain ⟨o, rfl⟩ := lstD_eq l1
  have nz := Next.freeze n1.held
  have mz := addF_in (F := F1) n1.held.left.nd
  have z1 := r1.froz nz.f fun p hp => mz p hp
  have nn := n1.trans nz
  have s3 := s1.mono nz.f
  obtain ⟨a1, vs, rfl, e2, q1⟩ := frz_lst z1
  refine ⟨a1, vs, rfl, .inl (nn.held.f.rd e2), fun p hp => ?_⟩
  have nS := Next.newO nn.held hp (.lst vs.reverse)
  exact ok _ env1 hk _ [(p, .lst vs.reverse)] Oe1 (.ref p) _ (nn.trans nS) (.own (repL_rev q1)) s3
end
end DP

/-! DpN: every expression of the small language runs as its data say. -/
namespace DP
open PySem (Addr sizeLine wpAny model Value Shared Around FuncData BindsTo codeAny Str Paired Expr)
open PySem.W (Frag)
open L2
variable [CT]

section
variable {L : List Ent} {c : SC} {X : Cx} {W : WX} {me : List Nat}
theorem RepL.nilO {F : Hp} {vs : List V} {O : Own} (r : RepL F [] vs O) : O = [] := by cases r; rfl
/-! ### keyword calls -/
theorem chkK_kw {env : PySem.Env} {pos : PySem.Pos} : ∀ {ks : List String} {bs : Es} {kws : List PySem.Keyword}, chkK c ks bs kws = true → bs.len = ks.length ∧ (PySem.backToKw pos (PySem.keywordEach kws env)).filterMap (·.1) = ks.map Str.ofString ∧
    (PySem.backToKw pos (PySem.keywordEach kws env)).all (·.1.isSome) = true ∧ (PySem.backToKw pos (PySem.keywordEach kws env)).any (·.1.isNone) = false
  | [], .nil, [], _ => ⟨rfl, rfl, rfl, rfl⟩
  | k :: ks, .cons a as, ⟨some k', a', p⟩ :: kws, h => by
    simp only [chkK, Bool.and_eq_true, decide_eq_true_eq] at h
    obtain ⟨⟨rfl, _⟩, h2⟩ := h
    obtain ⟨l, h3, h4, h5⟩ := chkK_kw (env := env) (pos := pos) h2
    refine ⟨by show as.len + 1 = ks.length + 1; rw [l], ?_, ?_, ?_⟩
    · show Str.ofString k :: (PySem.backToKw pos (PySem.keywordEach kws env)).filterMap (·.1) = _
      rw [h3]; rfl
    · show (true && (PySem.backToKw pos (PySem.keywordEach kws env)).all (·.1.isSome)) = true
      rw [h4]; rfl
    · show (false || (PySem.backToKw pos (PySem.keywordEach kws env)).any (·.1.isNone)) = false
      rw [h5]; rfl
  | k :: ks, .cons a as, ⟨none, a', p⟩ :: kws, h => by simp [chkK] at h
  | [], .nil, _ :: _, h => by simp [chkK] at h
  | [], .cons _ _, _, h => by simp [chkK] at h
  | _ :: _, .nil, _, h => by simp [chkK] at h
  | _ :: _, .cons _ _, [], h => by simp [chkK] at h
theorem atAll_len {α : Type} {l : List α} : ∀ {ix : List Nat}, (∀ j ∈ ix, j < l.length) → (atAll l ix).length = ix.length
  | [], _ => rfl
  | j :: ix, h => by
    have hj := h j List.mem_cons_self
    show (List.filterMap (fun j => l[j]?) (j :: ix)).length = _
    rw [List.filterMap_cons, List.getElem?_eq_getElem hj]
    show (atAll l ix).length + 1 = ix.length + 1
    rw [atAll_len fun i hi => h i (List.mem_cons_of_mem _ hi)]
theorem vals_at {vs : List V} {us : List Value} (r : Vals vs us) : ∀ {ix : List Nat}, (∀ j ∈ ix, j < vs.length) → Vals (atAll vs ix) (atAll us ix)
  | [], _ => .nil
  | j :: ix, h => by
    have hj := h j List.mem_cons_self
    have hj' : j < us.length := by rw [← r.length]; exact hj
    have e1 : atAll vs (j :: ix) = vs[j] :: atAll vs ix := by
      show List.filterMap (fun j => vs[j]?) (j :: ix) = _
      rw [List.filterMap_cons, List.getElem?_eq_getElem hj]; rfl
    have e2 : atAll us (j :: ix) = us[j] :: atAll us ix := by
      show List.filterMap (fun j => us[j]?) (j :: ix) = _
      rw [List.filterMap_cons, List.getElem?_eq_getElem hj']; rfl
    rw [e1, e2]
    refine .cons ?_ (vals_at r fun i hi => h i (List.mem_cons_of_mem _ hi))
    have go : ∀ {xs : List V} {ys : List Value}, Vals xs ys → ∀ {i : Nat} (p : i < xs.length) (q : i < ys.length), RelV xs[i] ys[i] := by
      intro xs ys r
      induction r with
      | nil => intro i p; simp at p
      | cons a b ih =>
        intro i p q
        cases i with
        | zero => exact a
        | succ i => exact ih (by simpa using p) (by simpa using q)
    exact go r hj hj'
theorem repL_at {F : Hp} {ds : List D} {vs : List V} (r : RepL F ds vs []) : ∀ {ix : List Nat}, (∀ j ∈ ix, j < ds.length) → RepL F (atAll ds ix) (atAll vs ix) []
  | [], _ => .nil
  | j :: ix, h => by
    have hj := h j List.mem_cons_self
    obtain ⟨v, e, q⟩ := r.nth0 (List.getElem?_eq_getElem hj)
    have e1 : atAll ds (j :: ix) = ds[j] :: atAll ds ix := by
      show List.filterMap (fun j => ds[j]?) (j :: ix) = _
      rw [List.filterMap_cons, List.getElem?_eq_getElem hj]; rfl
    have e2 : atAll vs (j :: ix) = v :: atAll vs ix := by
      show List.filterMap (fun j => vs[j]?) (j :: ix) = _
      rw [List.filterMap_cons, e]; rfl
    rw [e1, e2]
    exact RepL.cons (O1 := []) (O2 := []) q (repL_at r fun i hi => h i (List.mem_cons_of_mem _ hi))
theorem pick_none : ∀ {ios : List Bool} {vs : List V}, ios.all (! ·) = true → pick ios vs = []
  | [], _, _ => by cases ‹List V› <;> rfl
  | true :: _, _, h => by simp at h
  | false :: bs, [], _ => rfl
  | false :: bs, _ :: vs, h => by
    show pick bs vs = []
    exact pick_none (by simpa using h)
theorem st_calk {f : String} {as bs : Es} {ks : List String} {es : List Expr} {kws : List PySem.Keyword} {q p : PySem.Pos} (C : Cok L c X W) (hot : c.hot = false) (hx : glob c (Str.ofString f) = true) (hc : chkEs c as es = true) (hk : chkK c ks bs kws = true) (hf : c.kws.contains (f, es.length, ks) = true)
    (ha : PA X es (tEs (sigOf L me) X.mg W as)) (hb : PK X kws (tEs (sigOf L me) X.mg W bs)) : PE X (.Call (.Name (Str.ofString f) q) es kws p) (tE (sigOf L me) X.mg W (.calk f as ks bs)) := by
  obtain ⟨e, k, en, el, hr, KE, e1, e2, e3⟩ := C.entK hot me hf
  obtain ⟨a, fd, m1, m2, G, b1, b2⟩ := KE.ok
  obtain ⟨g1, g2⟩ := C.glob hx
  have m1' : X.mg (Str.ofString f) = some (.ref a) := by rw [← en]; exact m1
  obtain ⟨ix, i1, i2, i3, i4⟩ := b2 _ el
  obtain ⟨k1, k2, k3, k4⟩ := chkK_kw (env := X.env) (pos := p) hk
  have lks : (ks.map Str.ofString).length = ks.length := List.length_map _
  have hbind : ∀ (s : Shared) (us ws : List Value) (vs zs : List V), Vals vs us → Vals zs ws → vs.length = es.length → zs.length = (ks.map Str.ofString).length → (atAll (vs ++ zs) ix).length = e.ps.length → Vals (atAll (vs ++ zs) ix) (atAll (us ++ ws) ix) ∧
      BindsTo s fd ⟨us, (ks.map Str.ofString).zip ws⟩ ((e.ps.map Str.ofString).zip (atAll (us ++ ws) ix)) := fun s us ws vs zs r1 r2 l1 l2 _ => by
    refine ⟨vals_at (r1.append r2) fun j hj => ?_, i4 s us ws (by rw [← r1.length]; exact l1) (by rw [← r2.length, l2, lks])⟩
    rw [List.length_append, l1, l2, lks]
    exact i3 j hj
  have main : ∀ {σ : St} {H : Hp} {Q : VK}, tE (sigOf L me) X.mg W (.calk f as ks bs) σ H Q → tCallGK es.length (ks.map Str.ofString) (spM X.mg e.ps.length e.ios e.sp) W (fun vs zs => atAll (vs ++ zs) ix) (tEs (sigOf L me) X.mg W as) (tEs (sigOf L me) X.mg W bs) σ H Q := by
    intro σ H Q ⟨env, F, O, K, R, s, hh, w, ok, ox⟩
    simp only [wpE] at w
    rw [e1, e2, e3] at w
    refine ⟨env, F, O, _, R, s, hh, w, fun ds env1 w1 hl F1 Od Oe vs H1 n1 r1 s1 => ?_, ox⟩
    refine ⟨env1, F1, Oe, _, R, s1, n1.held.right, w1, fun es' env2 w2 hl2 F2 Od2 Oe2 us H2 n2 r2 s2 => ?_, ox.step n1.drop⟩
    obtain ⟨w3, ix', w4, w5⟩ := w2
    have lds : ds.length = es.length := by rw [hl, chkEs_len hc]
    have les : es'.length = ks.length := by rw [hl2, k1]
    have : ix' = ix := by
      rw [lds] at w4
      have i1' : kwIx e.ps ks es.length = some ix := i1
      rw [i1'] at w4
      cases w4; rfl
    subst this
    have nf := n1.trans (Next.frame n1.held n2)
    rw [← List.append_assoc] at nf
    have nz := Next.freeze nf.held
    have rr := ((r1.mono n2.f).append r2).frozen nf.held
    have nn := nf.trans nz
    have lz : (fzL (ds ++ es')).length = es.length + ks.length := by rw [fzL_length, List.length_append, lds, les]
    refine ⟨by rw [← r1.len]; exact lds, by rw [← r2.len, lks]; exact les, ?_⟩
    refine ⟨_, _, [], _, _, repL_at rr (fun j hj => by rw [lz]; exact i3 j hj), Held.left (B := Oe2) nn.held, by rw [atAll_len (fun j hj => by rw [lz]; exact i3 j hj)]; exact i2, w5, fun r outs hk F' Or Oo v H' n3 r3 ro => ?_, fun x rx F' O' cls dd H' n3 rep => ?_⟩
    · obtain ⟨rfl, hk⟩ := hk
      have := ro.nilO
      subst this
      have n4 := next_left (B := Oe2) nn.held n3
      rw [List.append_nil] at n4
      exact ok r env2 hk F' Or Oe2 v H' (nn.trans n4) r3 ((s2.mono nz.f).mono n3.f)
    · have n4 := next_left (B := Oe2) nn.held n3
      exact ox x env2 rx F' Oe2 cls dd H' ((nn.trans n4).drop) ((s2.mono nz.f).mono n3.f) rep
  cases es with
  | nil =>
    have hn : as = .nil := by cases as with
      | nil => rfl
      | cons _ _ => simp [chkEs] at hc
    subst hn
    refine PE.weak (pe_callGK0 (W := W) (gV := fun vs zs => atAll (vs ++ zs) ix) (g := fun us ws => atAll (us ++ ws) ix) (m := 0) G C.hg hr C.tk g1 m1' m2 hbind hb k3 k2 g2 (by rw [k4]; rfl)) fun σ H Q h => ?_
    obtain ⟨env, F, O, K, R, s, hh, w, ok, ox⟩ := main h
    simp only [wpEs] at w
    exact ok [] env w rfl F [] O [] H (Next.refl hh) .nil s
  | cons e' es' =>
    obtain ⟨a2, as2, _, c1, c2⟩ := chkEs_cons' hc
    refine PE.weak (pe_callGK (W := W) (gV := fun vs zs => atAll (vs ++ zs) ix) (g := fun us ws => atAll (us ++ ws) ix) (m := (e' :: es').length) G C.hg hr C.tk g1 m1' m2 hbind ha hb k3 k2 g2 (star_cons (chk_star c1)) (by rw [plain_all hc, k4]; rfl)) fun σ H Q h => main h

/-! ### argument lists -/
theorem sEs_nil : PA X [] (tEs (sigOf L me) X.mg W .nil) := by
  refine PA.weak pa_nil fun σ H Q ⟨env, F, O, K, R, s, hh, w, ok, ox⟩ => ?_
  simp only [wpEs] at w
  exact ok [] env w rfl F [] O [] H (Next.refl hh) .nil s
theorem es_step {a : E} {as : Es} {σ : St} {H : Hp} {Q : List V → Hp → Prop} (h : tEs (sigOf L me) X.mg W (.cons a as) σ H Q) : tCons (tE (sigOf L me) X.mg W a) (tEs (sigOf L me) X.mg W as) σ H Q := by
  obtain ⟨env, F, O, K, R, s, hh, w, ok, ox⟩ := h
  simp only [wpEs] at w
  refine ⟨env, F, O, _, R, s, hh, w, fun d1 env1 w1 F1 Od1 Oe1 v1 H1 n1 r1 s1 => ?_, ox⟩
  refine ⟨env1, F1, Oe1, _, R, s1, n1.held.right, w1, fun ds env2 w2 hl F2 Od2 Oe2 vs H2 n2 r2 s2 => ?_, ox.step n1.drop⟩
  have nf := n1.trans (Next.frame n1.held n2)
  rw [← List.append_assoc] at nf
  exact ok (d1 :: ds) env2 w2 (by rw [List.length_cons, hl]; rfl) F2 (Od1 ++ Od2) Oe2 (v1 :: vs) H2 nf (.cons (r1.mono n2.f) r2) s2
theorem bs_step {a : E} {as : Es} {σ : St} {H : Hp} {Q : List V → Hp → Prop} (h : tBs (sigOf L me) X.mg W (.cons a as) σ H Q) : tCons (tB (sigOf L me) X.mg W a) (tBs (sigOf L me) X.mg W as) σ H Q := by
  obtain ⟨env, F, O, K, R, s, hh, w, ok, ox⟩ := h
  simp only [wpBs] at w
  refine ⟨env, F, O, _, R, s, hh, w, fun d1 env1 w1 F1 Od1 Oe1 v1 H1 n1 r1 s1 => ?_, ox⟩
  refine ⟨env1, F1, Oe1, _, R, s1, n1.held.right, w1, fun ds env2 w2 F2 Od2 Oe2 vs H2 n2 r2 s2 => ?_, ox.step n1.drop⟩
  have nf := n1.trans (Next.frame n1.held n2)
  rw [← List.append_assoc] at nf
  refine ok (d1 :: ds) env2 w2 F2 (Od1 ++ Od2) Oe2 (v1 :: vs) H2 nf ⟨Od1, Od2, rfl, ?_, r2⟩ s2
  have gen : Rep F1 d1 v1 Od1 → Rep F2 d1 v1 Od1 := fun r => r.mono n2.f
  cases a with
  | var i => exact ⟨r1.1, r1.2.2⟩
  | _ => exact gen r1
theorem ds_plain {a : E} {as : Es} {fl bs : List Bool} {σ : St} {H : Hp} {Q : List V → Hp → Prop} (hfl : fl = false :: bs ∨ (fl = [] ∧ bs = [])) (h : tDs (sigOf L me) X.mg W fl (.cons a as) σ H Q) : tCons (tE (sigOf L me) X.mg W a) (tDs (sigOf L me) X.mg W bs as) σ H Q := by
  obtain ⟨env, F, O, K, R, s, hh, w, ok, ox⟩ := h
  have w' : wpE (sigOf L me) a env (fun d env1 => wpDs (sigOf L me) as bs env1 (fun ds env2 => K (d :: ds) env2) R) R := by
    rcases hfl with rfl | ⟨rfl, rfl⟩
    · simpa only [wpDs] using w
    · simpa only [wpDs] using w
  refine ⟨env, F, O, _, R, s, hh, w', fun d1 env1 w1 F1 Od1 Oe1 v1 H1 n1 r1 s1 => ?_, ox⟩
  refine ⟨env1, F1, Oe1, _, R, s1, n1.held.right, w1, fun ds env2 w2 F2 Od2 Oe2 vs H2 n2 r2 s2 => ?_, ox.step n1.drop⟩
  have nf := n1.trans (Next.frame n1.held n2)
  rw [← List.append_assoc] at nf
  exact ok (d1 :: ds) env2 w2 F2 (Od1 ++ Od2) Oe2 (v1 :: vs) H2 nf (.cons (r1.mono n2.f) r2) s2
theorem ds_star {a : E} {as : Es} {bs : List Bool} {σ : St} {H : Hp} {Q : List V → Hp → Prop} (h : tDs (sigOf L me) X.mg W (true :: bs) (.cons a as) σ H Q) : StX.tStar X.K (tE (sigOf L me) X.mg W a) (tDs (sigOf L me) X.mg W bs as) σ H Q := by
  obtain ⟨env, F, O, K, R, s, hh, w, ok, ox⟩ := h
  simp only [wpDs] at w
  refine ⟨env, F, O, _, R, s, hh, w, fun d1 env1 w1 F1 Od1 Oe1 v1 H1 n1 r1 s1 => ?_, ox⟩
  obtain ⟨xs, e1, w1⟩ := w1
  have nz := Next.freeze n1.held
  have rz := r1.frozen n1.held
  have nn := n1.trans nz
  have s2 := s1.mono nz.f
  have fin : ∀ {a : PySem.Addr} {vs : List V}, v1 = .ref a → (SqT X.K H1 a vs ∨ SqL X.K H1 a vs) → RepL (addF F1 Od1) (fzL xs) vs [] → ∃ p zs, v1 = V.ref p ∧ (SqT X.K H1 p zs ∨ SqL X.K H1 p zs) ∧ tDs (sigOf L me) X.mg W bs as σ H1 fun ys H2 => Q (zs ++ ys) H2 := fun {a vs} e q rl =>
    ⟨a, vs, e, q, env1, _, Oe1, _, R, s2, nn.held, w1, fun ds env2 w2 F3 Od2 Oe2 us H2 n2 r2 s3 => ok _ env2 w2 F3 Od2 Oe2 (vs ++ us) H2 (nn.trans n2) (RepL.append (O := []) (rl.mono n2.f) r2) s3, ox.step nn⟩
  cases d1 with
  | lst o ys =>
    cases e1
    obtain ⟨a, vs, e, e2, q⟩ := frz_lst rz
    exact fin e (.inr (.inl (nn.held.f.rd e2))) q
  | tup ys =>
    cases e1
    obtain ⟨a, vs, e, e2, q⟩ := frz_tup rz
    exact fin e (.inl (SqT.of (nn.held.f _ _ e2))) q
  | _ => cases e1
theorem ds_nil {fl : List Bool} : PA X [] (tDs (sigOf L me) X.mg W fl .nil) := by
  refine PA.weak pa_nil fun σ H Q ⟨env, F, O, K, R, s, hh, w, ok, ox⟩ => ?_
  simp only [wpDs] at w
  exact ok [] env w F [] O [] H (Next.refl hh) .nil s
theorem a_step {a : E} {as : Es} {fl bs : List Bool} {σ : St} {H : Hp} {Q : List V → Hp → Prop} (hfl : fl = false :: bs ∨ (fl = [] ∧ bs = [])) (h : tA (sigOf L me) X.mg W fl (.cons a as) σ H Q) : tCons (tE (sigOf L me) X.mg W a) (tA (sigOf L me) X.mg W bs as) σ H Q := by
  obtain ⟨env, F, O, K, R, s, hh, w, ok, ox⟩ := h
  have w' : wpE (sigOf L me) a env (fun d env1 => wpA (sigOf L me) as bs env1 (fun ds tk env2 => K (d.fz :: ds) tk env2) R) R := by
    rcases hfl with rfl | ⟨rfl, rfl⟩
    · cases a <;> simpa only [wpA] using w
    · cases a <;> simpa only [wpA] using w
  refine ⟨env, F, O, _, R, s, hh, w', fun d1 env1 w1 F1 Od1 Oe1 v1 H1 n1 r1 s1 => ?_, ox⟩
  have nz := Next.freeze n1.held
  have rz := r1.frozen n1.held
  have nn := n1.trans nz
  refine ⟨env1, _, Oe1, _, R, s1.mono nz.f, nn.held, w1, fun ds tk env2 w2 hl F2 Od2 Oe2 vs H2 n2 r2 s2 pr => ?_, ox.step nn⟩
  refine ok (d1.fz :: ds) tk env2 w2 (by rw [List.length_cons, hl]; rfl) F2 Od2 Oe2 (v1 :: vs) H2 (nn.trans n2) (RepL.cons (O1 := []) (rz.mono n2.f) r2) s2 ?_
  rcases hfl with rfl | ⟨rfl, rfl⟩
  · exact pr
  · have e1 : pick [] vs = ([] : List V) := by cases vs <;> rfl
    rw [e1] at pr
    exact pr
theorem a_tmp {a : E} {as : Es} {bs : List Bool} {σ : St} {H : Hp} {Q : List V → Hp → Prop} (hv : ∀ i, a ≠ .var i) (h : tA (sigOf L me) X.mg W (true :: bs) (.cons a as) σ H Q) : tCons (tE (sigOf L me) X.mg W a) (tA (sigOf L me) X.mg W bs as) σ H Q := by
  obtain ⟨env, F, O, K, R, s, hh, w, ok, ox⟩ := h
  have w' : wpE (sigOf L me) a env (fun d env1 => wpA (sigOf L me) as bs env1 (fun ds tk env2 => K (d :: ds) (env2.length :: tk) env2) R) R := by
    cases a <;> first | (exact absurd rfl (hv _)) | simpa only [wpA] using w
  refine ⟨env, F, O, _, R, s, hh, w', fun d1 env1 w1 F1 Od1 Oe1 v1 H1 n1 r1 s1 => ?_, ox⟩
  refine ⟨env1, F1, Oe1, _, R, s1, n1.held.right, w1, fun ds tk env2 w2 hl F2 Od2 Oe2 vs H2 n2 r2 s2 pr => ?_, ox.step n1.drop⟩
  have nf := n1.trans (Next.frame n1.held n2)
  rw [← List.append_assoc] at nf
  exact ok (d1 :: ds) (env2.length :: tk) env2 w2 (by rw [List.length_cons, hl]; rfl) F2 (Od1 ++ Od2) Oe2 (v1 :: vs) H2 nf (.cons (r1.mono n2.f) r2) s2 (.cons (.inr (by rw [s2.len]; exact Nat.le_refl _)) pr)
theorem a_mov {i : Nat} {x : Str} {p : PySem.Pos} {as : Es} {es : List Expr} {bs : List Bool} (C : Cok L c X W) (h : seen c i x = true) (hr : PA X es (tA (sigOf L me) X.mg W bs as)) : PA X (.Name x p :: es) (tA (sigOf L me) X.mg W (true :: bs) (.cons (.var i) as)) := by
  obtain ⟨h1, h2, h3, h4⟩ := C.seen h
  refine PA.weak (pa_cons (pe_var (pos := p) h1 h2 h3 h4) hr rfl) fun σ H Q ⟨env, F, O, K, R, s, hh, w, ok, ox⟩ => ?_
  simp only [wpA] at w
  obtain ⟨d, e, hk⟩ := get_iff w
  obtain ⟨v, A0, B0, k1, _, _, _⟩ := s.take e
  refine ⟨v, k1, env, F, O, _, R, s, hh, hk, fun ds tk env2 w2 hl F2 Od2 Oe2 vs H2 n2 r2 s2 pr => ?_, ox⟩
  obtain ⟨d2, e2, hk2⟩ := get_iff w2
  obtain ⟨v2, A, B, j1, j2, j3, j4⟩ := s2.take e2
  rw [k1] at j1; cases j1
  refine ok (d2 :: ds) (i :: tk) _ hk2 (by rw [List.length_cons, hl]; rfl) F2 (A ++ Od2) B (v :: vs) H2 (n2.perm ?_) (.cons j2 r2) j3 (.cons (.inl k1) pr)
  rw [List.append_assoc]
  exact (List.Perm.append_left Od2 j4).trans perm3
end
end DP

/-! DpO: every expression of the small language runs as its data say: the one theorem. -/
namespace DP
open PySem (Addr sizeLine wpAny model Value Shared Around FuncData BindsTo codeAny Str Paired Expr)
open PySem.W (Frag)
open L2
variable [CT]

section
variable {L : List Ent} {me : List Nat}
theorem PT.never {X : Cx} {e : Expr} : PT X e (fun _ _ _ => False) := ⟨fun _ _ _ _ _ _ h => h.elim⟩
theorem s_var {c : SC} {X : Cx} {W : WX} {i : Nat} {ex : Expr} (C : Cok L c X W) (h : chkE c (.var i) ex = true) : PE X ex (tE (sigOf L me) X.mg W (.var i)) := by
  obtain ⟨x, p, rfl, h⟩ := chk_var h
  obtain ⟨h1, h2, h3, h4⟩ := C.seen h
  refine PE.weak (pe_var h1 h2 h3 h4) fun σ H Q ⟨env, F, O, K, R, s, hh, w, ok, ox⟩ => ?_
  simp only [wpE] at w
  obtain ⟨d, e, hk⟩ := get_iff w
  obtain ⟨v, F', O', k1, k2, k3, k4⟩ := freezeSlot s hh e
  exact ⟨v, k1, ok _ _ hk F' [] O' v H k2 k3 k4⟩
theorem sim_froz {F F' : Hp} (sb : Sub F F') {env : Env} {σ : St} {O : Own} (s : SimE F env σ O) (h : ∀ p ∈ O, F' p.1 = some p.2) : SimE F' (fzE env) σ [] := by
  induction s with
  | nil => exact .nil
  | no t _ ih => exact .no _ (ih h)
  | yes r _ ih => exact SimE.yes (O1 := []) (O2 := []) (r.froz sb fun p hp => h p (List.mem_append_left _ hp)) (ih fun p hp => h p (List.mem_append_right _ hp))
theorem freezeAll {F : Hp} {env : Env} {σ : St} {O : Own} {H : Hp} (s : SimE F env σ O) (h : Held F O H) : ∃ F', SimE F' (fzE env) σ [] ∧ Next F O H F' [] H ∧ ∀ p ∈ O, F' p.1 = some p.2 := by
  have h' : Held F (O ++ []) H := by rw [List.append_nil]; exact h
  have n := Next.freeze h'
  rw [List.append_nil] at n
  exact ⟨addF F O, sim_froz n.f s (fun p hp => addF_in h.nd p hp), n, fun p hp => addF_in h.nd p hp⟩
/-- behind a while of looking -/
theorem thaw {F F' F2 : Hp} {O Oe : Own} {H H2 : Hp} (h : Held F O H) (n : Next F O H F' [] H) (ho : ∀ p ∈ O, F' p.1 = some p.2) (n2 : Next F' [] H F2 Oe H2) : Next F O H F O H2 :=
  ⟨⟨(n.f.trans n2.f).trans n2.held.f, fun p hp => n2.held.f _ _ (n2.f _ _ (ho p hp)), h.nd, h.dj⟩, Sub.refl _, fun _ z => .inl z, fun _ z => .inl z, fun a u e _ => n2.st a u e (by simp), fun a e => n2.gr a e⟩
theorem s_peek {c : SC} {X : Cx} {W : WX} {a : E} {ex : Expr} (ha : PE X ex (tE (sigOf L me) X.mg W a)) : PE X ex (tE (sigOf L me) X.mg W (.peek a)) := by
  refine PE.weak ha fun σ H Q ⟨env, F, O, K, R, s, hh, w, ok, ox⟩ => ?_
  simp only [wpE] at w
  obtain ⟨F', s', n, ho⟩ := freezeAll s hh
  refine ⟨fzE env, F', [], _, R, s', n.held, w, fun d env1 w1 F1 Od Oe v H1 n1 r1 s1 => ?_, ox.step n⟩
  obtain ⟨w1, w2⟩ := w1
  have t := thaw hh n ho n1
  have r0 : Rep F d v [] := by
    cases r1 with
    | non => exact .non
    | bl b => exact .bl b
    | int i => exact .int i
    | str z => exact .str z
    | tup _ _ => cases w1
    | fro _ _ => cases w1
    | own _ => cases w1
    | exc _ _ _ _ _ => cases w1
    | dfr _ _ _ => cases w1
    | dow _ _ => cases w1
    | ifr _ _ _ _ _ => cases w1
    | iow _ _ _ => cases w1
  exact ok d env w2 F [] O v H1 t r0 s
theorem t_peek {c : SC} {X : Cx} {W : WX} {a : E} {ex : Expr} (ha : PT X ex (tT (sigOf L me) X.mg W a)) : PT X ex (tT (sigOf L me) X.mg W (.peek a)) := by
  refine PT.weak ha fun σ H Q ⟨env, F, O, K, R, s, hh, w, ok, ox⟩ => ?_
  simp only [wpT] at w
  obtain ⟨F', s', n, ho⟩ := freezeAll s hh
  exact ⟨fzE env, F', [], _, R, s', n.held, w, fun b env1 w1 F1 Oe H1 n1 s1 => ok b env w1 F O H1 (thaw hh n ho n1) s, ox.step n⟩
theorem s_mov {c : SC} {X : Cx} {W : WX} {i : Nat} {ex : Expr} (C : Cok L c X W) (h : chkE c (.mov i) ex = true) : PE X ex (tE (sigOf L me) X.mg W (.mov i)) := by
  obtain ⟨x, p, rfl, h⟩ := chk_mov h
  obtain ⟨h1, h2, h3, h4⟩ := C.seen h
  refine PE.weak (pe_var h1 h2 h3 h4) fun σ H Q ⟨env, F, O, K, R, s, hh, w, ok, ox⟩ => ?_
  simp only [wpE] at w
  obtain ⟨d, e, hk⟩ := get_iff w.2
  obtain ⟨v, A, B, k1, k2, k3, k4⟩ := s.take e
  exact ⟨v, k1, ok _ _ hk F A B v H ((Next.refl hh).perm k4) k2 k3⟩
theorem con_of {d : D} {k : PySem.Const} (h : conD d k = true) : (d = .non ∧ k = .none) ∨ (∃ b, d = .bl b ∧ k = .bool b) ∨ (∃ i, d = .int i ∧ k = .int i) ∨ ∃ s, d = .str s ∧ k = .str s := by
  unfold conD at h
  split at h
  · exact .inl ⟨rfl, rfl⟩
  · exact .inr (.inl ⟨_, rfl, by rw [eq_of_beq h]⟩)
  · exact .inr (.inr (.inl ⟨_, rfl, by rw [of_decide_eq_true h]⟩))
  · exact .inr (.inr (.inr ⟨_, rfl, by rw [of_decide_eq_true h]⟩))
  · cases h
theorem s_con {c : SC} {X : Cx} {W : WX} {d : D} {ex : Expr} (h : chkE c (.con d) ex = true) : PE X ex (tE (sigOf L me) X.mg W (.con d)) := by
  obtain ⟨k, j, p, rfl, hk⟩ := chk_con h
  clear h
  have fin : ∀ {d : D} {v : V}, (∀ F, Rep F d v []) → ∀ σ H Q, tE (sigOf L me) X.mg W (.con d) σ H Q → tC v σ H Q := fun r σ H Q ⟨env, F, O, K, R, s, hh, w, ok, ox⟩ => by
    simp only [wpE] at w
    exact ok _ env w F [] O _ H (Next.refl hh) (r F) s
  rcases con_of hk with ⟨rfl, rfl⟩ | ⟨b, rfl, rfl⟩ | ⟨i, rfl, rfl⟩ | ⟨z, rfl, rfl⟩
  · exact PE.weak pe_non (fin fun _ => .non)
  · exact PE.weak pe_bl (fin fun _ => .bl _)
  · exact PE.weak pe_int (fin fun _ => .int _)
  · exact PE.weak pe_str (fin fun _ => .str _)
theorem atom_eq {d e : D} (h : atomEq d e = true) : d = e := by
  cases d <;> cases e <;> first | (simp [atomEq] at h; done) | (have e := of_decide_eq_true h; subst e; rfl)
theorem s_glo {c : SC} {X : Cx} {W : WX} {x : String} {d : D} {ex : Expr} (C : Cok L c X W) (h : chkE c (.glo x d) ex = true) : PE X ex (tE (sigOf L me) X.mg W (.glo x d)) := by
  obtain ⟨p, rfl, h1, q, hq, h3, h4⟩ := chk_glo h
  obtain ⟨g1, g2⟩ := C.glob h1
  obtain ⟨k, _, _, wd⟩ := C.wd
  obtain ⟨u, v, m, r, rep⟩ := wd.gl q hq
  rw [h3] at m
  rw [atom_eq h4] at rep
  refine PE.weak (pe_glob g1 m r g2) fun σ H Q ⟨env, F, O, K, R, s, hh, w, ok, ox⟩ => ?_
  simp only [wpE] at w
  exact ok d env w F [] O _ H (Next.refl hh) (rep F) s
theorem s_call {c : SC} {X : Cx} {W : WX} {f : String} {as : Es} {ex : Expr} (C : Cok L c X W) (h : chkE c (.call f as) ex = true) (ha : ∀ fl es, chkEs c as es = true → PA X es (tA (sigOf L me) X.mg W fl as)) : PE X ex (tE (sigOf L me) X.mg W (.call f as)) := by
  have hot := chk_cold h rfl
  obtain ⟨as', q, p, rfl, h1, h2, h3⟩ := chk_call h
  obtain ⟨t, pe, hw⟩ := st_call (me := me) (q := q) (p := p) C h1 h2 h3 hot fun fl => ha fl as' h2
  refine PE.weak pe fun σ H Q ⟨env, F, O, K, R, s, hh, w, ok, ox⟩ => ?_
  simp only [wpE] at w
  exact hw F O σ H Q env K R s hh w ok ox
theorem t_call {c : SC} {X : Cx} {W : WX} {f : String} {as : Es} {ex : Expr} (C : Cok L c X W) (h : chkE c (.call f as) ex = true) (ha : ∀ fl es, chkEs c as es = true → PA X es (tA (sigOf L me) X.mg W fl as)) : PT X ex (tT (sigOf L me) X.mg W (.call f as)) := by
  have hot := chk_cold h rfl
  obtain ⟨as', q, p, rfl, h1, h2, h3⟩ := chk_call h
  obtain ⟨t, pe, hw⟩ := st_call (me := me) (q := q) (p := p) C h1 h2 h3 hot fun fl => ha fl as' h2
  refine PT.weak (pt_truth pe fun _ => rfl) fun σ H Q ⟨env, F, O, K, R, s, hh, w, ok, ox⟩ => ?_
  simp only [wpT] at w
  refine hw F O σ H _ env (fun d e => truD d fun b => K b e) R s hh w (fun d env' hk F' Od Oe v H' n r s' => ?_) ox
  obtain ⟨t1, t2⟩ := tru_of (K := X.K) hk r n.held.f n.held.left.o
  exact ⟨_, t1, ok _ env' t2 F' Oe H' n.drop s'⟩
theorem t_var {c : SC} {X : Cx} {W : WX} {i : Nat} {ex : Expr} (C : Cok L c X W) (h : chkE c (.var i) ex = true) : PT X ex (tT (sigOf L me) X.mg W (.var i)) := by
  obtain ⟨x, p, rfl, h⟩ := chk_var h
  obtain ⟨h1, h2, h3, h4⟩ := C.seen h
  refine PT.weak (pt_truth (pe_var h1 h2 h3 h4) fun _ => rfl) fun σ H Q ⟨env, F, O, K, R, s, hh, w, ok, ox⟩ => ?_
  simp only [wpT] at w
  obtain ⟨d, e, hk⟩ := get_iff w
  obtain ⟨v, A, B, k1, k2, k3, k4⟩ := s.take e
  obtain ⟨t1, t2⟩ := tru_of (K := X.K) hk k2 hh.f (hh.perm k4).left.o
  exact ⟨v, k1, _, t1, ok _ env t2 F O H (Next.refl hh) s⟩
theorem t_bi {c : SC} {X : Cx} {W : WX} {b : BI} {as : Es} {ex : Expr} (C : Cok L c X W) (h : chkE c (.bi b as) ex = true) (ha : ∀ es, chkEs c as es = true → PA X es (tBs (sigOf L me) X.mg W as)) : PT X ex (tT (sigOf L me) X.mg W (.bi b as)) := by
  have cold : hotB b = false → c.hot = false := fun z => chk_cold h (by simp [coldE, z])
  obtain ⟨as', q, p, rfl, h1, h2⟩ := chk_bi h
  refine PT.weak (pt_truth (st_bi (me := me) (W := W) C cold h1 h2 (ha as' h2)).2 fun _ => rfl) fun σ H Q ⟨env, F, O, K, R, s, hh, w, ok, ox⟩ => ?_
  refine ⟨env, F, O, K, R, s, hh, w, fun d env' hk F' Od Oe v H' n r s' => ?_, ox⟩
  obtain ⟨t1, t2⟩ := tru_of (K := X.K) hk r n.held.f n.held.left.o
  exact ⟨_, t1, ok _ env' t2 F' Oe H' n.drop s'⟩
theorem s_isc {c : SC} {X : Cx} {W : WX} {a : E} {ks : List String} {ex : Expr} (C : Cok L c X W) (h : chkE c (.isc a ks) ex = true) (ha : ∀ e, chkE c a e = true → PE X e (tE (sigOf L me) X.mg W a)) : PE X ex (tE (sigOf L me) X.mg W (.isc a ks)) ∧ PT X ex (tT (sigOf L me) X.mg W (.isc a ks)) := by
  have pe := st_isc (me := me) (W := W) C h fun e he => sB (ha e he) C he
  obtain ⟨a', q, r, p, ⟨rfl, _, _⟩, _⟩ := chk_isc h
  refine ⟨PE.weak pe fun σ H Q ⟨env, F, O, K, R, s, hh, w, ok, ox⟩ => ?_, PT.weak (pt_val pe) fun σ H Q ⟨env, F, O, K, R, s, hh, w, ok, ox⟩ => ?_⟩
  · simp only [wpE] at w
    exact ⟨env, F, O, R, fun b env' => K (.bl b) env', s, hh, w, fun b env' hk F' Oe H' n s' => ok _ env' hk F' [] Oe _ H' n (.bl b) s', ox⟩
  · simp only [wpT] at w
    exact ⟨env, F, O, R, K, s, hh, w, fun b env' hk F' Oe H' n s' => ⟨b, rfl, ok b env' hk F' Oe H' n s'⟩, ox⟩
theorem s_isi {c : SC} {X : Cx} {W : WX} {a : E} {t : String} {ex : Expr} (C : Cok L c X W) (h : chkE c (.isi a t) ex = true) (ha : ∀ e, chkE c a e = true → PE X e (tE (sigOf L me) X.mg W a)) : PE X ex (tE (sigOf L me) X.mg W (.isi a t)) ∧ PT X ex (tT (sigOf L me) X.mg W (.isi a t)) := by
  obtain ⟨a', q, r, p, rfl, h1, h2, h3, h4⟩ := chk_isi h
  have pe := st_isi (me := me) (W := W) (q := q) (r := r) (p := p) C h1 h3 h4 h2 (sB (ha a' h2) C h2)
  refine ⟨PE.weak pe fun σ H Q ⟨env, F, O, K, R, s, hh, w, ok, ox⟩ => ?_, PT.weak (pt_val pe) fun σ H Q ⟨env, F, O, K, R, s, hh, w, ok, ox⟩ => ?_⟩
  · simp only [wpE] at w
    exact ⟨env, F, O, R, fun b e => K (.bl b) e, s, hh, w, fun b env' hk F' Oe H' n s' => ok _ env' hk F' [] Oe _ H' n (.bl b) s', ox⟩
  · simp only [wpT] at w
    exact ⟨env, F, O, R, K, s, hh, w, fun b env' hk F' Oe H' n s' => ⟨b, rfl, ok _ env' hk F' Oe H' n s'⟩, ox⟩
theorem bo_nil {X : Cx} {W : WX} {k : Bool} {e : Expr} : PE X e (tBo (sigOf L me) X.mg W k .nil) := PE.weak PE.never fun σ H Q ⟨env, F, O, K, R, s, hh, w, ok, ox⟩ => by simp only [wpBo] at w
theorem bo_one {X : Cx} {W : WX} {k : Bool} {a : E} {e : Expr} {p : PySem.Pos} (ha : PE X e (tE (sigOf L me) X.mg W a)) : PE X (.BoolOp (boOf k) [e] p) (tBo (sigOf L me) X.mg W k (.cons a .nil)) :=
  PE.weak (pe_one ha) fun σ H Q ⟨env, F, O, K, R, s, hh, w, ok, ox⟩ => ⟨env, F, O, K, R, s, hh, by simpa only [wpBo] using w, ok, ox⟩
theorem bo_cons {X : Cx} {W : WX} {k : Bool} {a b : E} {as : Es} {e f : Expr} {es : List Expr} {p : PySem.Pos} (ha : PE X e (tE (sigOf L me) X.mg W a)) (hb : PE X (.BoolOp (boOf k) (f :: es) p) (tBo (sigOf L me) X.mg W k (.cons b as))) :
    PE X (.BoolOp (boOf k) (e :: f :: es) p) (tBo (sigOf L me) X.mg W k (.cons a (.cons b as))) := by
  cases k with
  | true =>
    refine PE.weak (pe_andT ha hb) fun σ H Q ⟨env, F, O, K, R, s, hh, w, ok, ox⟩ => ?_
    simp only [wpBo] at w
    refine ⟨env, F, O, _, R, s, hh, w, fun d1 env1 w1 F1 Od1 Oe1 v1 H1 n1 r1 s1 => ?_, ox⟩
    obtain ⟨t1, t2⟩ := tru_of (K := X.K) w1 r1 n1.held.f n1.held.left.o
    refine ⟨_, t1, ?_⟩
    by_cases q : truthD d1 = true
    · rw [if_pos q] at t2 ⊢
      exact ⟨env1, F1, Oe1, K, R, s1, n1.held.right, by simpa only [wpBo] using t2, ok.step n1.drop, ox.step n1.drop⟩
    · rw [if_neg q] at t2 ⊢
      exact ok _ env1 t2 F1 Od1 Oe1 v1 H1 n1 r1 s1
  | false =>
    refine PE.weak (pe_orT ha hb) fun σ H Q ⟨env, F, O, K, R, s, hh, w, ok, ox⟩ => ?_
    simp only [wpBo] at w
    refine ⟨env, F, O, _, R, s, hh, w, fun d1 env1 w1 F1 Od1 Oe1 v1 H1 n1 r1 s1 => ?_, ox⟩
    obtain ⟨t1, t2⟩ := tru_of (K := X.K) w1 r1 n1.held.f n1.held.left.o
    refine ⟨_, t1, ?_⟩
    by_cases q : truthD d1 = true
    · rw [if_neg (by rw [q]; exact fun z => nomatch z)] at t2
      rw [if_pos q]
      exact ok _ env1 t2 F1 Od1 Oe1 v1 H1 n1 r1 s1
    · rw [if_pos (by simpa using q)] at t2
      rw [if_neg q]
      exact ⟨env1, F1, Oe1, K, R, s1, n1.held.right, by simpa only [wpBo] using t2, ok.step n1.drop, ox.step n1.drop⟩
theorem PW.never {X : Cx} {e : Expr} : PW X e (fun _ _ _ => False) := ⟨fun _ _ _ _ _ _ _ h => h.elim⟩
theorem to_nil {X : Cx} {W : WX} {k : Bool} {e : Expr} : PW X e (tTo (sigOf L me) X.mg W k .nil) := PW.weak PW.never fun σ H Q ⟨env, F, O, K, R, s, hh, w, ok, ox⟩ => by simp only [wpTo] at w
theorem to_one {X : Cx} {W : WX} {k : Bool} {a : E} {e : Expr} {p : PySem.Pos} (ha : PT X e (tT (sigOf L me) X.mg W a)) : PW X (.BoolOp (boOf k) [e] p) (tTo (sigOf L me) X.mg W k (.cons a .nil)) := by
  have h0 : ∀ σ H Q, tTo (sigOf L me) X.mg W k (.cons a .nil) σ H Q → tT (sigOf L me) X.mg W a σ H Q := fun σ H Q ⟨env, F, O, K, R, s, hh, w, ok, ox⟩ => ⟨env, F, O, K, R, s, hh, by simpa only [wpTo] using w, ok, ox⟩
  cases k with
  | true => exact PW.weak (pw_and1 ha) h0
  | false => exact PW.weak (pw_or1 ha) h0
theorem to_cons {X : Cx} {W : WX} {k : Bool} {a b : E} {as : Es} {e f : Expr} {es : List Expr} {p : PySem.Pos} (ha : PT X e (tT (sigOf L me) X.mg W a)) (hb : PW X (.BoolOp (boOf k) (f :: es) p) (tTo (sigOf L me) X.mg W k (.cons b as))) :
    PW X (.BoolOp (boOf k) (e :: f :: es) p) (tTo (sigOf L me) X.mg W k (.cons a (.cons b as))) := by
  cases k with
  | true =>
    refine PW.weak (pw_and ha hb) fun σ H Q ⟨env, F, O, K, R, s, hh, w, ok, ox⟩ => ?_
    simp only [wpTo] at w
    refine ⟨env, F, O, _, R, s, hh, w, fun b env1 w1 F1 Oe1 H1 n1 s1 => ?_, ox⟩
    cases b with
    | true => exact ⟨env1, F1, Oe1, K, R, s1, n1.held, by simpa only [wpTo, if_true] using w1, ok.step n1, ox.step n1⟩
    | false => exact ok _ env1 w1 F1 Oe1 H1 n1 s1
  | false =>
    refine PW.weak (pw_or ha hb) fun σ H Q ⟨env, F, O, K, R, s, hh, w, ok, ox⟩ => ?_
    simp only [wpTo] at w
    refine ⟨env, F, O, _, R, s, hh, w, fun b env1 w1 F1 Oe1 H1 n1 s1 => ?_, ox⟩
    cases b with
    | true => exact ok _ env1 w1 F1 Oe1 H1 n1 s1
    | false => exact ⟨env1, F1, Oe1, K, R, s1, n1.held, by simpa only [wpTo, if_true] using w1, ok.step n1, ox.step n1⟩
theorem t_nt {X : Cx} {W : WX} {a : E} {e : Expr} {p : PySem.Pos} (ha : PT X e (tT (sigOf L me) X.mg W a)) : PT X (.UnaryOp .Not e p) (tT (sigOf L me) X.mg W (.nt a)) := by
  refine PT.weak (pt_not ha) fun σ H Q ⟨env, F, O, K, R, s, hh, w, ok, ox⟩ => ?_
  simp only [wpT] at w
  exact ⟨env, F, O, _, R, s, hh, w, fun b env1 w1 F1 Oe1 H1 n1 s1 => ok _ env1 w1 F1 Oe1 H1 n1 s1, ox⟩
theorem t_no {X : Cx} {W : WX} {a : E} {e : Expr} (h : ∀ env K R, wpT (sigOf L me) a env K R → False) : PT X e (tT (sigOf L me) X.mg W a) := PT.weak PT.never fun σ H Q ⟨env, F, O, K, R, s, hh, w, ok, ox⟩ => h env K R w
theorem o_no {X : Cx} {W : WX} : PO X none (tOpt (sigOf L me) X.mg W .no) := ⟨fun pins s σ H Q I ⟨env, F, O, K, R, s', hh, w, ok, ox⟩ => po_none.run pins s σ H Q I (by simp only [wpO] at w; exact ok _ env w F O H (Next.refl hh) s')⟩
theorem o_yes {X : Cx} {W : WX} {a : E} {e : Expr} (ha : PE X e (tE (sigOf L me) X.mg W a)) : PO X (some e) (tOpt (sigOf L me) X.mg W (.yes a)) := ⟨fun pins s σ H Q I ⟨env, F, O, K, R, s', hh, w, ok, ox⟩ => (po_some ha).run pins s σ H Q I (by
  simp only [wpO] at w
  refine ⟨env, F, O, _, R, s', hh, w, fun d1 env1 w1 F1 Od1 Oe1 v1 H1 n1 r1 s1 => ?_, ox⟩
  obtain ⟨i, rfl, hk⟩ := w1
  obtain ⟨rfl, rfl⟩ := r1.intI
  exact ⟨i, rfl, ok _ env1 hk F1 Oe1 H1 n1 s1⟩)⟩
theorem ts_nil {X : Cx} {W : WX} : PTs X [] (tTs (sigOf L me) X.mg W .nil) := PTs.weak pts_nil fun σ H Q ⟨env, F, O, K, R, s, hh, w, ok, ox⟩ => by
  simp only [wpTs] at w
  exact ok _ env w F O H (Next.refl hh) s
theorem ts_one {X : Cx} {W : WX} {a : E} {e : Expr} (ha : PT X e (tT (sigOf L me) X.mg W a)) : PTs X [e] (tTs (sigOf L me) X.mg W (.cons a .nil)) := PTs.weak (pts_one ha) fun σ H Q ⟨env, F, O, K, R, s, hh, w, ok, ox⟩ => ⟨env, F, O, K, R, s, hh, by simpa only [wpTs] using w, ok, ox⟩
theorem PTs.never {X : Cx} {es : List Expr} : PTs X es (fun _ _ _ => False) := ⟨fun _ _ _ _ _ _ h => h.elim⟩
theorem ts_no {X : Cx} {W : WX} {a b : E} {as : Es} {es : List Expr} : PTs X es (tTs (sigOf L me) X.mg W (.cons a (.cons b as))) := PTs.weak PTs.never fun σ H Q ⟨env, F, O, K, R, s, hh, w, ok, ox⟩ => by simp only [wpTs] at w
theorem a_nil {X : Cx} {W : WX} {fl : List Bool} : PA X [] (tA (sigOf L me) X.mg W fl .nil) := by
  refine PA.weak pa_nil fun σ H Q ⟨env, F, O, K, R, s, hh, w, ok, ox⟩ => ?_
  simp only [wpA] at w
  refine ok [] [] env w rfl F [] O [] H (Next.refl hh) .nil s ?_
  have : pick fl ([] : List V) = [] := by cases fl with
    | nil => rfl
    | cons b _ => cases b <;> rfl
  rw [this]; exact .nil
theorem PA.never {X : Cx} {es : List Expr} : PA X es (fun _ _ _ => False) := ⟨fun _ _ _ _ _ _ _ h => h.elim⟩
theorem bs_nil {X : Cx} {W : WX} : PA X [] (tBs (sigOf L me) X.mg W .nil) := by
  refine PA.weak pa_nil fun σ H Q ⟨env, F, O, K, R, s, hh, w, ok, ox⟩ => ?_
  simp only [wpBs] at w
  exact ok [] env w F [] O [] H (Next.refl hh) rfl s
theorem chkO_no {c : SC} {o : Option Expr} (h : chkO c .no o = true) : o = none := by cases o <;> first | rfl | simp [chkO] at h
theorem chkO_yes {c : SC} {a : E} {o : Option Expr} (h : chkO c (.yes a) o = true) : ∃ e, o = some e ∧ chkE c a e = true := by cases o with
  | none => simp [chkO] at h
  | some e => exact ⟨e, rfl, by simpa [chkO] using h⟩
theorem chkT_nm {c : SC} {i : Nat} {e : Expr} (h : chkT c (.nm i) e = true) : ∃ x p, e = .Name x p ∧ mine c i x = true := by
  cases e <;> first | (simp [chkT] at h; done) | exact ⟨_, _, rfl, by simpa [chkT] using h⟩
theorem chkT_tp {c : SC} {ts : Ts} {e : Expr} (h : chkT c (.tp ts) e = true) : ∃ es k p, e = .Tuple es k p ∧ chkTs c ts es = true ∧ c.hot = false := by
  cases e <;> first | (simp [chkT] at h; done) | exact ⟨_, _, _, rfl, by simpa [chkT] using h⟩
theorem chkTs_nil {c : SC} {es : List Expr} (h : chkTs c .nil es = true) : es = [] := by cases es <;> first | rfl | simp [chkTs] at h
theorem chkTs_cons {c : SC} {t : T} {ts : Ts} {es : List Expr} (h : chkTs c (.cons t ts) es = true) : ∃ e es', es = e :: es' ∧ chkT c t e = true ∧ chkTs c ts es' = true := by
  cases es with
  | nil => simp [chkTs] at h
  | cons e es' =>
    simp only [chkTs, Bool.and_eq_true] at h
    exact ⟨e, es', rfl, h.1, h.2⟩
mutual
theorem sG : ∀ (t : T) {me : List Nat} {c : SC} {X : Cx} {W : WX} {e : Expr}, Cok L c X W → chkT c t e = true → PG X e (gT me t)
  | .nm i, me, c, X, W, e, C, h => by
    obtain ⟨x, p, rfl, h⟩ := chkT_nm h
    exact gs_name C h
  | .tp ts, me, c, X, W, e, C, h => by
    obtain ⟨es, k, p, rfl, h, hot⟩ := chkT_tp h
    exact gs_tup C hot (sGs ts C h) h
theorem sGs : ∀ (ts : Ts) {me : List Nat} {c : SC} {X : Cx} {W : WX} {es : List Expr}, Cok L c X W → chkTs c ts es = true → PGs X es (gTs me ts)
  | .nil, me, c, X, W, es, C, h => by
    rw [chkTs_nil h]
    exact gs_nil
  | .cons t ts, me, c, X, W, es, C, h => by
    obtain ⟨e, es', rfl, h1, h2⟩ := chkTs_cons h
    exact gs_cons (sG t C h1) (sGs ts C h2) h1
end
end
end DP

/-! DpP: every expression of the small language runs as its data say: the one theorem. -/
namespace DP
open PySem (Addr sizeLine wpAny model Value Shared Around FuncData BindsTo codeAny Str Paired Expr)
open PySem.W (Frag)
open L2
variable [CT]

section
variable {L : List Ent} {me : List Nat}
theorem chkI_call {c : SC} {it : I} {e : Expr} (h : chkI c it e = true) : match it with
    | .ex a => chkE c a e = true
    | .rng1 a => ∃ q p x, e = .Call (.Name (Str.ofString "range") q) [x] [] p ∧ glob c (Str.ofString "range") = true ∧ chkE c a x = true
    | .rng2 a b => ∃ q p x y, e = .Call (.Name (Str.ofString "range") q) [x, y] [] p ∧ glob c (Str.ofString "range") = true ∧ chkE c a x = true ∧ chkE c b y = true
    | .rng3 a b d => ∃ q p x y z, e = .Call (.Name (Str.ofString "range") q) [x, y, z] [] p ∧ glob c (Str.ofString "range") = true ∧ chkE c a x = true ∧ chkE c b y = true ∧ chkE c d z = true
    | .zip2 a b => ∃ q p x y, e = .Call (.Name (Str.ofString "zip") q) [x, y] [] p ∧ glob c (Str.ofString "zip") = true ∧ chkE c a x = true ∧ chkE c b y = true
    | .zip3 a b d => ∃ q p x y z, e = .Call (.Name (Str.ofString "zip") q) [x, y, z] [] p ∧ glob c (Str.ofString "zip") = true ∧ chkE c a x = true ∧ chkE c b y = true ∧ chkE c d z = true
    | .enum a => ∃ q p x, e = .Call (.Name (Str.ofString "enumerate") q) [x] [] p ∧ glob c (Str.ofString "enumerate") = true ∧ chkE c a x = true
    | .enk k a => ∃ q p x j r, e = .Call (.Name (Str.ofString "enumerate") q) [x, .Constant (.int k) j r] [] p ∧ glob c (Str.ofString "enumerate") = true ∧ chkE c a x = true ∧ 0 ≤ k ∧ k < 1000
    | .rev a => ∃ q p x, e = .Call (.Name (Str.ofString "reversed") q) [x] [] p ∧ glob c (Str.ofString "reversed") = true ∧ chkE c a x = true := by
  unfold chkI at h
  split at h
  · exact h
  all_goals first
    | (cases h; done)
    | (simp only [Bool.and_eq_true, decide_eq_true_eq] at h
       first
         | (obtain ⟨⟨⟨⟨rfl, h1⟩, h2⟩, rfl⟩, h3⟩ := h; exact ⟨_, _, _, _, _, rfl, h1, h2, h3⟩)
         | (obtain ⟨⟨rfl, h1⟩, h2⟩ := h; exact ⟨_, _, _, rfl, h1, h2⟩)
         | (obtain ⟨⟨⟨rfl, h1⟩, h2⟩, h3⟩ := h; exact ⟨_, _, _, _, rfl, h1, h2, h3⟩)
         | (obtain ⟨⟨⟨⟨rfl, h1⟩, h2⟩, h3⟩, h4⟩ := h; exact ⟨_, _, _, _, _, rfl, h1, h2, h3, h4⟩))
mutual
theorem sE : ∀ (e : E) {c : SC} {X : Cx} {W : WX} {ex : Expr}, Cok L c X W → chkE c e ex = true → PE X ex (tE (sigOf L me) X.mg W e)
  | .var i, c, X, W, ex, C, h => s_var C h
  | .mov i, c, X, W, ex, C, h => s_mov C h
  | .con d, c, X, W, ex, C, h => s_con h
  | .glo x d, c, X, W, ex, C, h => s_glo C h
  | .bin o a b, c, X, W, ex, C, h => by
    obtain ⟨a', b', p, rfl, h1, h2⟩ := chk_bin h
    exact st_bin (sE a C h1) (sE b C h2)
  | .neg a, c, X, W, ex, C, h => by
    obtain ⟨a', p, rfl, h1⟩ := chk_neg h
    exact st_neg (sE a C h1)
  | .nt a, c, X, W, ex, C, h => by
    obtain ⟨a', p, rfl, h1⟩ := chk_nt h
    exact st_nt (sE a C h1)
  | .bo k as, c, X, W, ex, C, h => by
    obtain ⟨as', p, rfl, h1⟩ := chk_bo h
    refine PE.weak (sBo as (k := k) (p := p) C h1) fun σ H Q ⟨env, F, O, K, R, s, hh, w, ok, ox⟩ => ⟨env, F, O, K, R, s, hh, by simpa only [wpE] using w, ok, ox⟩
  | .cmp o a b, c, X, W, ex, C, h => by
    obtain ⟨a', b', p, rfl, h1, h2, h3⟩ := chk_cmp h
    exact st_cmp C (sB (sE a C h1) C h1) (sB (sE b C h2) C h2) h3
  | .chn o q a b d, c, X, W, ex, C, h => by
    obtain ⟨a', b', d', p, rfl, h1, h2, h3, h4, h5⟩ := chk_chn h
    exact st_chn C (sE a C h1) (sE b C h2) (sE d C h3) h5
  | .chn3 o q r a b d e, c, X, W, ex, C, h => by
    obtain ⟨a', b', d', e', p, rfl, h1, h2, h3, h4, h5⟩ := chk_chn3 h
    exact st_chn3 C (sE a C h1) (sE b C h2) (sE d C h3) (sE e C h4) h5
  | .chn4 o q r t a b d e f, c, X, W, ex, C, h => by
    obtain ⟨a', b', d', e', f', p, rfl, h1, h2, h3, h4, h5, h6⟩ := chk_chn4 h
    exact st_chn4 C (sE a C h1) (sE b C h2) (sE d C h3) (sE e C h4) (sE f C h5) h6
  | .sset a, c, X, W, ex, C, h => by
    have hot := chk_cold h rfl
    obtain ⟨q, q2, a', p, p2, rfl, h1, h2, h3⟩ := chk_sset h
    exact st_sset C hot h1 h2 h3 (sE a C h3)
  | .lset a, c, X, W, ex, C, h => by
    have hot := chk_cold h rfl
    obtain ⟨q, q2, a', p, p2, rfl, h1, h2, h3⟩ := chk_lset h
    exact st_lset C hot h1 h2 h3 (sE a C h3)
  | .ife d a b, c, X, W, ex, C, h => by
    obtain ⟨d', a', b', p, rfl, h1, h2, h3⟩ := chk_ife h
    exact st_ife (sT d C h1) (sE a C h2) (sE b C h3)
  | .call f as, c, X, W, ex, C, h => s_call C h fun fl es hc => sA as fl C hc
  | .calk f as ks bs, c, X, W, ex, C, h => by
    have hot := chk_cold h rfl
    obtain ⟨as', ks', q, p, rfl, h1, h2, h3, h4⟩ := chk_calk h
    exact st_calk C hot h1 h2 h3 h4 (sEs as C h2) (sK bs C h3)
  | .bi b as, c, X, W, ex, C, h => by
    have cold : hotB b = false → c.hot = false := fun z => chk_cold h (by simp [coldE, z])
    obtain ⟨as', q, p, rfl, h1, h2⟩ := chk_bi h
    exact (st_bi C cold h1 h2 (sBs as C h2)).1
  | .isi a t, c, X, W, ex, C, h => (s_isi C h fun e he => sE a C he).1
  | .sub a i, c, X, W, ex, C, h => by
    obtain ⟨a', i', p, rfl, h1, h2⟩ := chk_sub h
    exact st_sub (sB (sE a C h1) C h1) (sE i C h2) (chk_slice h2)
  | .slc a lo hi, c, X, W, ex, C, h => by
    obtain ⟨a', lo', hi', q, p, rfl, h1, h2, h3⟩ := chk_slc h
    exact st_slc (sE a C h1) (sO lo C h2) (sO hi C h3)
  | .tup as, c, X, W, ex, C, h => by
    obtain ⟨as', k, p, rfl, h1⟩ := chk_tup h
    exact st_tup (sEs as C h1)
  | .lst as, c, X, W, ex, C, h => by
    obtain ⟨as', p, rfl, h1⟩ := chk_lst h
    exact st_lst (sEs as C h1)
  | .dsp fl as, c, X, W, ex, C, h => by
    obtain ⟨as', p, rfl, h1⟩ := chk_dsp h
    exact st_dsp (sDs as fl C h1)
  | .ice a, c, X, W, ex, C, h => st_ice (sE a C (chk_ice h))
  | .rvl a, c, X, W, ex, C, h => by
    obtain ⟨a', k, p1, p2, p3, p, rfl, h1⟩ := chk_rvl h
    exact st_rvl C (sE a C h1)
  | .lzip a b, c, X, W, ex, C, h => by
    have hot := chk_cold h rfl
    obtain ⟨q, q2, a', b', p, p2, rfl, h1, h2, h3, h4⟩ := chk_lzip h
    exact st_lzip C hot h1 h2 h3 h4 (sE a C h3) (sE b C h4)
  | .peek a, c, X, W, ex, C, h => s_peek (c := c) (sE a C (chk_peek h))
  | .idx i b, c, X, W, ex, C, h => by
    obtain ⟨x, q, ap, b', cp, rfl, h1, h2, h3⟩ := chk_idx h
    exact st_idx C h1 h2 h3 (sE b C h2)
  | .rpr true as, c, X, W, ex, C, h => by
    obtain ⟨as', q, p, k, r, rfl, h1, h2⟩ := chk_rprT h
    exact st_rprT C h1 (sBs as C h2)
  | .rpr false as, c, X, W, ex, C, h => by
    obtain ⟨as', q, p, r, rfl, h1, h2⟩ := chk_rprL h
    exact st_rprL C h1 (sBs as C h2)
  | .isc a ks, c, X, W, ex, C, h => (s_isc C h fun e he => sE a C he).1
  | .att a f, c, X, W, ex, C, h => by
    obtain ⟨i, x, q, p, rfl, rfl, h1, h2⟩ := chk_att h
    have hv : chkE c (.var i) (.Name x q) = true := by unfold chkE; exact h1
    exact st_att C h2 (sB (s_var C hv) C hv) rfl
  | .dnw, c, X, W, ex, C, h => by
    obtain ⟨p, rfl⟩ := chk_dnw h
    exact st_dnw
  | .lrg a b, c, X, W, ex, C, h => by
    have hot := chk_cold h rfl
    obtain ⟨q, q2, a', b', p, p2, rfl, h1, h2, h3, h4⟩ := chk_lrg h
    exact st_lrg C hot h1 h2 h3 h4 (sE a C h3) (sE b C h4)
  | .lc elt t it ifs own, c, X, W, ex, C, h => by
    have hot := chk_cold h rfl
    obtain ⟨elt', t', it', ifs', scope, p, rfl, h1, h2, h3, h4, h5, h6, h7, h8⟩ := chk_lc h
    exact st_lc C hot h2 h4 h8 (sI it C h1 h3) (fun C' => sG t C' h5) (fun C' => sTs ifs C' h6) (fun C' => sE elt C' h7)
theorem sEs : ∀ (as : Es) {c : SC} {X : Cx} {W : WX} {es : List Expr}, Cok L c X W → chkEs c as es = true → PA X es (tEs (sigOf L me) X.mg W as)
  | .nil, c, X, W, es, C, h => by
    rw [chkEs_nil h]
    exact sEs_nil
  | .cons a as, c, X, W, es, C, h => by
    obtain ⟨e, es', rfl, h1, h2⟩ := chkEs_cons h
    exact PA.weak (pa_cons (sE a C h1) (sEs as C h2) (star_cons (chk_star h1))) fun σ H Q q => es_step q
theorem sDs : ∀ (as : Es) (fl : List Bool) {c : SC} {X : Cx} {W : WX} {es : List Expr}, Cok L c X W → chkDs c fl as es = true → PA X es (tDs (sigOf L me) X.mg W fl as)
  | .nil, fl, c, X, W, es, C, h => by
    rw [chkDs_nil h]
    exact ds_nil
  | .cons a as, [], c, X, W, es, C, h => by
    obtain ⟨e, es', rfl, h1, h2⟩ := chkDs_rest h
    exact PA.weak (pa_cons (sE a C h1) (sDs as [] C h2) (star_cons (chk_star h1))) fun σ H Q q => ds_plain (.inr ⟨rfl, rfl⟩) q
  | .cons a as, false :: bs, c, X, W, es, C, h => by
    obtain ⟨e, es', rfl, h1, h2⟩ := chkDs_plain h
    exact PA.weak (pa_cons (sE a C h1) (sDs as bs C h2) (star_cons (chk_star h1))) fun σ H Q q => ds_plain (.inl rfl) q
  | .cons a as, true :: bs, c, X, W, es, C, h => by
    obtain ⟨e, p, es', rfl, h1, h2⟩ := chkDs_star h
    exact PA.weak (StX.pa_star (sE a C h1) (sDs as bs C h2) rfl) fun σ H Q q => ds_star q
theorem sBs : ∀ (as : Es) {c : SC} {X : Cx} {W : WX} {es : List Expr}, Cok L c X W → chkEs c as es = true → PA X es (tBs (sigOf L me) X.mg W as)
  | .nil, c, X, W, es, C, h => by
    rw [chkEs_nil h]
    exact bs_nil
  | .cons a as, c, X, W, es, C, h => by
    obtain ⟨e, es', rfl, h1, h2⟩ := chkEs_cons h
    exact PA.weak (pa_cons (sB (sE a C h1) C h1) (sBs as C h2) (star_cons (chk_star h1))) fun σ H Q q => bs_step q
theorem sA : ∀ (as : Es) (fl : List Bool) {c : SC} {X : Cx} {W : WX} {es : List Expr}, Cok L c X W → chkEs c as es = true → PA X es (tA (sigOf L me) X.mg W fl as)
  | .nil, fl, c, X, W, es, C, h => by
    rw [chkEs_nil h]
    exact a_nil
  | .cons a as, [], c, X, W, es, C, h => by
    obtain ⟨e, es', rfl, h1, h2⟩ := chkEs_cons h
    exact PA.weak (pa_cons (sE a C h1) (sA as [] C h2) (star_cons (chk_star h1))) fun σ H Q q => a_step (.inr ⟨rfl, rfl⟩) q
  | .cons a as, false :: bs, c, X, W, es, C, h => by
    obtain ⟨e, es', rfl, h1, h2⟩ := chkEs_cons h
    exact PA.weak (pa_cons (sE a C h1) (sA as bs C h2) (star_cons (chk_star h1))) fun σ H Q q => a_step (.inl rfl) q
  | .cons a as, true :: bs, c, X, W, es, C, h => by
    obtain ⟨e, es', rfl, h1, h2⟩ := chkEs_cons h
    have ih := sA as bs C h2
    have hv : (∃ i, a = .var i) ∨ ∀ i, a ≠ .var i := by
      cases a <;> first | exact .inl ⟨_, rfl⟩ | exact .inr fun i z => nomatch z
    have ha := sE a C h1
    rcases hv with ⟨i, rfl⟩ | hv
    · obtain ⟨x, p, rfl, h1⟩ := chk_var h1
      exact a_mov C h1 ih
    · exact PA.weak (pa_cons ha ih (star_cons (chk_star h1))) fun σ H Q q => a_tmp hv q
theorem sK : ∀ (as : Es) {ks : List String} {c : SC} {X : Cx} {W : WX} {kws : List PySem.Keyword}, Cok L c X W → chkK c ks as kws = true → PK X kws (tEs (sigOf L me) X.mg W as)
  | .nil, ks, c, X, W, kws, C, h => by
    cases ks with
    | cons _ _ => simp [chkK] at h
    | nil => cases kws with
      | cons _ _ => simp [chkK] at h
      | nil =>
        refine ⟨fun pos pins s σ H Q I q => pk_nil.run pos pins s σ H Q I ?_⟩
        obtain ⟨env, F, O, K, R, s', hh, w, ok, ox⟩ := q
        simp only [wpEs] at w
        exact ok [] env w rfl F [] O [] H (Next.refl hh) .nil s'
  | .cons a as, ks, c, X, W, kws, C, h => by
    cases ks with
    | nil => simp [chkK] at h
    | cons k ks => cases kws with
      | nil => simp [chkK] at h
      | cons kw kws =>
        obtain ⟨nm, e, kp⟩ := kw
        cases nm with
        | none => simp [chkK] at h
        | some k' =>
          simp only [chkK, Bool.and_eq_true, decide_eq_true_eq] at h
          have ih := sK as (ks := ks) C h.2
          have ha := sE a C h.1.2
          exact ⟨fun pos pins s σ H Q I q => (pk_cons ha ih).run pos pins s σ H Q I (es_step q)⟩
theorem sO : ∀ (o : Eo) {c : SC} {X : Cx} {W : WX} {e : Option Expr}, Cok L c X W → chkO c o e = true → PO X e (tOpt (sigOf L me) X.mg W o)
  | .no, c, X, W, e, C, h => by
    rw [chkO_no h]
    exact o_no
  | .yes a, c, X, W, e, C, h => by
    obtain ⟨e', rfl, h1⟩ := chkO_yes h
    exact o_yes (sE a C h1)
theorem sBo : ∀ (as : Es) {k : Bool} {p : PySem.Pos} {c : SC} {X : Cx} {W : WX} {es : List Expr}, Cok L c X W → chkEs c as es = true → PE X (.BoolOp (boOf k) es p) (tBo (sigOf L me) X.mg W k as)
  | .nil, k, p, c, X, W, es, C, h => bo_nil
  | .cons a .nil, k, p, c, X, W, es, C, h => by
    obtain ⟨e, es', rfl, h1, h2⟩ := chkEs_cons h
    rw [chkEs_nil h2]
    exact bo_one (sE a C h1)
  | .cons a (.cons b bs), k, p, c, X, W, es, C, h => by
    obtain ⟨e, es', rfl, h1, h2⟩ := chkEs_cons h
    have ih := sBo (.cons b bs) (k := k) (p := p) C h2
    obtain ⟨f, fs, rfl, h3, h4⟩ := chkEs_cons h2
    exact bo_cons (sE a C h1) ih
theorem sT : ∀ (e : E) {c : SC} {X : Cx} {W : WX} {ex : Expr}, Cok L c X W → chkE c e ex = true → PT X ex (tT (sigOf L me) X.mg W e)
  | .nt a, c, X, W, ex, C, h => by
    obtain ⟨a', p, rfl, h1⟩ := chk_nt h
    exact t_nt (sT a C h1)
  | .bo k as, c, X, W, ex, C, h => by
    obtain ⟨as', p, rfl, h1⟩ := chk_bo h
    refine PT.weak (sTo as (k := k) (p := p) C h1).pt fun σ H Q ⟨env, F, O, K, R, s, hh, w, ok, ox⟩ => ⟨env, F, O, K, R, s, hh, by simpa only [wpT] using w, ok, ox⟩
  | .cmp o a b, c, X, W, ex, C, h => by
    obtain ⟨a', b', p, rfl, h1, h2, h3⟩ := chk_cmp h
    exact tt_cmp C (sB (sE a C h1) C h1) (sB (sE b C h2) C h2) h3
  | .chn o q a b d, c, X, W, ex, C, h => by
    obtain ⟨a', b', d', p, rfl, h1, h2, h3, h4, h5⟩ := chk_chn h
    exact tt_chn C (sE a C h1) (sE b C h2) (sE d C h3) h5
  | .chn3 o q r a b d e, c, X, W, ex, C, h => by
    obtain ⟨a', b', d', e', p, rfl, h1, h2, h3, h4, h5⟩ := chk_chn3 h
    exact tt_chn3 C (sE a C h1) (sE b C h2) (sE d C h3) (sE e C h4) h5
  | .chn4 o q r t a b d e f, c, X, W, ex, C, h => by
    obtain ⟨a', b', d', e', f', p, rfl, h1, h2, h3, h4, h5, h6⟩ := chk_chn4 h
    exact tt_chn4 C (sE a C h1) (sE b C h2) (sE d C h3) (sE e C h4) (sE f C h5) h6
  | .sset a, c, X, W, ex, C, h => t_no fun env K R w => by simp only [wpT] at w
  | .lset a, c, X, W, ex, C, h => t_no fun env K R w => by simp only [wpT] at w
  | .isi a t, c, X, W, ex, C, h => (s_isi C h fun e he => sE a C he).2
  | .call f as, c, X, W, ex, C, h => t_call C h fun fl es hc => sA as fl C hc
  | .var i, c, X, W, ex, C, h => t_var C h
  | .bi b as, c, X, W, ex, C, h => t_bi C h fun es hc => sBs as C hc
  | .mov i, c, X, W, ex, C, h => t_no fun env K R w => by simp only [wpT] at w
  | .con d, c, X, W, ex, C, h => t_no fun env K R w => by simp only [wpT] at w
  | .glo x d, c, X, W, ex, C, h => t_no fun env K R w => by simp only [wpT] at w
  | .bin o a b, c, X, W, ex, C, h => t_no fun env K R w => by simp only [wpT] at w
  | .neg a, c, X, W, ex, C, h => t_no fun env K R w => by simp only [wpT] at w
  | .ife d a b, c, X, W, ex, C, h => t_no fun env K R w => by simp only [wpT] at w
  | .calk f as ks bs, c, X, W, ex, C, h => t_no fun env K R w => by simp only [wpT] at w
  | .sub a i, c, X, W, ex, C, h => t_no fun env K R w => by simp only [wpT] at w
  | .slc a lo hi, c, X, W, ex, C, h => t_no fun env K R w => by simp only [wpT] at w
  | .tup as, c, X, W, ex, C, h => t_no fun env K R w => by simp only [wpT] at w
  | .lst as, c, X, W, ex, C, h => t_no fun env K R w => by simp only [wpT] at w
  | .dsp fl as, c, X, W, ex, C, h => t_no fun env K R w => by simp only [wpT] at w
  | .rvl a, c, X, W, ex, C, h => t_no fun env K R w => by simp only [wpT] at w
  | .ice a, c, X, W, ex, C, h => t_no fun env K R w => by simp only [wpT] at w
  | .lzip a b, c, X, W, ex, C, h => t_no fun env K R w => by simp only [wpT] at w
  | .peek a, c, X, W, ex, C, h => t_peek (c := c) (sT a C (chk_peek h))
  | .idx i b, c, X, W, ex, C, h => t_no fun env K R w => by simp only [wpT] at w
  | .rpr k as, c, X, W, ex, C, h => t_no fun env K R w => by simp only [wpT] at w
  | .isc a ks, c, X, W, ex, C, h => (s_isc C h fun e he => sE a C he).2
  | .att a f, c, X, W, ex, C, h => t_no fun env K R w => by simp only [wpT] at w
  | .dnw, c, X, W, ex, C, h => t_no fun env K R w => by simp only [wpT] at w
  | .lrg a b, c, X, W, ex, C, h => t_no fun env K R w => by simp only [wpT] at w
  | .lc elt t it ifs own, c, X, W, ex, C, h => t_no fun env K R w => by simp only [wpT] at w
theorem sTo : ∀ (as : Es) {k : Bool} {p : PySem.Pos} {c : SC} {X : Cx} {W : WX} {es : List Expr}, Cok L c X W → chkEs c as es = true → PW X (.BoolOp (boOf k) es p) (tTo (sigOf L me) X.mg W k as)
  | .nil, k, p, c, X, W, es, C, h => to_nil
  | .cons a .nil, k, p, c, X, W, es, C, h => by
    obtain ⟨e, es', rfl, h1, h2⟩ := chkEs_cons h
    rw [chkEs_nil h2]
    exact to_one (sT a C h1)
  | .cons a (.cons b bs), k, p, c, X, W, es, C, h => by
    obtain ⟨e, es', rfl, h1, h2⟩ := chkEs_cons h
    have ih := sTo (.cons b bs) (k := k) (p := p) C h2
    obtain ⟨f, fs, rfl, h3, h4⟩ := chkEs_cons h2
    exact to_cons (sT a C h1) ih
theorem sTs : ∀ (as : Es) {c : SC} {X : Cx} {W : WX} {es : List Expr}, Cok L c X W → chkEs c as es = true → PTs X es (tTs (sigOf L me) X.mg W as)
  | .nil, c, X, W, es, C, h => by
    rw [chkEs_nil h]
    exact ts_nil
  | .cons a .nil, c, X, W, es, C, h => by
    obtain ⟨e, es', rfl, h1, h2⟩ := chkEs_cons h
    rw [chkEs_nil h2]
    exact ts_one (sT a C h1)
  | .cons a (.cons b bs), c, X, W, es, C, h => ts_no
theorem sI : ∀ (it : I) {c : SC} {X : Cx} {W : WX} {tg e : Expr}, Cok L c X W → chkI c it e = true → (needTup it = true → isTupE tg = true) → PI X tg e (tI (sigOf L me) X.mg W it)
  | .ex a, c, X, W, tg, e, C, h, hn => si_ex (sE a C (chkI_call h))
  | .rng1 a, c, X, W, tg, e, C, h, hn => by
    obtain ⟨q, p, x, rfl, h1, h2⟩ := chkI_call h
    exact si_rng1 C h1 h2 (sE a C h2)
  | .rng2 a b, c, X, W, tg, e, C, h, hn => by
    obtain ⟨q, p, x, y, rfl, h1, h2, h3⟩ := chkI_call h
    exact si_rng2 C h1 h2 h3 (sE a C h2) (sE b C h3)
  | .rng3 a b d, c, X, W, tg, e, C, h, hn => by
    obtain ⟨q, p, x, y, z, rfl, h1, h2, h3, h4⟩ := chkI_call h
    exact si_rng3 C h1 h2 h3 h4 (sE a C h2) (sE b C h3) (sE d C h4)
  | .zip2 a b, c, X, W, tg, e, C, h, hn => by
    obtain ⟨q, p, x, y, rfl, h1, h2, h3⟩ := chkI_call h
    exact si_zip2 C (hn rfl) h1 h2 h3 (sE a C h2) (sE b C h3)
  | .zip3 a b d, c, X, W, tg, e, C, h, hn => by
    obtain ⟨q, p, x, y, z, rfl, h1, h2, h3, h4⟩ := chkI_call h
    exact si_zip3 C (hn rfl) h1 h2 h3 h4 (sE a C h2) (sE b C h3) (sE d C h4)
  | .enum a, c, X, W, tg, e, C, h, hn => by
    obtain ⟨q, p, x, rfl, h1, h2⟩ := chkI_call h
    exact si_enum C (hn rfl) h1 h2 (sE a C h2)
  | .enk k a, c, X, W, tg, e, C, h, hn => by
    obtain ⟨q, p, x, j, r, rfl, h1, h2, h3⟩ := chkI_call h
    exact si_enk C (hn rfl) h1 h2 h3 (sE a C h2)
  | .rev a, c, X, W, tg, e, C, h, hn => by
    obtain ⟨q, p, x, rfl, h1, h2⟩ := chkI_call h
    exact si_rev C h1 h2 (sE a C h2)
end
end
end DP

/-! DpQ: statements: the steps. -/
namespace DP
open PySem (Addr sizeLine wpAny model Value Shared Around FuncData BindsTo codeAny Str Paired Expr Stmt)
open PySem.W (Frag)
open L2
variable [CT]

/-- the frame's length and the caller's slots are as they were -/
def Mes (me : List Nat) (σ σ' : St) : Prop := σ'.length = σ.length ∧ ∀ j ∈ me, σ'[j]? = σ[j]?
theorem Mes.refl (me : List Nat) (σ : St) : Mes me σ σ := ⟨rfl, fun _ _ => rfl⟩
theorem Mes.trans {me : List Nat} {σ σ1 σ2 : St} (a : Mes me σ σ1) (b : Mes me σ1 σ2) : Mes me σ σ2 := ⟨b.1.trans a.1, fun j h => (b.2 j h).trans (a.2 j h)⟩
theorem Chg.mes {me l : List Nat} {σ σ' : St} (c : Chg me l σ σ') : Mes me σ σ' := ⟨c.1, c.2.2⟩
theorem Mes.set {me : List Nat} {σ : St} {i : Nat} {o : Option V} (h : i ∉ me) : Mes me σ (σ.set i o) := (Chg.one h).mes
section
variable (mg : Str → Option Value) (W : WX) (me : List Nat) (F : Hp) (O : Own) (σ : St) (H : Hp)
def okN (P : St → Hp → Prop) (k : Env → Prop) : Prop := ∀ env', k env' → ∀ F' O' σ' H', Next F O H F' O' H' → SimE F' env' σ' O' → Mes me σ σ' → P σ' H'
def okR (P : VK) (k : D → Env → Prop) : Prop := ∀ d env', k d env' → ∀ F' Od Oe σ' v H', Next F O H F' (Od ++ Oe) H' → Rep F' d v Od → SimE F' env' σ' Oe → Mes me σ σ' → P v H'
structure okC (D : Ends) (K : Con) : Prop where
  nx : okN me F O σ H D.nx K.nx
  rt : okR me F O σ H D.rt K.rt
  bk : okN me F O σ H D.bk K.bk
  ct : okN me F O σ H D.ct K.ct
  ex : ∀ x env', K.ex x env' → ∀ F' O' σ' cls dd H', Next F O H F' O' H' → SimE F' env' σ' O' → Mes me σ σ' → RepX mg F' H' x cls dd → W cls dd σ' H'
end
section
variable {L : List Ent} {c : SC} {X : Cx} {W : WX} {me : List Nat} {mg : Str → Option Value} {F F1 : Hp} {O O1 : Own} {σ σ1 : St} {H H1 : Hp}
theorem okN.step {P : St → Hp → Prop} {k : Env → Prop} (h : okN me F O σ H P k) (n : Next F O H F1 O1 H1) (m : Mes me σ σ1) : okN me F1 O1 σ1 H1 P k := fun e q F' O' σ' H' n' s m' => h e q F' O' σ' H' (n.trans n') s (m.trans m')
theorem okR.step {P : VK} {k : D → Env → Prop} (h : okR me F O σ H P k) (n : Next F O H F1 O1 H1) (m : Mes me σ σ1) : okR me F1 O1 σ1 H1 P k := fun d e q F' Od Oe σ' v H' n' r s m' => h d e q F' Od Oe σ' v H' (n.trans n') r s (m.trans m')
theorem okC.step {D : Ends} {K : Con} (h : okC mg W me F O σ H D K) (n : Next F O H F1 O1 H1) (m : Mes me σ σ1) : okC mg W me F1 O1 σ1 H1 D K :=
  ⟨h.nx.step n m, h.rt.step n m, h.bk.step n m, h.ct.step n m, fun x e q F' O' σ' cls dd H' n' s m' => h.ex x e q F' O' σ' cls dd H' (n.trans n') s (m.trans m')⟩
theorem okC.ox {D : Ends} {K : Con} (h : okC mg W me F O σ H D K) : okX mg W F O σ H K.ex := fun x e q F' O' cls dd H' n s r => h.ex x e q F' O' σ cls dd H' n s (Mes.refl _ _) r
def tS (Γ : Sig) (mg : Str → Option Value) (W : WX) (st : S) : TS := fun D σ H => ∃ env F O K, SimE F env σ O ∧ Held F O H ∧ wpS Γ st env K ∧ okC mg W Γ.me F O σ H D K
def tSs (Γ : Sig) (mg : Str → Option Value) (W : WX) (st : Ss) : TS := fun D σ H => ∃ env F O K, SimE F env σ O ∧ Held F O H ∧ wpSs Γ st env K ∧ okC mg W Γ.me F O σ H D K
theorem PS.weak {st : Stmt} {t t' : TS} (h : PS X st t) (k : ∀ D σ H, t' D σ H → t D σ H) : PS X st t' := ⟨fun pins s σ H D I q => h.run pins s σ H D I (k D σ H q)⟩
theorem PSs.weak {st : List Stmt} {t t' : TS} (h : PSs X st t) (k : ∀ D σ H, t' D σ H → t D σ H) : PSs X st t' := ⟨fun pins s σ H D I q => h.run pins s σ H D I (k D σ H q)⟩

/-- where one stands, in a def's body -/
structure Dok (L : List Ent) (c : SC) (X : Cx) (W : WX) : Prop where
  ok : Cok L c X W
  po : PySem.PassesOwn (model X.prog X.w) X.A X.env X.xe
  bk : X.env.blockKind = .function
  hs : X.stack = X.env :: X.outer
  hf : X.env.frame = some X.env.locals
  hex : X.ex = []

/-! ### small statements -/
theorem ss_nev {st : Stmt} : PS X st (tS (sigOf L me) X.mg W .nev) := PS.weak ps_never fun D σ H ⟨env, F, O, K, s, hh, w, ok⟩ => by simp only [wpS] at w
theorem ss_pas {p : PySem.Pos} : PS X (.Pass p) (tS (sigOf L me) X.mg W .pas) := PS.weak ps_pass fun D σ H ⟨env, F, O, K, s, hh, w, ok⟩ => by
  simp only [wpS] at w
  exact ok.nx env w F O σ H (Next.refl hh) s (Mes.refl _ _)
theorem ss_brk {p : PySem.Pos} : PS X (.Break p) (tS (sigOf L me) X.mg W .brk) := PS.weak ps_break fun D σ H ⟨env, F, O, K, s, hh, w, ok⟩ => by
  simp only [wpS] at w
  exact ok.bk env w F O σ H (Next.refl hh) s (Mes.refl _ _)
theorem ss_cnt {p : PySem.Pos} : PS X (.Continue p) (tS (sigOf L me) X.mg W .cnt) := PS.weak ps_continue fun D σ H ⟨env, F, O, K, s, hh, w, ok⟩ => by
  simp only [wpS] at w
  exact ok.ct env w F O σ H (Next.refl hh) s (Mes.refl _ _)
theorem ss_rtn {p : PySem.Pos} : PS X (.Return none p) (tS (sigOf L me) X.mg W .rtn) := PS.weak ps_retN fun D σ H ⟨env, F, O, K, s, hh, w, ok⟩ => by
  simp only [wpS] at w
  exact ok.rt _ env w F [] O σ _ H (Next.refl hh) .non s (Mes.refl _ _)
theorem ss_ret {p : PySem.Pos} {a : E} {e : Expr} (ha : PE X e (tE (sigOf L me) X.mg W a)) : PS X (.Return (some e) p) (tS (sigOf L me) X.mg W (.ret a)) := PS.weak (ps_ret ha) fun D σ H ⟨env, F, O, K, s, hh, w, ok⟩ => by
  simp only [wpS] at w
  exact ⟨env, F, O, K.rt, K.ex, s, hh, w, fun d env1 k F1 Od Oe v H1 n r s1 => ok.rt d env1 k F1 Od Oe σ v H1 n r s1 (Mes.refl _ _), ok.ox⟩
theorem ss_exp {p : PySem.Pos} {a : E} {e : Expr} (ha : PE X e (tE (sigOf L me) X.mg W a)) (hs : PySem.swapsWith e none p.line X.env = pure false) : PS X (.Expr e p) (tS (sigOf L me) X.mg W (.exp a)) := PS.weak (ps_expr ha hs) fun D σ H ⟨env, F, O, K, s, hh, w, ok⟩ => by
  simp only [wpS] at w
  exact ⟨env, F, O, _, K.ex, s, hh, w, fun d env1 k F1 Od Oe v H1 n r s1 => ok.nx env1 k F1 Oe σ H1 n.drop s1 (Mes.refl _ _), ok.ox⟩
theorem ss_ite {p : PySem.Pos} {d : E} {a b : Ss} {d' : Expr} {a' b' : List Stmt} (hd : PT X d' (tT (sigOf L me) X.mg W d)) (ha : PSs X a' (tSs (sigOf L me) X.mg W a)) (hb : PSs X b' (tSs (sigOf L me) X.mg W b)) : PS X (.If d' a' b' p) (tS (sigOf L me) X.mg W (.ite d a b)) :=
  PS.weak (ps_if hd ha hb) fun D σ H ⟨env, F, O, K, s, hh, w, ok⟩ => by
    simp only [wpS] at w
    refine ⟨env, F, O, _, K.ex, s, hh, w, fun k env1 w1 F1 Oe H1 n s1 => ?_, ok.ox⟩
    cases k with
    | true => exact ⟨env1, F1, Oe, K, s1, n.held, w1, ok.step n (Mes.refl _ _)⟩
    | false => exact ⟨env1, F1, Oe, K, s1, n.held, w1, ok.step n (Mes.refl _ _)⟩
theorem sss_nil : PSs X [] (tSs (sigOf L me) X.mg W .nil) := PSs.weak pss_nil fun D σ H ⟨env, F, O, K, s, hh, w, ok⟩ => by
  simp only [wpSs] at w
  exact ok.nx env w F O σ H (Next.refl hh) s (Mes.refl _ _)
theorem sss_cons {a : S} {as : Ss} {a' : Stmt} {as' : List Stmt} (ha : PS X a' (tS (sigOf L me) X.mg W a)) (hb : PSs X as' (tSs (sigOf L me) X.mg W as)) : PSs X (a' :: as') (tSs (sigOf L me) X.mg W (.cons a as)) :=
  PSs.weak (pss_cons ha hb) fun D σ H ⟨env, F, O, K, s, hh, w, ok⟩ => by
    simp only [wpSs] at w
    refine ⟨env, F, O, _, s, hh, w, ⟨fun env1 w1 F1 O1 σ1 H1 n s1 m => ⟨env1, F1, O1, K, s1, n.held, w1, ok.step n m⟩, ok.rt, ok.bk, ok.ct, ok.ex⟩⟩
/-- a target's value, then the rest -/
theorem asg_read {t : T} {e : E} {D : Ends} (h : tS (sigOf L me) mg W (.asg t e) D σ H) : tAsg (tE (sigOf L me) mg W e) (gT me t) D σ H := by
  obtain ⟨env, F, O, K, s, hh, w, ok⟩ := h
  simp only [wpS] at w
  refine ⟨env, F, O, _, K.ex, s, hh, w, fun d env1 w1 F1 Od Oe v H1 n r s1 => ?_, ok.ox⟩
  refine ⟨env1, F1, Od, Oe, d, K.nx, s1, n.held, r, w1, fun env2 w2 F2 O2 σ2 H2 n2 s2 ch => ?_⟩
  exact ok.nx env2 w2 F2 O2 σ2 H2 (n.trans n2) s2 ch.mes
theorem gT_nm {i : Nat} {v : V} {Q : St → Hp → Prop} (h : gT me (.nm i) v σ H Q) : gName i v σ H Q := by
  obtain ⟨env, F, Od, Oe, d, K, s, hh, r, w, ok⟩ := h
  obtain ⟨w1, w2, w3⟩ := w
  obtain ⟨Z, B, C', k1, k2, k3⟩ := s.store w2 r
  refine ok _ w3 F C' _ H (Next.keep (Z := Z) hh ?_) k1 (Chg.one w1)
  exact ((List.Perm.append_left Od k2).trans perm3).trans (List.Perm.append_left Z k3.symm)

/-! ### loops -/
theorem ss_whl {p : PySem.Pos} {d : E} {b : Ss} {d' : Expr} {b' : List Stmt} (C : Dok L c X W) (hd : PT X d' (tT (sigOf L me) X.mg W d)) (hb : PSs X b' (tSs (sigOf L me) X.mg W b)) : PS X (.While d' b' [] p) (tS (sigOf L me) X.mg W (.whl d b)) :=
  PS.weak (ps_while C.po hd hb) fun D σ H ⟨env, F, O, K, s, hh, w, ok⟩ => by
    simp only [wpS] at w
    obtain ⟨Wd, ⟨m0, w0⟩, turn⟩ := w
    refine ⟨fun m σ1 H1 => ∃ F1 O1 env1, SimE F1 env1 σ1 O1 ∧ Next F O H F1 O1 H1 ∧ Mes me σ σ1 ∧ Wd m env1, ⟨m0, F, O, env, s, Next.refl hh, Mes.refl _ _, w0⟩, fun m σ1 H1 ⟨F1, O1, env1, s1, n1, m1, w1⟩ => ?_⟩
    have ok1 := ok.step n1 m1
    refine ⟨env1, F1, O1, _, K.ex, s1, n1.held, turn m env1 w1, fun k env2 w2 F2 O2 H2 n2 s2 => ?_, ok1.ox⟩
    cases k with
    | false => exact ok1.nx env2 w2 F2 O2 σ1 H2 n2 s2 (Mes.refl _ _)
    | true =>
      have ok2 := ok1.step n2 (Mes.refl _ _)
      refine ⟨fun σ' H' => ∃ m', m' < m ∧ ∃ F3 O3 env3, SimE F3 env3 σ' O3 ∧ Next F O H F3 O3 H' ∧ Mes me σ σ' ∧ Wd m' env3, fun σ' H' q => q, env2, F2, O2, _, s2, n2.held, w2, ⟨?_, ok2.rt, ok2.nx, ?_, ok2.ex⟩⟩
      · exact fun env3 ⟨m', hm, w3⟩ F3 O3 σ3 H3 n3 s3 m3 => ⟨m', hm, F3, O3, env3, s3, (n1.trans n2).trans n3, m1.trans m3, w3⟩
      · exact fun env3 ⟨m', hm, w3⟩ F3 O3 σ3 H3 n3 s3 m3 => ⟨m', hm, F3, O3, env3, s3, (n1.trans n2).trans n3, m1.trans m3, w3⟩
def forStep (Γ : Sig) (t : T) (b : Ss) (K : Con) (x : D) (k : Env → Prop) (e : Env) : Prop := setT Γ.me t x e fun e2 => wpSs Γ b e2 { K with nx := k, ct := k, bk := K.nx }
theorem ss_for {p : PySem.Pos} {t : T} {it : I} {b : Ss} {t' it' : Expr} {b' : List Stmt} (C : Dok L c X W) (hot : c.hot = false) (hi : PI X t' it' (tI (sigOf L me) X.mg W it)) (hg : PG X t' (gT me t)) (hb : PSs X b' (tSs (sigOf L me) X.mg W b)) (hn : noSet it' = true) :
    PS X (.For t' it' b' [] p) (tS (sigOf L me) X.mg W (.for_ t it b)) :=
  PS.weak (ps_for C.po (C.ok.calm hot) hi hg hb (noSet_ok hn)) fun D σ H ⟨env, F, O, K, s, hh, w, ok⟩ => by
    simp only [wpS] at w
    refine ⟨env, F, O, _, K.ex, s, hh, w, fun items env1 w1 F1 Oe1 J H1 n1 s1 wk => ?_, ok.ox⟩
    have w1' : (items.foldr (forStep (sigOf L me) t b K) K.nx) env1 := w1
    refine ⟨fun i m σ2 H2 => m = items.length - i ∧ i ≤ items.length ∧ ∃ F2 O2 env2, SimE F2 env2 σ2 O2 ∧ Next F1 Oe1 H1 F2 O2 H2 ∧ Mes me σ σ2 ∧ ((items.drop i).foldr (forStep (sigOf L me) t b K) K.nx) env2,
      ⟨items.length, rfl, Nat.zero_le _, F1, Oe1, env1, s1, Next.refl n1.held, Mes.refl _ _, w1'⟩, fun i m σ2 H2 hw => ?_⟩
    obtain ⟨rfl, hi', F2, O2, env2, s2, n2, m2, hf⟩ := hw
    have wk2 := wk F2 O2 H2 i n2.held n2.f
    by_cases hlt : i < items.length
    · right
      obtain ⟨g1, g2⟩ := wk2.1 items[i] (List.getElem?_eq_getElem hlt)
      refine ⟨g1, fun σ3 H3 => ∃ F3 O3 env3, SimE F3 env3 σ3 O3 ∧ Next F1 Oe1 H1 F3 O3 H3 ∧ Mes me σ σ3 ∧ ((items.drop (i + 1)).foldr (forStep (sigOf L me) t b K) K.nx) env3, fun σ3 H3 h' => ⟨_, by omega, rfl, by omega, h'⟩, fun x H3 hy => ?_⟩
      obtain ⟨F3, n3, r3⟩ := g2 x H3 hy
      rw [List.drop_eq_getElem_cons hlt, List.foldr_cons] at hf
      have hf' : setT me t items[i] env2 _ := hf
      have n13 := n2.trans n3
      refine ⟨env2, F3, [], O2, items[i], _, s2.mono n3.f, n13.held, r3, hf', fun env4 w4 F4 O4 σ4 H4 n4 s4 ch => ?_⟩
      have n14 := n13.trans n4
      have m4 := m2.trans ch.mes
      have okk := ok.step (n1.trans n14) m4
      refine ⟨env4, F4, O4, _, s4, n4.held, w4, ⟨?_, okk.rt, okk.nx, ?_, okk.ex⟩⟩
      · exact fun env5 w5 F5 O5 σ5 H5 n5 s5 m5 => ⟨F5, O5, env5, s5, n14.trans n5, m4.trans m5, w5⟩
      · exact fun env5 w5 F5 O5 σ5 H5 n5 s5 m5 => ⟨F5, O5, env5, s5, n14.trans n5, m4.trans m5, w5⟩
    · left
      have hge : items.length ≤ i := by omega
      refine ⟨wk2.2 hge, ?_⟩
      rw [List.drop_eq_nil_of_le hge] at hf
      exact ok.nx env2 hf F2 O2 σ2 H2 (n1.trans n2) s2 m2

/-! ### stores into lists -/
theorem ss_pst {i : Nat} {ix e : E} {x : Str} {ix' e' : Expr} {p q r : PySem.Pos} (C : Dok L c X W) (hx : seen c i x = true) (hi : PE X ix' (tE (sigOf L me) X.mg W ix)) (hpl : PlainIx ix') (he : PE X e' (tE (sigOf L me) X.mg W e))
    (hs : PySem.swapsWithSole [.Subscript (.Name x q) ix' r] e' p.line X.env = pure false) (hw : PySem.swappedStores [.Subscript (.Name x q) ix' r] e' X.env = pure none)
    (ha : ∀ v, PySem.assign (.Subscript (.Name x q) ix' r) X.env v = (do
      let ov ← PySem.holding [v] (PySem.eval (.Name x q) X.env)
      let iv ← PySem.holding [v, ov] (PySem.eval ix' X.env)
      PySem.standAt r
      PySem.holding [v, ov, iv] (PySem.setItem ov iv v)
      PySem.release [v, ov, iv] [])) : PS X (.Assign [.Subscript (.Name x q) ix' r] e' p) (tS (sigOf L me) X.mg W (.pst i ix e)) := by
  obtain ⟨h1, h2, h3, h4⟩ := C.ok.seen hx
  refine PS.weak (ps_asg he (pg_sub (pe_var h1 h2 h3 h4) hi set_list ha) hs hw rfl) fun D σ H ⟨env, F, O, K, s, hh, w, ok⟩ => ?_
  simp only [wpS] at w
  refine ⟨env, F, O, _, K.ex, s, hh, w, fun d env1 w1 F1 Od Oe v H1 n r s1 => ?_, ok.ox⟩
  obtain ⟨d0, e0, w1⟩ := get_iff w1
  obtain ⟨v0, _, _, k1, _, _, _⟩ := s1.take e0
  refine ⟨v0, k1, env1, F1, Oe, _, K.ex, s1, n.held.right, w1, fun k env2 w2 F2 Od2 Oe2 u H2 n2 r2 s2 => ?_, ok.ox.step n.drop⟩
  obtain ⟨y, ey, xs, m, j, rfl, rfl, hj, hk⟩ := get_iff w2
  obtain ⟨rfl, rfl⟩ := r2.intI
  obtain ⟨v1, A, B, z1, z2, z3, z4⟩ := s2.take ey
  rw [k1] at z1; cases z1
  have nf := n.trans (Next.frame n.held n2)
  -- Od ++ ([] ++ Oe2), Oe2 ~ A ++ B
  have hp : (Od ++ ([] ++ Oe2)).Perm (A ++ (Od ++ B)) := (List.Perm.append_left Od z4).trans perm3
  cases z2 with
  | @own a vs _ O' rl =>
    have nf2 := nf.perm hp
    have hv : H2 a = some (.lst vs) := nf2.held.o (a, .lst vs) (by simp)
    refine ⟨a, vs, m, j, rfl, rfl, hv, by rw [← rl.len]; exact hj, ?_⟩
    have hjl : j < xs.length := (ixN_seq hj).2.1
    obtain ⟨el, A', B', C', q1, q2, q3, q4⟩ := rl.nth (List.getElem?_eq_getElem hjl)
    have nw := Next.write (u := .lst vs) nf2.held (.lst (vs.set j v))
    have rl' := q4 (Sub.refl F2) (r.mono n2.f)
    have hi2 : i < env2.length := (List.getElem?_eq_some_iff.mp ey).1
    have rown : Rep F2 (.lst true (xs.set j d)) (.ref a) ((a, .lst (vs.set j v)) :: (A' ++ Od ++ C')) := .own rl'
    obtain ⟨E', p1, p2⟩ := z3.put (i := i) (by rw [List.getElem?_set_self hi2]) rown
    rw [List.set_set, set_self k1] at p1
    refine ok.nx _ hk F2 E' σ _ ?_ p1 (Mes.refl _ _)
    have nn := nf2.trans nw
    refine (nn.perm (O'' := B' ++ E') ?_).drop
    rw [q3]
    have a1 : ((A' ++ B' ++ C') ++ (Od ++ B)).Perm (B' ++ ((A' ++ Od ++ C') ++ B)) := by
      have e1 : ((A' ++ B' ++ C') ++ (Od ++ B)).Perm (B' ++ (A' ++ (C' ++ (Od ++ B)))) := by
        rw [List.append_assoc, List.append_assoc]
        exact perm3
      refine e1.trans (List.Perm.append_left B' ?_)
      rw [List.append_assoc, List.append_assoc]
      exact List.Perm.append_left A' perm3
    exact ((a1.cons _).trans List.perm_middle.symm).trans (List.Perm.append_left B' p2.symm)
end
end DP

/-! DpR: statements: the rest of the steps; the one theorem. -/
namespace DP
open PySem (Addr sizeLine wpAny model Value Shared Around FuncData BindsTo codeAny Str Paired Expr Stmt)
open PySem.W (Frag)
open L2
variable [CT]

section
variable {L : List Ent} {c : SC} {X : Cx} {W : WX} {me : List Nat} {mg : Str → Option Value} {F F1 : Hp} {O O1 : Own} {σ σ1 : St} {H H1 : Hp}
/-! ### in place -/
def anyP (X : Cx) (op : PySem.Operator) : TIp := fun x y H Q => ∃ t : TIp, PIp X op t ∧ t x y H Q
theorem anyP_ok {op : PySem.Operator} : PIp X op (anyP X op) := by
  intro pins s σ H x y v u Q I r1 r2 h
  obtain ⟨t, ht, q⟩ := h
  exact ht pins s σ H x y v u Q I r1 r2 q
theorem ip_mulW : PIp X .Mult (fun x y H Q => ∃ i j, x = .int i ∧ y = .int j ∧ CMulW i j ∧ Q (.int (i * j)) H) := by
  intro pins s σ H x y v u Q I r1 r2 h
  obtain ⟨i, j, rfl, rfl, b, q⟩ := h
  obtain ⟨t, rfl⟩ := r1
  obtain ⟨t', rfl⟩ := r2
  exact PyProof.Rows.imul_int ⟨.int _, H, I.tok _, ⟨_, rfl⟩, q⟩ b.ok
theorem ip_modP : PIp X .Mod (fun x y H Q => ∃ i j, x = .int i ∧ y = .int j ∧ 0 < j ∧ Q (.int (i % j)) H) := by
  intro pins s σ H x y v u Q I r1 r2 h
  obtain ⟨i, j, rfl, rfl, b, q⟩ := h
  obtain ⟨t, rfl⟩ := r1
  obtain ⟨t', rfl⟩ := r2
  exact PyProof.Rows.imod_int (by omega) ⟨.int _, H, I.tok _, ⟨_, by rw [Int.fmod_eq_emod_of_nonneg i (by omega)]⟩, q⟩
theorem aug_ok {o : Op} {x y : D} {Q : D → Prop} {F : Hp} {A B : Own} {v u : V} {Qv : VK} (w : augD o x y Q) (r1 : Rep F x v A) (r2 : Rep F y u B) (k : ∀ i, Q (.int i) → Qv (.int i) H) : anyP X (opOf o) v u H Qv := by
  unfold augD at w
  split at w
  · obtain ⟨rfl, _⟩ := r1.intI; obtain ⟨rfl, _⟩ := r2.intI
    exact ⟨_, ip_add, _, _, rfl, rfl, k _ w⟩
  · obtain ⟨rfl, _⟩ := r1.intI; obtain ⟨rfl, _⟩ := r2.intI
    exact ⟨_, ip_sub, _, _, rfl, rfl, k _ w⟩
  · obtain ⟨rfl, _⟩ := r1.intI; obtain ⟨rfl, _⟩ := r2.intI
    exact ⟨_, ip_mulW, _, _, rfl, rfl, w.1, k _ w.2⟩
  · obtain ⟨rfl, _⟩ := r1.intI; obtain ⟨rfl, _⟩ := r2.intI
    exact ⟨_, ip_modP, _, _, rfl, rfl, w.1, k _ w.2⟩
  · exact w.elim
theorem flat_fz {d : D} (h : flatD d = true) : d.isFz = true := by cases d <;> first | rfl | simp [flatD] at h
theorem augD_int {o : Op} {x y : D} {Q : D → Prop} (w : augD o x y Q) : ∃ i, Q (.int i) := by
  unfold augD at w
  split at w
  · exact ⟨_, w⟩
  · exact ⟨_, w⟩
  · exact ⟨_, w.2⟩
  · exact ⟨_, w.2⟩
  · exact w.elim
theorem ss_aug {i : Nat} {o : Op} {e : E} {x : Str} {e' : Expr} {p q : PySem.Pos} (C : Dok L c X W) (hx : mine c i x = true) (he : PE X e' (tE (sigOf L me) X.mg W e)) : PS X (.AugAssign (.Name x q) (opOf o) e' p) (tS (sigOf L me) X.mg W (.aug i o e)) := by
  obtain ⟨h1, h2, h3⟩ := C.ok.mine hx
  refine PS.weak (ps_aug C.ok.nd h1 h2 he (anyP_ok (op := opOf o)) h3) fun D σ H ⟨env, F, O, K, s, hh, w, ok⟩ => ?_
  simp only [wpS] at w
  obtain ⟨x0, e0, fl, hm, w⟩ := get_iff w
  obtain ⟨v0, A, B, k1, k2, k3, k4⟩ := s.take e0
  have hA := k2.free (flat_fz fl)
  subst hA
  refine ⟨v0, k1, env, F, O, _, K.ex, s, hh, w, fun d env1 w1 F1 Od Oe u H1 n r s1 => ?_, ok.ox⟩
  have hi : i < env1.length := by rw [s1.len]; exact (List.getElem?_eq_some_iff.mp k1).1
  refine aug_ok w1 (k2.mono n.f) r fun z hz => ?_
  obtain ⟨Z, B', C', p1, p2, p3⟩ := s1.store hi (Rep.int (F := F1) z)
  refine ok.nx _ hz F1 C' _ H1 ?_ p1 (Mes.set hm)
  exact n.drop.trans (Next.keep (Z := Z) n.held.right (p2.trans (List.Perm.append_left Z (by simpa using p3.symm))))

/-! ### x.append(e) -/
theorem ss_app {i : Nat} {e : E} {x m : Str} {e' : Expr} {p q r cp : PySem.Pos} (C : Dok L c X W) (hx : seen c i x = true) (hm : m = Str.ofString "append") (hc : chkE c e e' = true) (hl : (r.endLine == cp.line) = true) (he : PE X e' (tE (sigOf L me) X.mg W e)) :
    PS X (.Expr (.Call (.Attribute (.Name x q) m r) [e'] [] cp) p) (tS (sigOf L me) X.mg W (.app i e)) := by
  subst hm
  obtain ⟨h1, h2, h3, h4⟩ := C.ok.seen hx
  have hs := star_cons (es := []) (env := X.env) (chk_star hc)
  have pe := pe_bm (X := X) (apos := r) (cpos := cp) PySem.F.plainAttrs_list PySem.F.slot_list_append PySem.F.type_list_append mt_append (pe_var (pos := q) h1 h2 h3 h4) (pa_cons he pa_nil hs) rfl (by rw [hs]; rfl) hl hs rfl
  refine PS.weak (ps_expr pe rfl) fun D σ H ⟨env, F, O, K, s, hh, w, ok⟩ => ?_
  simp only [wpS] at w
  obtain ⟨x0, e0, ⟨xs, rfl⟩, w⟩ := get_iff w
  obtain ⟨v0, A, B, k1, k2, k3, k4⟩ := s.take e0
  have hp0 := hh.perm k4
  refine ⟨v0, k1, ?_, env, F, O, _, K.ex, s, hh, w, fun d env1 w1 F1 Od Oe u H1 n rd s1 => ?_, ok.ox⟩
  · cases k2 with
    | @own a vs _ O' rl =>
      have hv : H a = some (.lst vs) := hp0.o (a, .lst vs) (by simp)
      exact .inl ⟨rfl, vs, SqL.of hv⟩
  · obtain ⟨y, ey, ys, rfl, hz, hk⟩ := get_iff w1
    obtain ⟨v1, A1, B1, z1, z2, z3, z4⟩ := s1.take ey
    rw [k1] at z1; cases z1
    cases z2 with
    | @own a vs _ O' rl =>
      have hp : (Od ++ Oe).Perm (((a, HO.lst vs) :: O') ++ (Od ++ B1)) := (List.Perm.append_left Od z4).trans perm3
      have nf2 := n.perm hp
      have hv : H1 a = some (.lst vs) := nf2.held.o (a, .lst vs) (by simp)
      refine ⟨a, vs, u, rfl, rfl, hv, by rw [← rl.len]; exact hz, ?_⟩
      have nw := Next.write (u := .lst vs) nf2.held (.lst (vs ++ [u]))
      have hi2 : i < env1.length := (List.getElem?_eq_some_iff.mp ey).1
      have rr : RepL F1 [d] [u] Od := by
        have := RepL.cons (O2 := []) rd RepL.nil
        rw [List.append_nil] at this; exact this
      have rown : Rep F1 (.lst true (ys ++ [d])) (.ref a) ((a, .lst (vs ++ [u])) :: (O' ++ Od)) := .own (rl.append rr)
      obtain ⟨E', p1, p2⟩ := z3.put (i := i) (by rw [List.getElem?_set_self hi2]) rown
      rw [List.set_set, set_self k1] at p1
      refine ok.nx _ hk F1 E' σ _ ?_ p1 (Mes.refl _ _)
      refine (nf2.trans nw).perm ?_
      refine List.Perm.trans ?_ p2.symm
      show ((a, HO.lst (vs ++ [u])) :: (O' ++ (Od ++ B1))).Perm ((a, HO.lst (vs ++ [u])) :: ((O' ++ Od) ++ B1))
      rw [List.append_assoc]

/-! ### x[k] op= e -/
def rGetL (K : Frag) : V → V → Hp → VK → Prop := fun o i H Q => ∃ p xs k v, o = .ref p ∧ i = .int k ∧ SqL K H p xs ∧ atI xs k = some v ∧ Q v H
theorem get_list : PGet X (rGetL X.K) := by
  intro pins s σ H o i ov iv Q I ro ri h
  obtain ⟨p, xs, k, z, rfl, rfl, hq, he, q⟩ := h
  cases ro
  obtain ⟨t, rfl⟩ := ri
  obtain ⟨its, r, pl, hz⟩ := I.list hq
  obtain ⟨j, h1, h2, h3, h4, h5⟩ := atI_get he
  obtain ⟨w, ew, rw'⟩ := r.get h2
  have hl := r.length
  have hn := line63
  have fin : EP X pins σ Q w s := ⟨z, H, I, rw', q⟩
  by_cases h0 : 0 ≤ k
  · have hj : k.toNat = j := by
      rw [PySem.seqIndex_of h0 h5] at h1
      exact Option.some.inj h1
    exact PySem.wpAny_getItem_list pl.isList h0 (by omega) (by rw [hj]; simpa using ew) fin
  · have hj : (k + (its.toArray.size : Int)).toNat = j := by
      rw [List.size_toArray, ← hl]
      rw [PySem.seqIndex_neg (by omega) (by omega)] at h1
      exact Option.some.inj h1
    exact PySem.wpAny_getItem_list_neg pl.isList (by omega) (by rw [List.size_toArray, ← hl]; exact h4) (by omega) (by rw [hj]; simpa using ew) fin
theorem ss_pag {i : Nat} {o : Op} {ix e : E} {x : Str} {ix' e' : Expr} {p q r : PySem.Pos} (C : Dok L c X W) (hx : seen c i x = true) (hi : PE X ix' (tE (sigOf L me) X.mg W ix)) (he : PE X e' (tE (sigOf L me) X.mg W e))
    (ha : ∀ ov iv new, PySem.augStore ix' ov iv new = (do PySem.holding [new, ov, iv] (PySem.setItem ov iv new); PySem.release [new, ov, iv] []; pure .next)) : PS X (.AugAssign (.Subscript (.Name x q) ix' r) (opOf o) e' p) (tS (sigOf L me) X.mg W (.pag i ix o e)) := by
  obtain ⟨h1, h2, h3, h4⟩ := C.ok.seen hx
  refine PS.weak (ps_augS (pe_var h1 h2 h3 h4) hi get_list he (anyP_ok (op := opOf o)) set_list ha) fun D σ H ⟨env, F, O, K, s, hh, w, ok⟩ => ?_
  simp only [wpS] at w
  obtain ⟨x0, e0, w⟩ := get_iff w
  obtain ⟨v0, _, _, k1, _, _, _⟩ := s.take e0
  refine ⟨v0, k1, env, F, O, _, K.ex, s, hh, w, fun k env1 w1 F1 Od Oe u H1 n r s1 => ?_, ok.ox⟩
  obtain ⟨x1, e1, xs, m, el, rfl, rfl, a1, fl, w1⟩ := get_iff w1
  obtain ⟨rfl, rfl⟩ := r.intI
  obtain ⟨v1, A, B, z1, z2, z3, z4⟩ := s1.take e1
  rw [k1] at z1; cases z1
  cases z2 with
  | @own a vs _ O' rl =>
    have n0 := n.drop
    have hv : H1 a = some (.lst vs) := (n0.held.perm z4).o (a, .lst vs) (by simp)
    obtain ⟨j0, v, A0, B0, C0, _, _, g3, g4, _⟩ := atI_rep rl a1
    have hB := g4.free (flat_fz fl)
    subst hB
    refine ⟨a, vs, m, v, rfl, rfl, SqL.of hv, g3, ?_⟩
    refine ⟨env1, F1, Oe, _, K.ex, s1, n0.held, w1, fun d env2 w2 F2 Od2 Oe2 y H2 n2 r2 s2 => ?_, ok.ox.step n0⟩
    refine aug_ok w2 (g4.mono n2.f) r2 fun z hz => ?_
    obtain ⟨y1, ey, ys, j, rfl, hj, hk⟩ := get_iff hz
    obtain ⟨v3, A3, B3, y1', y2, y3, y4⟩ := s2.take ey
    rw [k1] at y1'; cases y1'
    have nf := (n0.trans n2).drop
    cases y2 with
    | @own _ us _ O3 rl3 =>
      have nf2 := nf.perm y4
      have hv2 : H2 a = some (.lst us) := nf2.held.o (a, .lst us) (by simp)
      refine ⟨a, us, m, j, rfl, rfl, hv2, by rw [← rl3.len]; exact hj, ?_⟩
      have hjl : j < ys.length := (ixN_seq hj).2.1
      obtain ⟨el', A', B', C', q1, q2, q3, q4⟩ := rl3.nth (List.getElem?_eq_getElem hjl)
      have nw := Next.write (u := .lst us) nf2.held (.lst (us.set j (.int z)))
      have rl' := q4 (Sub.refl F2) (Rep.int (F := F2) z)
      have hi2 : i < env2.length := (List.getElem?_eq_some_iff.mp ey).1
      have rown : Rep F2 (.lst true (ys.set j (.int z))) (.ref a) ((a, .lst (us.set j (.int z))) :: (A' ++ [] ++ C')) := .own rl'
      obtain ⟨E', p1, p2⟩ := y3.put (i := i) (by rw [List.getElem?_set_self hi2]) rown
      rw [List.set_set, set_self k1] at p1
      refine ok.nx _ hk F2 E' σ _ ?_ p1 (Mes.refl _ _)
      refine ((nf2.trans nw).perm (O'' := B' ++ E') ?_).drop
      rw [q3]
      have a1 : ((A' ++ B' ++ C') ++ B3).Perm (B' ++ ((A' ++ [] ++ C') ++ B3)) := by
        rw [List.append_nil, List.append_assoc, List.append_assoc, List.append_assoc A' C' B3]
        exact perm3
      exact ((a1.cons _).trans List.perm_middle.symm).trans (List.Perm.append_left B' p2.symm)
end
end DP

/-! DpRa: statements: changes deep in what is one's own. -/
namespace DP
open PySem (Addr sizeLine wpAny model Value Shared Around FuncData BindsTo codeAny Str Paired Expr Stmt)
open PySem.W (Frag)
open L2
variable [CT]

section
variable {L : List Ent} {c : SC} {X : Cx} {W : WX} {me : List Nat} {mg : Str → Option Value} {F F1 : Hp} {O O1 : Own} {σ σ1 : St} {H H1 : Hp}
/-- v[k1]..[kn], the last index ahead -/
def WalkV (H : Hp) : List Nat → V → V → Prop
  | [], v, w => w = v
  | k :: ks, v, w => ∃ a vs, WalkV H ks v (.ref a) ∧ (Rd H a (.lst vs) ∨ H a = some (.tup vs)) ∧ vs[k]? = some w
theorem WalkV.snoc {H : Hp} {k : Nat} {a : Addr} {vs : List V} {m : V} (h1 : Rd H a (.lst vs) ∨ H a = some (.tup vs)) (h2 : vs[k]? = some m) : ∀ {ks : List Nat} {w : V}, WalkV H ks m w → WalkV H (ks ++ [k]) (.ref a) w
  | [], w, h => by
    have h : w = m := h
    subst h
    exact ⟨a, vs, rfl, h1, h2⟩
  | j :: ks, w, h => by
    obtain ⟨b, us, h3, h4, h5⟩ := h
    exact ⟨b, us, WalkV.snoc h1 h2 h3, h4, h5⟩
def tPath (i : Nat) (ks : List Nat) : TE := fun σ H Q => ∃ v w, σ[i]? = some (some v) ∧ WalkV H ks v w ∧ Q w H
theorem pe_path (C : Cok L c X W) {i : Nat} : ∀ {ks : List Nat} {ex : Expr}, chkP c i ks ex = true → PE X ex (tPath i ks) ∧ ∀ m, PySem.attributeBase ex m X.env (PySem.eval ex X.env) = PySem.eval ex X.env
  | [], ex, h => by
    cases ex with
    | Name x q =>
      obtain ⟨h1, h2, h3, h4⟩ := C.seen (by simpa [chkP] using h)
      refine ⟨PE.weak (pe_var h1 h2 h3 h4) fun σ H Q ⟨v, w, e1, e2, q⟩ => ?_, fun m => rfl⟩
      have e2 : w = v := e2
      subst e2
      exact ⟨w, e1, q⟩
    | _ => simp [chkP] at h
  | k :: ks, ex, h => by
    cases ex with
    | Subscript a ix p =>
      cases ix with
      | Constant kc j r =>
        cases kc with
        | int n =>
          simp only [chkP, Bool.and_eq_true, decide_eq_true_eq] at h
          obtain ⟨rfl, h⟩ := h
          have ih := (pe_path C h).1
          refine ⟨PE.weak (pe_ix anyI_ok ih pe_int (fun _ _ => rfl)) fun σ H Q ⟨v, w, e1, ⟨b, vs, e2, e3, e4⟩, q⟩ => ?_, fun m => rfl⟩
          have e5 : atI vs ((k : Nat) : Int) = some w := by
            have hk : k < vs.length := (List.getElem?_eq_some_iff.mp e4).1
            unfold atI ixN
            rw [if_pos (by omega), if_pos (by omega)]
            show vs[((k : Nat) : Int).toNat]? = _
            rw [Int.toNat_natCast]; exact e4
          refine ⟨v, .ref b, e1, e2, ?_⟩
          rcases e3 with e3 | e3
          · exact ⟨_, ix_list, b, vs, (k : Nat), w, rfl, rfl, .inl e3, e5, q⟩
          · exact ⟨_, ix_tup, b, vs, (k : Nat), w, rfl, rfl, SqT.of e3, e5, q⟩
        | _ => simp [chkP] at h
      | _ => simp [chkP] at h
    | _ => simp [chkP] at h
def conV : D → V
  | .bl b => .bl b
  | .int i => .int i
  | .str s => .str s
  | _ => .non
theorem conV_rep {d : D} (h : flatD d = true) : Rep F d (conV d) [] := by
  cases d with
  | non => exact .non
  | bl b => exact .bl b
  | int i => exact .int i
  | str s => exact .str s
  | tup _ => cases h
  | lst _ _ => cases h
  | exc _ _ _ => cases h
  | dct _ _ _ => cases h
  | ins _ _ _ _ => cases h
theorem pe_conV {d : D} {k : PySem.Const} {j : Nat} {p : PySem.Pos} (h : conD d k = true) : PE X (.Constant k j p) (tC (conV d)) := by
  rcases con_of h with ⟨rfl, rfl⟩ | ⟨b, rfl, rfl⟩ | ⟨i, rfl, rfl⟩ | ⟨z, rfl, rfl⟩
  · exact pe_non
  · exact pe_bl
  · exact pe_int
  · exact pe_str
def tPapp (i : Nat) (ks : List Nat) (d : D) : TS := fun D σ H => ∃ v a vs, σ[i]? = some (some v) ∧ WalkV H ks v (.ref a) ∧ H a = some (.lst vs) ∧ vs.length < sizeLine ∧ D.nx σ (upd H a (.lst (vs ++ [conV d])))
theorem ps_papp {i : Nat} {ks : List Nat} {d : D} {r : Expr} {k : PySem.Const} {j : Nat} {q ap cp p : PySem.Pos} (C : Cok L c X W) (hr : chkP c i ks r = true) (hd : conD d k = true) (hl : (ap.endLine == cp.line) = true) :
    PS X (.Expr (.Call (.Attribute r (Str.ofString "append") ap) [.Constant k j q] [] cp) p) (tPapp i ks d) := by
  obtain ⟨h1, h2⟩ := pe_path C hr
  have hs : PySem.starEach [Expr.Constant k j q] X.env = (false, PySem.eval (.Constant k j q) X.env) :: PySem.starEach [] X.env := rfl
  have pe := pe_bm (X := X) (apos := ap) (cpos := cp) PySem.F.plainAttrs_list PySem.F.slot_list_append PySem.F.type_list_append mt_append h1 (pa_cons (pe_conV hd) pa_nil hs) (h2 _) (by rw [hs]; rfl) hl hs rfl
  refine PS.weak (ps_expr pe rfl) fun D σ H ⟨v, a, vs, e1, e2, e3, e4, hk⟩ => ?_
  exact ⟨v, .ref a, e1, e2, .inl ⟨rfl, vs, SqL.of e3⟩, a, vs, conV d, rfl, rfl, e3, e4, hk⟩
def tPapt (i : Nat) (ks : List Nat) (d d2 : D) : TS := fun D σ H => ∃ v a vs, σ[i]? = some (some v) ∧ WalkV H ks v (.ref a) ∧ H a = some (.lst vs) ∧ vs.length < sizeLine ∧ ∀ b, H b = none → D.nx σ (upd (upd H b (.tup [conV d, conV d2])) a (.lst (vs ++ [.ref b])))
theorem ps_papt {i : Nat} {ks : List Nat} {d d2 : D} {r : Expr} {k k2 : PySem.Const} {j j2 kt : Nat} {q q2 pt ap cp p : PySem.Pos} (C : Cok L c X W) (hr : chkP c i ks r = true) (hd : conD d k = true) (hd2 : conD d2 k2 = true) (hl : (ap.endLine == cp.line) = true) :
    PS X (.Expr (.Call (.Attribute r (Str.ofString "append") ap) [.Tuple [.Constant k j q, .Constant k2 j2 q2] kt pt] [] cp) p) (tPapt i ks d d2) := by
  obtain ⟨h1, h2⟩ := pe_path C hr
  have t2 : PySem.starEach [Expr.Constant k2 j2 q2] X.env = (false, PySem.eval (.Constant k2 j2 q2) X.env) :: PySem.starEach [] X.env := rfl
  have t1 : PySem.starEach [Expr.Constant k j q, Expr.Constant k2 j2 q2] X.env = (false, PySem.eval (.Constant k j q) X.env) :: PySem.starEach [Expr.Constant k2 j2 q2] X.env := rfl
  have hs : PySem.starEach [Expr.Tuple [.Constant k j q, .Constant k2 j2 q2] kt pt] X.env = (false, PySem.eval (.Tuple [.Constant k j q, .Constant k2 j2 q2] kt pt) X.env) :: PySem.starEach [] X.env := rfl
  have pt0 : PE X (.Tuple [.Constant k j q, .Constant k2 j2 q2] kt pt) _ := pe_tup (pa_cons (pe_conV hd) (pa_cons (pe_conV hd2) pa_nil t2) t1)
  have pe := pe_bm (X := X) (apos := ap) (cpos := cp) PySem.F.plainAttrs_list PySem.F.slot_list_append PySem.F.type_list_append mt_append h1 (pa_cons pt0 pa_nil hs) (h2 _) (by rw [hs]; rfl) hl hs rfl
  refine PS.weak (ps_expr pe rfl) fun D σ H ⟨v, a, vs, e1, e2, e3, e4, hk⟩ => ?_
  refine ⟨v, .ref a, e1, e2, .inl ⟨rfl, vs, SqL.of e3⟩, ⟨Nat.le_of_ble_eq_true (rfl : Nat.ble 3 sizeLine = true), fun b hb => ?_⟩⟩
  have hne : a ≠ b := fun z => by rw [z, hb] at e3; cases e3
  exact ⟨a, vs, .ref b, rfl, rfl, (by rw [upd_ne hne]; exact e3), e4, hk b hb⟩
/-- the place that is changed, found -/
theorem appAt_runG {d : D} (sub : Sub F H) : ∀ {ks : List Nat} {x : D} {v : V} {O : Own} {Q : D → Prop}, appAt ks d x Q → Rep F x v O → Own.inH O H →
    ∃ p vs A C y, WalkV H ks.reverse v (.ref p) ∧ O = A ++ ((p, HO.lst vs) :: C) ∧ vs.length < sizeLine ∧ Q y ∧ ∀ F1 u, Sub F F1 → Rep F1 d u [] → Rep F1 y v (A ++ ((p, HO.lst (vs ++ [u])) :: C))
  | [], x, v, O, Q, h, r, o => by
    cases x with
    | lst b xs =>
      cases b with
      | false => simp [appAt] at h
      | true =>
        obtain ⟨h1, h2⟩ := h
        cases r with
        | @own a vs _ O' rl =>
          refine ⟨a, vs, [], O', _, rfl, rfl, by rw [← rl.len]; exact h1, h2, fun F1 u hs ru => ?_⟩
          have rr : RepL F1 [d] [u] [] := RepL.mk ru .nil
          have := (rl.mono hs).append rr
          rw [List.append_nil] at this
          exact .own this
    | _ => simp [appAt] at h
  | k :: ks, x, v, O, Q, h, r, o => by
    cases x with
    | lst b xs =>
      cases b with
      | false => simp [appAt] at h
      | true =>
        obtain ⟨x1, h1, h2⟩ := h
        cases r with
        | @own a vs _ O' rl =>
          obtain ⟨v1, A, B, C, q1, q2, q3, q4⟩ := rl.nth h1
          obtain ⟨p, us, A2, C2, y, z1, z2, z3, z4, z5⟩ := appAt_runG sub h2 q2 (fun p hp => o p (List.mem_cons_of_mem _ (by rw [q3]; simp [hp])))
          refine ⟨p, us, (a, HO.lst vs) :: (A ++ A2), C2 ++ C, _, ?_, ?_, z3, z4, fun F1 u hs ru => ?_⟩
          · rw [List.reverse_cons]
            exact WalkV.snoc (.inl (.inl (o _ List.mem_cons_self))) q1 z1
          · rw [q3, z2]; simp
          · have := q4 hs (z5 F1 u hs ru)
            rw [set_self q1] at this
            have := Rep.own (a := a) this
            simpa using this
    | tup xs =>
      obtain ⟨x1, h1, h2⟩ := h
      cases r with
      | @tup a vs _ _ e1 rl =>
        obtain ⟨v1, A, B, C, q1, q2, q3, q4⟩ := rl.nth h1
        obtain ⟨p, us, A2, C2, y, z1, z2, z3, z4, z5⟩ := appAt_runG sub h2 q2 (fun p hp => o p (by rw [q3]; simp [hp]))
        refine ⟨p, us, A ++ A2, C2 ++ C, _, ?_, ?_, z3, z4, fun F1 u hs ru => ?_⟩
        · rw [List.reverse_cons]
          exact WalkV.snoc (.inr (sub _ _ e1)) q1 z1
        · rw [q3, z2]; simp
        · have := q4 hs (z5 F1 u hs ru)
          rw [set_self q1] at this
          have := Rep.tup (hs _ _ e1) this
          simpa using this
    | _ => simp [appAt] at h
theorem appAt_run {d : D} (hf : flatD d = true) (sub : Sub F H) {ks : List Nat} {x : D} {v : V} {O : Own} {Q : D → Prop} (h : appAt ks d x Q) (r : Rep F x v O) (o : Own.inH O H) :
    ∃ p vs A C y, WalkV H ks.reverse v (.ref p) ∧ O = A ++ ((p, HO.lst vs) :: C) ∧ vs.length < sizeLine ∧ Q y ∧ Rep F y v (A ++ ((p, HO.lst (vs ++ [conV d])) :: C)) := by
  obtain ⟨p, vs, A, C, y, h1, h2, h3, h4, h5⟩ := appAt_runG sub h r o
  exact ⟨p, vs, A, C, y, h1, h2, h3, h4, h5 F _ (Sub.refl F) (conV_rep hf)⟩
theorem ss_pat {i : Nat} {ks : List Nat} {d d2 : D} {r : Expr} {k k2 : PySem.Const} {j j2 kt : Nat} {q q2 pt ap cp p : PySem.Pos} (C : Dok L c X W) (hr : chkP c i ks.reverse r = true) (hd : conD d k = true) (hd2 : conD d2 k2 = true) (hl : (ap.endLine == cp.line) = true) :
    PS X (.Expr (.Call (.Attribute r (Str.ofString "append") ap) [.Tuple [.Constant k j q, .Constant k2 j2 q2] kt pt] [] cp) p) (tS (sigOf L me) X.mg W (.pat i ks d d2)) := by
  refine PS.weak (ps_papt C.ok hr hd hd2 hl) fun D σ H ⟨env, F, O, K, s, hh, w, ok⟩ => ?_
  simp only [wpS] at w
  obtain ⟨x0, e0, ⟨hf, hf2⟩, w⟩ := get_iff w
  obtain ⟨v0, A, B, k1, k2, k3, k4⟩ := s.take e0
  have hp := hh.perm k4
  obtain ⟨a, vs, A2, C2, y, z1, z2, z3, z4, z5⟩ := appAt_runG hh.f w k2 hp.left.o
  subst z2
  have hv : H a = some (.lst vs) := hp.o (a, .lst vs) (by simp)
  refine ⟨v0, a, vs, k1, z1, hv, z3, fun b hb => ?_⟩
  have hi2 : i < env.length := (List.getElem?_eq_some_iff.mp e0).1
  have p0 : ∀ u : HO, (A2 ++ ((a, u) :: C2) ++ B).Perm ((a, u) :: (A2 ++ C2 ++ B)) := fun u => by
    rw [List.append_assoc, List.append_assoc]
    exact List.perm_middle
  have n1 := Next.newF (hp.perm (p0 _)) hb (.tup [conV d, conV d2])
  have nw := Next.write (u := .lst vs) n1.held (.lst (vs ++ [.ref b]))
  have rt : Rep (upd F b (.tup [conV d, conV d2])) (.tup [d, d2]) (.ref b) [] := .tup upd_same (RepL.mk (conV_rep hf) (RepL.mk (conV_rep hf2) .nil))
  obtain ⟨E', p1, p2⟩ := (k3.mono n1.f).put (i := i) (by rw [List.getElem?_set_self hi2]) (z5 _ _ n1.f rt)
  rw [List.set_set, set_self k1] at p1
  refine ok.nx _ z4 _ E' σ _ ?_ p1 (Mes.refl _ _)
  exact ((n1.trans nw).perm_from ((k4.trans (p0 _)).symm)).perm ((p0 _).symm.trans p2.symm)
theorem ss_pap {i : Nat} {ks : List Nat} {d : D} {r : Expr} {k : PySem.Const} {j : Nat} {q ap cp p : PySem.Pos} (C : Dok L c X W) (hr : chkP c i ks.reverse r = true) (hd : conD d k = true) (hl : (ap.endLine == cp.line) = true) :
    PS X (.Expr (.Call (.Attribute r (Str.ofString "append") ap) [.Constant k j q] [] cp) p) (tS (sigOf L me) X.mg W (.pap i ks d)) := by
  refine PS.weak (ps_papp C.ok hr hd hl) fun D σ H ⟨env, F, O, K, s, hh, w, ok⟩ => ?_
  simp only [wpS] at w
  obtain ⟨x0, e0, hf, w⟩ := get_iff w
  obtain ⟨v0, A, B, k1, k2, k3, k4⟩ := s.take e0
  have hp := hh.perm k4
  obtain ⟨a, vs, A2, C2, y, z1, z2, z3, z4, z5⟩ := appAt_run hf hh.f w k2 hp.left.o
  subst z2
  have hv : H a = some (.lst vs) := hp.o (a, .lst vs) (by simp)
  refine ⟨v0, a, vs, k1, z1, hv, z3, ?_⟩
  have hi2 : i < env.length := (List.getElem?_eq_some_iff.mp e0).1
  have p0 : ∀ u : HO, (A2 ++ ((a, u) :: C2) ++ B).Perm ((a, u) :: (A2 ++ C2 ++ B)) := fun u => by
    rw [List.append_assoc, List.append_assoc]
    exact List.perm_middle
  have nw := Next.write (u := .lst vs) (hp.perm (p0 _)) (.lst (vs ++ [conV d]))
  obtain ⟨E', p1, p2⟩ := k3.put (i := i) (by rw [List.getElem?_set_self hi2]) z5
  rw [List.set_set, set_self k1] at p1
  refine ok.nx _ z4 F E' σ _ ?_ p1 (Mes.refl _ _)
  exact (nw.perm_from ((k4.trans (p0 _)).symm)).perm ((p0 _).symm.trans p2.symm)

/-! ### x.insert(0, e), x.extend(e) -/
theorem ss_ins {i : Nat} {e : E} {x : Str} {e' : Expr} {kz : Nat} {p q r cp kp : PySem.Pos} (C : Dok L c X W) (hx : seen c i x = true) (hc : chkE c e e' = true) (hl : (r.endLine == cp.line) = true) (he : PE X e' (tE (sigOf L me) X.mg W e)) :
    PS X (.Expr (.Call (.Attribute (.Name x q) (Str.ofString "insert") r) [.Constant (.int 0) kz kp, e'] [] cp) p) (tS (sigOf L me) X.mg W (.ins i e)) := by
  obtain ⟨h1, h2, h3, h4⟩ := C.ok.seen hx
  have hs1 := star_cons (es := []) (env := X.env) (chk_star hc)
  have hs : PySem.starEach [Expr.Constant (.int 0) kz kp, e'] X.env = (false, PySem.eval (.Constant (.int 0) kz kp) X.env) :: PySem.starEach [e'] X.env := rfl
  have pe := pe_bm (X := X) (apos := r) (cpos := cp) PySem.F.plainAttrs_list PySem.F.slot_list_insert PySem.F.type_list_insert mt_insert (pe_var (pos := q) h1 h2 h3 h4) (pa_cons pe_int (pa_cons he pa_nil hs1) hs) rfl (by rw [hs, hs1]; rfl) hl hs (by rw [hs1]; rfl)
  refine PS.weak (ps_expr pe rfl) fun D σ H ⟨env, F, O, K, s, hh, w, ok⟩ => ?_
  simp only [wpS] at w
  obtain ⟨x0, e0, ⟨xs, rfl⟩, w⟩ := get_iff w
  obtain ⟨v0, A, B, k1, k2, k3, k4⟩ := s.take e0
  have hp0 := hh.perm k4
  refine ⟨v0, k1, ?_, env, F, O, _, K.ex, s, hh, w, fun d env1 w1 F1 Od Oe u H1 n rd s1 => ?_, ok.ox⟩
  · cases k2 with
    | @own a vs _ O' rl =>
      have hv : H a = some (.lst vs) := hp0.o (a, .lst vs) (by simp)
      exact .inl ⟨rfl, vs, SqL.of hv⟩
  · obtain ⟨y, ey, ys, rfl, hz, hk⟩ := get_iff w1
    obtain ⟨v1, A1, B1, z1, z2, z3, z4⟩ := s1.take ey
    rw [k1] at z1; cases z1
    cases z2 with
    | @own a vs _ O' rl =>
      have hp : (Od ++ Oe).Perm (((a, HO.lst vs) :: O') ++ (Od ++ B1)) := (List.Perm.append_left Od z4).trans perm3
      have nf2 := n.perm hp
      have hv : H1 a = some (.lst vs) := nf2.held.o (a, .lst vs) (by simp)
      refine ⟨a, vs, 0, u, rfl, rfl, hv, by rw [← rl.len]; exact hz, by decide, by decide, ?_⟩
      show D.nx σ (upd H1 a (.lst (u :: vs)))
      have nw := Next.write (u := .lst vs) nf2.held (.lst (u :: vs))
      have hi2 : i < env1.length := (List.getElem?_eq_some_iff.mp ey).1
      have rown : Rep F1 (.lst true (d :: ys)) (.ref a) ((a, .lst (u :: vs)) :: (Od ++ O')) := .own (.cons rd rl)
      obtain ⟨E', p1, p2⟩ := z3.put (i := i) (by rw [List.getElem?_set_self hi2]) rown
      rw [List.set_set, set_self k1] at p1
      refine ok.nx _ hk F1 E' σ _ ?_ p1 (Mes.refl _ _)
      refine (nf2.trans nw).perm ?_
      refine List.Perm.trans ?_ p2.symm
      show ((a, HO.lst (u :: vs)) :: (O' ++ (Od ++ B1))).Perm ((a, HO.lst (u :: vs)) :: ((Od ++ O') ++ B1))
      refine List.Perm.cons _ ?_
      rw [← List.append_assoc]
      exact List.perm_append_comm.append_right _
theorem ss_ext {i : Nat} {e : E} {x : Str} {e' : Expr} {p q r cp : PySem.Pos} (C : Dok L c X W) (hx : seen c i x = true) (hc : chkE c e e' = true) (hl : (r.endLine == cp.line) = true) (he : PE X e' (tE (sigOf L me) X.mg W e)) :
    PS X (.Expr (.Call (.Attribute (.Name x q) (Str.ofString "extend") r) [e'] [] cp) p) (tS (sigOf L me) X.mg W (.ext i e)) := by
  obtain ⟨h1, h2, h3, h4⟩ := C.ok.seen hx
  have hs := star_cons (es := []) (env := X.env) (chk_star hc)
  have pe := pe_bm (X := X) (apos := r) (cpos := cp) PySem.F.plainAttrs_list PySem.F.slot_list_extend PySem.F.type_list_extend mt_extend (pe_var (pos := q) h1 h2 h3 h4) (pa_cons he pa_nil hs) rfl (by rw [hs]; rfl) hl hs rfl
  refine PS.weak (ps_expr pe rfl) fun D σ H ⟨env, F, O, K, s, hh, w, ok⟩ => ?_
  simp only [wpS] at w
  obtain ⟨x0, e0, ⟨xs, rfl⟩, w⟩ := get_iff w
  obtain ⟨v0, A, B, k1, k2, k3, k4⟩ := s.take e0
  have hp0 := hh.perm k4
  refine ⟨v0, k1, ?_, env, F, O, _, K.ex, s, hh, w, fun d env1 w1 F1 Od Oe u H1 n rd s1 => ?_, ok.ox⟩
  · cases k2 with
    | @own a vs _ O' rl =>
      have hv : H a = some (.lst vs) := hp0.o (a, .lst vs) (by simp)
      exact .inl ⟨rfl, vs, SqL.of hv⟩
  · obtain ⟨zs, rfl, w1⟩ := w1
    obtain ⟨y, ey, ys, rfl, hz, hk⟩ := get_iff w1
    obtain ⟨v1, A1, B1, z1, z2, z3, z4⟩ := s1.take ey
    rw [k1] at z1; cases z1
    cases rd with
    | @own b us _ Od' rl2 =>
    cases z2 with
    | @own a vs _ O' rl =>
      have hp : (((b, HO.lst us) :: Od') ++ Oe).Perm (((a, HO.lst vs) :: O') ++ (((b, HO.lst us) :: Od') ++ B1)) := (List.Perm.append_left _ z4).trans perm3
      have nf2 := n.perm hp
      have hv : H1 a = some (.lst vs) := nf2.held.o (a, .lst vs) (by simp)
      have hv2 : H1 b = some (.lst us) := nf2.held.o (b, .lst us) (by simp)
      refine ⟨a, b, vs, us, rfl, rfl, hv, hv2, by rw [← rl.len, ← rl2.len]; exact hz, ?_⟩
      have nw := Next.write (u := .lst vs) nf2.held (.lst (vs ++ us))
      have hi2 : i < env1.length := (List.getElem?_eq_some_iff.mp ey).1
      have rown : Rep F1 (.lst true (ys ++ zs)) (.ref a) ((a, .lst (vs ++ us)) :: (O' ++ Od')) := .own (rl.append rl2)
      obtain ⟨E', p1, p2⟩ := z3.put (i := i) (by rw [List.getElem?_set_self hi2]) rown
      rw [List.set_set, set_self k1] at p1
      refine ok.nx _ hk F1 E' σ _ ?_ p1 (Mes.refl _ _)
      refine ((nf2.trans nw).perm (O'' := [(b, HO.lst us)] ++ E') ?_).drop
      refine List.Perm.trans ?_ (List.Perm.append_left _ p2.symm)
      show ((a, HO.lst (vs ++ us)) :: (O' ++ ((b, HO.lst us) :: (Od' ++ B1)))).Perm ((b, HO.lst us) :: ((a, HO.lst (vs ++ us)) :: ((O' ++ Od') ++ B1)))
      refine List.Perm.trans (List.Perm.cons _ List.perm_middle) ?_
      refine (List.Perm.swap _ _ _).trans (List.Perm.cons _ (List.Perm.cons _ ?_))
      rw [List.append_assoc]

/-! ### for y in x[..]: y[..].append(d) -/
theorem SimE.loose {env : Env} (s : SimE F env σ O) {j : Nat} (h : env[j]? = some none) (o : Option V) : SimE F env (σ.set j o) O := by
  induction s generalizing j with
  | nil => simp at h
  | no t hs ih =>
    cases j with
    | zero => exact .no _ hs
    | succ j => exact .no _ (ih (by simpa using h))
  | yes r hs ih =>
    cases j with
    | zero => simp at h
    | succ j => exact .yes r (ih (by simpa using h))
theorem appAt_mono {d : D} : ∀ {ks : List Nat} {x : D} {P Q : D → Prop}, appAt ks d x P → (∀ y, P y → Q y) → appAt ks d x Q
  | [], x, P, Q, h, k => by
    cases x with
    | lst b xs =>
      cases b with
      | false => simp [appAt] at h
      | true => exact ⟨h.1, k _ h.2⟩
    | _ => simp [appAt] at h
  | i :: ks, x, P, Q, h, k => by
    cases x with
    | lst b xs =>
      cases b with
      | false => simp [appAt] at h
      | true => obtain ⟨x1, h1, h2⟩ := h; exact ⟨x1, h1, appAt_mono h2 fun y q => k _ q⟩
    | tup xs => obtain ⟨x1, h1, h2⟩ := h; exact ⟨x1, h1, appAt_mono h2 fun y q => k _ q⟩
    | _ => simp [appAt] at h
theorem appAll_mono {d : D} {ks : List Nat} : ∀ {xs : List D} {P Q : List D → Prop}, appAll ks d xs P → (∀ y, P y → Q y) → appAll ks d xs Q
  | [], P, Q, h, k => k _ h
  | x :: xs, P, Q, h, k => appAt_mono h fun y q => appAll_mono q fun zs z => k _ z
theorem eachAt_run {d : D} {k2 : List Nat} (sub : Sub F H) : ∀ {ks : List Nat} {x : D} {v : V} {O : Own} {Q : D → Prop}, eachAt ks k2 d x Q → Rep F x v O → Own.inH O H →
    ∃ p vs A B C ys, WalkV H ks.reverse v (.ref p) ∧ O = A ++ ((p, HO.lst vs) :: B) ++ C ∧ RepL F ys vs B ∧ appAll k2 d ys fun zs => ∃ y, Q y ∧ ∀ B', RepL F zs vs B' → Rep F y v (A ++ ((p, HO.lst vs) :: B') ++ C)
  | [], x, v, O, Q, h, r, o => by
    cases x with
    | lst b xs =>
      cases b with
      | false => simp [eachAt] at h
      | true =>
        cases r with
        | @own a vs _ O' rl => exact ⟨a, vs, [], O', [], xs, rfl, by simp, rl, appAll_mono h fun zs q => ⟨_, q, fun B' r => by simpa using Rep.own r⟩⟩
    | _ => simp [eachAt] at h
  | k :: ks, x, v, O, Q, h, r, o => by
    cases x with
    | lst b xs =>
      cases b with
      | false => simp [eachAt] at h
      | true =>
        obtain ⟨x1, h1, h2⟩ := h
        cases r with
        | @own a vs _ O' rl =>
          obtain ⟨v1, A, B, C, q1, q2, q3, q4⟩ := rl.nth h1
          obtain ⟨p, us, A2, B2, C2, ys, z1, z2, z3, z4⟩ := eachAt_run sub h2 q2 (fun p hp => o p (List.mem_cons_of_mem _ (by rw [q3]; simp [hp])))
          refine ⟨p, us, (a, HO.lst vs) :: (A ++ A2), B2, C2 ++ C, ys, ?_, ?_, z3, appAll_mono z4 fun zs ⟨y, q, g⟩ => ⟨_, q, fun B' r => ?_⟩⟩
          · rw [List.reverse_cons]
            exact WalkV.snoc (.inl (.inl (o _ List.mem_cons_self))) q1 z1
          · rw [q3, z2]; simp
          · have := q4 (Sub.refl F) (g B' r)
            rw [set_self q1] at this
            have := Rep.own (a := a) this
            simpa using this
    | tup xs =>
      obtain ⟨x1, h1, h2⟩ := h
      cases r with
      | @tup a vs _ _ e1 rl =>
        obtain ⟨v1, A, B, C, q1, q2, q3, q4⟩ := rl.nth h1
        obtain ⟨p, us, A2, B2, C2, ys, z1, z2, z3, z4⟩ := eachAt_run sub h2 q2 (fun p hp => o p (by rw [q3]; simp [hp]))
        refine ⟨p, us, A ++ A2, B2, C2 ++ C, ys, ?_, ?_, z3, appAll_mono z4 fun zs ⟨y, q, g⟩ => ⟨_, q, fun B' r => ?_⟩⟩
        · rw [List.reverse_cons]
          exact WalkV.snoc (.inr (sub _ _ e1)) q1 z1
        · rw [q3, z2]; simp
        · have := q4 (Sub.refl F) (g B' r)
          rw [set_self q1] at this
          have := Rep.tup e1 this
          simpa using this
    | _ => simp [eachAt] at h
theorem chkP_noSet {i : Nat} {ks : List Nat} {r : Expr} (h : chkP c i ks r = true) : noSet r = true := by
  cases r with
  | Set _ _ _ => cases ks <;> simp [chkP] at h
  | _ => rfl
theorem ss_fpa {j i : Nat} {ks k2 : List Nat} {d : D} {y : Str} {r r2 : Expr} {k : PySem.Const} {kj : Nat} {q0 q ap cp p p2 : PySem.Pos} (C : Dok L c X W) (hot : c.hot = false) (hy : mine c j y = true) (hr : chkP c i ks.reverse r = true) (hr2 : chkP c j k2.reverse r2 = true) (hd : conD d k = true) (hl : (ap.endLine == cp.line) = true) :
    PS X (.For (.Name y q0) r [.Expr (.Call (.Attribute r2 (Str.ofString "append") ap) [.Constant k kj q] [] cp) p] [] p2) (tS (sigOf L me) X.mg W (.fpa j i ks k2 d)) := by
  obtain ⟨m1, m2, m3⟩ := C.ok.mine hy
  refine PS.weak (ps_for C.po (C.ok.calm hot) (pi_any (pe_path C.ok hr).1) (pg_name C.ok.nd m1 m2 m3) (pss_one (ps_papp C.ok hr2 hd hl)) (noSet_ok (chkP_noSet hr))) fun Dn σ H ⟨env, F, O, K, s, hh, w, ok⟩ => ?_
  simp only [wpS] at w
  obtain ⟨x0, e0, hf, hji, hjm, hjl, w⟩ := get_iff w
  obtain ⟨v0, A0, B00, k1, k2', k3, k4⟩ := s.take e0
  have hp := hh.perm k4
  obtain ⟨a, vs, A, B, C2, ys, z1, z2, z3, z4⟩ := eachAt_run hh.f w k2' hp.left.o
  subst z2
  have hv : H a = some (.lst vs) := hp.o (a, .lst vs) (by simp)
  obtain ⟨Z, B0, h1, h2⟩ := k3.wipe j
  refine ⟨v0, .ref a, k1, z1, .inl ⟨a, vs, rfl, SqL.of hv, ?_⟩⟩
  have hi2 : i < env.length := (List.getElem?_eq_some_iff.mp e0).1
  let P0 : List D → Prop := fun zs => ∃ y, K.nx ((env.set i (some y)).set j none) ∧ ∀ B', RepL F zs vs B' → Rep F y v0 (A ++ ((a, HO.lst vs) :: B') ++ C2)
  let Pv : Nat → St → Hp → Prop := fun n σ2 H2 => ∃ zs ws B1 B2, SimE F ((env.set i none).set j none) σ2 B0 ∧ σ2[i]? = some (some v0) ∧ Mes me σ σ2 ∧ RepL F zs (vs.take n) B1 ∧ RepL F ws (vs.drop n) B2 ∧ (appAll k2 d ws fun w => P0 (zs ++ w)) ∧
    Next F O H F (((a, HO.lst vs) :: (B1 ++ B2)) ++ (A ++ C2 ++ B0)) H2
  have base : Next F O H F (((a, HO.lst vs) :: ([] ++ B)) ++ (A ++ C2 ++ B0)) H := by
    refine (((Next.refl hh).perm k4).perm (O'' := Z ++ (((a, HO.lst vs) :: ([] ++ B)) ++ (A ++ C2 ++ B0))) ?_).drop
    refine (List.Perm.append_left _ h2).trans ?_
    refine perm3.trans (List.Perm.append_left Z ?_)
    rw [List.append_assoc, List.append_assoc, List.append_assoc]
    refine List.Perm.trans ?_ perm3
    simp
  refine L2.for_it (L2.walk_list (xs := vs)) Pv ⟨[], ys, [], B, h1, k1, Mes.refl _ _, by simpa using RepL.nil, by simpa using z3, appAll_mono z4 fun zs h => h, base⟩ (fun n σ2 H2 _ ⟨zs, ws, B1, B2, _, _, _, _, _, _, nx⟩ => SqL.of (nx.held.o (a, .lst vs) (by simp))) ?_ ?_
  · rintro n x σ2 H2 H3 hn ⟨zs, ws, B1, B2, g1, g2, g3, g4, g5, g6, nx⟩ ⟨rfl, hx⟩
    have hx' : vs[n] = x := by rw [List.getElem?_eq_getElem hn] at hx; exact Option.some.inj hx
    rw [List.drop_eq_getElem_cons hn, hx'] at g5
    cases g5 with
    | @cons y0 _ ws' _ Ba Bb ra rb =>
      obtain ⟨p2, us, A3, C3, y2, q1, q2, q3, q4, q5⟩ := appAt_run hf nx.held.f g6 ra (fun p hp => nx.held.o p (by simp [hp]))
      subst q2
      have hv2 : H3 p2 = some (.lst us) := nx.held.o (p2, .lst us) (by simp)
      have hjs : j < σ2.length := by rw [← g1.len]; simpa using hjl
      show tPapp j k2.reverse d _ (σ2.set j (some x)) H3
      refine ⟨x, p2, us, List.getElem?_set_self hjs, q1, hv2, q3, zs ++ [y2], ws', B1 ++ (A3 ++ (p2, HO.lst (us ++ [conV d])) :: C3), Bb, g1.loose (by rw [List.getElem?_set_self (by simpa using hjl)]) _, ?_, g3.trans (Mes.set hjm), ?_, rb, ?_, ?_⟩
      · rw [List.getElem?_set_ne hji]; exact g2
      · rw [List.take_succ, List.getElem?_eq_getElem hn, hx']
        refine RepL.append g4 ?_
        have := RepL.cons (O2 := []) q5 RepL.nil
        rw [List.append_nil] at this
        exact this
      · refine appAll_mono q4 fun w z => ?_
        simpa using z
      · have pp : ∀ u : HO, (((a, HO.lst vs) :: (B1 ++ ((A3 ++ (p2, u) :: C3) ++ Bb))) ++ (A ++ C2 ++ B0)).Perm ((p2, u) :: (((a, HO.lst vs) :: (B1 ++ ((A3 ++ C3) ++ Bb))) ++ (A ++ C2 ++ B0))) := fun u => by
          have e1 : ((a, HO.lst vs) :: (B1 ++ ((A3 ++ (p2, u) :: C3) ++ Bb))) ++ (A ++ C2 ++ B0) = ((a, HO.lst vs) :: (B1 ++ A3)) ++ (p2, u) :: (C3 ++ Bb ++ (A ++ C2 ++ B0)) := by simp
          have e2 : ((a, HO.lst vs) :: (B1 ++ ((A3 ++ C3) ++ Bb))) ++ (A ++ C2 ++ B0) = ((a, HO.lst vs) :: (B1 ++ A3)) ++ (C3 ++ Bb ++ (A ++ C2 ++ B0)) := by simp
          rw [e1, e2]
          exact List.perm_middle
        have nw := Next.write (u := .lst us) (nx.held.perm (pp _)) (.lst (us ++ [conV d]))
        refine (nx.trans (nw.perm_from (pp _).symm)).perm ?_
        refine (pp _).symm.trans ?_
        simp
  · rintro σ2 H2 ⟨zs, ws, B1, B2, g1, g2, g3, g4, g5, g6, nx⟩
    rw [List.drop_length] at g5
    rw [List.take_length] at g4
    cases g5
    obtain ⟨y, q1, q2⟩ := g6
    rw [List.append_nil] at q2
    have rp := q2 B1 g4
    obtain ⟨E', p1, p3⟩ := g1.put (i := i) (by rw [List.getElem?_set_ne hji, List.getElem?_set_self hi2]) rp
    rw [set_self g2] at p1
    have ee : ((env.set i none).set j none).set i (some y) = (env.set i (some y)).set j none := by
      rw [List.set_comm _ _ hji, List.set_set]
    rw [ee] at p1
    refine ok.nx _ q1 F E' σ2 _ ?_ p1 g3
    refine nx.perm (List.Perm.trans ?_ p3.symm)
    rw [List.append_nil, List.append_assoc, List.append_assoc, List.append_assoc]
    refine List.Perm.trans ?_ perm3
    simp

/-! ### x[k], y = e, f -/
theorem ss_psa {i j : Nat} {ix e e2 : E} {x y : Str} {ix' e' e2' : Expr} {p q r r2 pt pv : PySem.Pos} {kt kv : Nat} (C : Dok L c X W) (hot : c.hot = false) (hx : seen c i x = true) (hy : mine c j y = true) (hi : PE X ix' (tE (sigOf L me) X.mg W ix)) (he : PE X e' (tE (sigOf L me) X.mg W e)) (hc : chkE c e e' = true)
    (he2 : PE X e2' (tE (sigOf L me) X.mg W e2)) (hc2 : chkE c e2 e2' = true)
    (hw : PySem.swappedStores [.Tuple [.Subscript (.Name x q) ix' r, .Name y r2] kt pt] (.Tuple [e', e2'] kv pv) X.env = pure none)
    (ha : ∀ v, PySem.assign (.Subscript (.Name x q) ix' r) X.env v = (do
      let ov ← PySem.holding [v] (PySem.eval (.Name x q) X.env)
      let iv ← PySem.holding [v, ov] (PySem.eval ix' X.env)
      PySem.standAt r
      PySem.holding [v, ov, iv] (PySem.setItem ov iv v)
      PySem.release [v, ov, iv] [])) :
    PS X (.Assign [.Tuple [.Subscript (.Name x q) ix' r, .Name y r2] kt pt] (.Tuple [e', e2'] kv pv) p) (tS (sigOf L me) X.mg W (.psa i ix e j e2)) := by
  obtain ⟨h1, h2, h3, h4⟩ := C.ok.seen hx
  obtain ⟨m1, m2, m3⟩ := C.ok.mine hy
  have hs2 := star_cons (es := []) (env := X.env) (chk_star hc2)
  have hs1 := star_cons (es := [e2']) (env := X.env) (chk_star hc)
  refine PS.weak (ps_asg (pe_tup (pa_cons he (pa_cons he2 pa_nil hs2) hs1)) (pg_tup (C.ok.calm hot) (pgs_cons (pg_sub (pe_var h1 h2 h3 h4) hi set_list ha) (pgs_cons (pg_name C.ok.nd m1 m2 m3) pgs_nil rfl) rfl) rfl rfl) rfl hw rfl) fun D σ H ⟨env, F, O, K, s, hh, w, ok⟩ => ?_
  simp only [wpS] at w
  refine ⟨env, F, O, _, K.ex, s, hh, w, fun d env1 w1 F1 Od Oe v H1 n rd s1 => ?_, ok.ox⟩
  refine ⟨env1, F1, Oe, _, K.ex, s1, n.held.right, w1, fun d2 env2 w2 F2 Od2 Oe2 v2 H2 n2 rd2 s2 => ?_, ok.ox.step n.drop⟩
  obtain ⟨f1, f2, w2⟩ := w2
  have o1 := rd.free f1
  have o2 := rd2.free f2
  subst o1 o2
  have nn := n.trans n2
  obtain ⟨y0, ey0, w2⟩ := get_iff w2
  obtain ⟨v0, _, _, k1, _, _, _⟩ := s2.take ey0
  refine ⟨Nat.le_of_ble_eq_true rfl, fun b hb => ?_⟩
  have n3 := Next.newF (O := Oe2) nn.held hb (.tup [v, v2])
  refine ⟨b, [v, v2], rfl, SqT.of upd_same, rfl, v, [v2], rfl, v0, k1, ?_⟩
  have s3 := s2.mono n3.f
  refine ⟨env2, _, Oe2, _, K.ex, s3, n3.held, w2, fun k env3 w3 F4 Od3 Oe3 u H4 n4 r4 s4 => ?_, (ok.ox.step nn).step n3⟩
  obtain ⟨y1, ey, xs, m, jx, rfl, rfl, hj, hjm, hjl, hk⟩ := get_iff w3
  obtain ⟨rfl, rfl⟩ := r4.intI
  obtain ⟨v1, A, B, z1, z2, z3, z4⟩ := s4.take ey
  rw [k1] at z1; cases z1
  have nf := (nn.trans n3).trans n4
  cases z2 with
  | @own a vs _ O' rl =>
    have nf2 := nf.perm (show ([] ++ Oe3).Perm _ from z4)
    have hv : H4 a = some (.lst vs) := nf2.held.o (a, .lst vs) (by simp)
    refine ⟨a, vs, m, jx, rfl, rfl, hv, by rw [← rl.len]; exact hj, ?_⟩
    have hjl2 : jx < xs.length := (ixN_seq hj).2.1
    obtain ⟨el, A', B', C', q1, q2, q3, q4⟩ := rl.nth (List.getElem?_eq_getElem hjl2)
    have nw := Next.write (u := .lst vs) nf2.held (.lst (vs.set jx v))
    have r4' : Rep F4 d v [] := ((rd.mono n2.f).mono n3.f).mono n4.f
    have rl' := q4 (Sub.refl F4) r4'
    have hi2 : i < env3.length := (List.getElem?_eq_some_iff.mp ey).1
    have rown : Rep F4 (.lst true (xs.set jx d)) (.ref a) ((a, .lst (vs.set jx v)) :: (A' ++ [] ++ C')) := .own rl'
    obtain ⟨E', p1, p2⟩ := z3.put (i := i) (by rw [List.getElem?_set_self hi2]) rown
    rw [List.set_set, set_self k1] at p1
    have r5 : Rep F4 d2 v2 [] := (rd2.mono n3.f).mono n4.f
    obtain ⟨Z6, B6, C6, t1, t2, t3⟩ := p1.store (i := j) (by simpa using hjl) r5
    refine ⟨v2, [], rfl, rfl, ?_⟩
    refine ok.nx _ hk F4 C6 _ _ ?_ t1 (Mes.set hjm)
    have nq := nf2.trans nw
    have nq2 : Next F O H F4 E' (upd H4 a (.lst (vs.set jx v))) := by
      refine (nq.perm (O'' := B' ++ E') ?_).drop
      refine List.Perm.trans ?_ (List.Perm.append_left B' p2.symm)
      rw [q3]
      show ((a, HO.lst (vs.set jx v)) :: ((A' ++ B' ++ C') ++ B)).Perm (B' ++ ((a, HO.lst (vs.set jx v)) :: ((A' ++ [] ++ C') ++ B)))
      refine List.Perm.trans (List.Perm.cons _ ?_) List.perm_middle.symm
      rw [List.append_nil, List.append_assoc, List.append_assoc, List.append_assoc]
      exact perm3
    exact nq2.trans (Next.keep (Z := Z6) nq2.held (t2.trans (List.Perm.append_left Z6 (by simpa using t3.symm))))
end
end DP

/-! DpS: statements: several names at once; the one theorem. -/
namespace DP
open PySem (Addr sizeLine wpAny model Value Shared Around FuncData BindsTo codeAny Str Paired Expr Stmt)
open PySem.W (Frag)
open L2
variable [CT]

section
variable {L : List Ent} {c : SC} {X : Cx} {W : WX} {me : List Nat} {mg : Str → Option Value} {F F1 : Hp} {O O1 : Own} {σ σ1 : St} {H H1 : Hp}
def putV : List Nat → List V → St → St
  | i :: is, v :: vs, σ => putV is vs (σ.set i (some v))
  | _, _, σ => σ
theorem putV_set : ∀ {is : List Nat} {vs : List V} {σ : St} {i : Nat} {a : Option V}, i ∉ is → putV is vs (σ.set i a) = (putV is vs σ).set i a
  | [], vs, σ, i, a, _ => by cases vs <;> rfl
  | j :: is, [], σ, i, a, _ => rfl
  | j :: is, v :: vs, σ, i, a, h => by
    have h1 : j ≠ i := fun z => h (by simp [z])
    have h2 : i ∉ is := fun z => h (by simp [z])
    show putV is vs ((σ.set i a).set j (some v)) = (putV is vs (σ.set j (some v))).set i a
    rw [List.set_comm _ _ (Ne.symm h1), putV_set h2]
theorem putV_snoc : ∀ {is : List Nat} {vs : List V} {σ : St} {i : Nat} {v : V}, is.length = vs.length → putV (is ++ [i]) (vs ++ [v]) σ = (putV is vs σ).set i (some v)
  | [], [], σ, i, v, _ => rfl
  | j :: is, u :: vs, σ, i, v, h => by
    show putV (is ++ [i]) (vs ++ [v]) (σ.set j (some u)) = (putV is vs (σ.set j (some u))).set i (some v)
    exact putV_snoc (by simpa using h)
  | [], _ :: _, _, _, _, h => by simp at h
  | _ :: _, [], _, _, _, h => by simp at h
theorem putV_rev : ∀ {is : List Nat} {vs : List V} {σ : St}, is.Nodup → is.length = vs.length → putV is.reverse vs.reverse σ = putV is vs σ
  | [], [], σ, _, _ => rfl
  | i :: is, v :: vs, σ, hn, h => by
    have hn' := List.nodup_cons.mp hn
    have h' : is.length = vs.length := by simpa using h
    rw [List.reverse_cons, List.reverse_cons, putV_snoc (by simpa using h'), putV_rev hn'.2 h']
    show _ = putV is vs (σ.set i (some v))
    rw [putV_set hn'.1]
  | [], _ :: _, _, _, h => by simp at h
  | _ :: _, [], _, _, h => by simp at h
theorem putV_sim : ∀ {is : List Nat} {ds : List D} {vs : List V} {env : Env} {σ : St} {O Od : Own}, SimE F env σ O → RepL F ds vs Od → (∀ i ∈ is, i < env.length) → is.length = ds.length → ∃ Z C, SimE F (putAll is ds env) (putV is vs σ) C ∧ (Od ++ O).Perm (Z ++ C)
  | [], [], _, env, σ, O, _, s, .nil, _, _ => ⟨[], O, s, by simp⟩
  | i :: is, d :: ds, v :: vs, env, σ, O, _, s, .cons (O1 := A) (O2 := B) r rs, hi, hl => by
    obtain ⟨Z, B1, C1, h1, h2, h3⟩ := s.store (hi i List.mem_cons_self) r
    obtain ⟨Z2, C2, h4, h5⟩ := putV_sim (is := is) h1 rs (fun j hj => by rw [List.length_set]; exact hi j (List.mem_cons_of_mem _ hj)) (by simpa using hl)
    refine ⟨Z ++ Z2, C2, h4, ?_⟩
    -- A ++ B ++ O ~ Z ++ (B ++ (A ++ B1)) ~ Z ++ (B ++ C1) ~ Z ++ Z2 ++ C2
    have e1 : (A ++ B ++ O).Perm (Z ++ (B ++ (A ++ B1))) := by
      refine (List.Perm.append_left (A ++ B) h2).trans ?_
      refine perm3.trans (List.Perm.append_left Z ?_)
      rw [List.append_assoc]
      exact perm3
    refine e1.trans ?_
    rw [List.append_assoc]
    exact List.Perm.append_left Z ((List.Perm.append_left B h3.symm).trans h5)
  | [], _ :: _, _, _, _, _, _, _, _, _, h => by simp at h
  | _ :: _, [], _, _, _, _, _, _, _, _, h => by simp at h
theorem putV_mes : ∀ {is : List Nat} {vs : List V} {σ : St}, (∀ i ∈ is, i ∉ me) → Mes me σ (putV is vs σ)
  | [], vs, σ, _ => by cases vs <;> exact Mes.refl _ _
  | i :: is, [], σ, _ => Mes.refl _ _
  | i :: is, v :: vs, σ, h => (Mes.set (h i List.mem_cons_self)).trans (putV_mes fun j hj => h j (List.mem_cons_of_mem _ hj))
theorem par_read {is : List Nat} {es : Es} {D : Ends} (hlen : is.length = es.len) (h : tS (sigOf L me) mg W (.par is es) D σ H) : tEs (sigOf L me) mg W es σ H fun vs H1 => vs.length = is.length ∧ D.nx (putV is vs σ) H1 := by
  obtain ⟨env, F, O, K, s, hh, w, ok⟩ := h
  simp only [wpS] at w
  refine ⟨env, F, O, _, K.ex, s, hh, w, fun ds env1 w1 hl F1 Od Oe vs H1 n r s1 => ?_, ok.ox⟩
  obtain ⟨h1, h2, h3⟩ := w1
  have h2' : ∀ i ∈ is, i ∉ me ∧ i < env1.length := fun i hi => by
    have := List.all_eq_true.mp h2 i hi
    exact of_decide_eq_true (p := i ∉ me ∧ i < env1.length) this
  obtain ⟨Z, C', k1, k2⟩ := putV_sim s1 r (fun i hi => (h2' i hi).2) h1.symm
  refine ⟨by rw [← r.len]; exact h1, ok.nx _ h3 F1 C' _ H1 (n.trans (Next.keep (Z := Z) n.held k2)) k1 (putV_mes fun i hi => (h2' i hi).1)⟩
theorem nms_cons {i : Nat} {is : List Nat} {ts : List Expr} (h : nms c (i :: is) ts = true) : ∃ x p ts', ts = .Name x p :: ts' ∧ mine c i x = true ∧ nms c is ts' = true := by
  cases ts with
  | nil => simp [nms] at h
  | cons t ts =>
    cases t <;> first
      | (simp [nms] at h; done)
      | (simp only [nms, Bool.and_eq_true] at h; exact ⟨_, _, _, rfl, h.1, h.2⟩)
theorem nms_nil {ts : List Expr} (h : nms c [] ts = true) : ts = [] := by
  cases ts with
  | nil => rfl
  | cons _ _ => simp [nms] at h
theorem nms_len : ∀ {is : List Nat} {ts : List Expr}, nms c is ts = true → is.length = ts.length
  | [], ts, h => by
    rw [nms_nil h]; rfl
  | i :: is, ts, h => by
    obtain ⟨x, p, ts', rfl, _, h2⟩ := nms_cons h
    rw [List.length_cons, List.length_cons, nms_len h2]
/-- several names, from the left, as targets -/
def gNms (is : List Nat) : TGs := fun vs σ H Q => vs.length = is.length ∧ Q (putV is vs σ) H
theorem gnms_nil : PGs X [] (gNms []) := PGs.weak pgs_nil fun vs σ H Q ⟨h1, h2⟩ => by
  cases vs with
  | nil => exact ⟨rfl, h2⟩
  | cons _ _ => simp at h1
theorem gnms_cons {i : Nat} {is : List Nat} {x : Str} {p : PySem.Pos} {ts : List Expr} (C : Cok L c X W) (h : mine c i x = true) (k : PGs X ts (gNms is)) : PGs X (.Name x p :: ts) (gNms (i :: is)) := by
  obtain ⟨h1, h2, h3⟩ := C.mine h
  refine PGs.weak (pgs_cons (pg_name C.nd h1 h2 h3) k rfl) fun vs σ H Q ⟨q1, q2⟩ => ?_
  cases vs with
  | nil => simp at q1
  | cons v vs => exact ⟨v, vs, rfl, by simpa using q1, q2⟩
theorem pgs_nms (C : Cok L c X W) : ∀ {is : List Nat} {ts : List Expr}, nms c is ts = true → PGs X ts (gNms is)
  | [], ts, h => by
    rw [nms_nil h]
    exact gnms_nil
  | i :: is, ts, h => by
    obtain ⟨x, p, ts', rfl, h1, h2⟩ := nms_cons h
    exact gnms_cons C h1 (pgs_nms C h2)
theorem ae_nms {env : PySem.Env} : ∀ {is : List Nat} {ts : List Expr}, nms c is ts = true → (PySem.assignEach ts env).length = is.length ∧ (PySem.assignEach ts env).findIdx? (·.1) = none
  | [], ts, h => by
    rw [nms_nil h]
    exact ⟨rfl, rfl⟩
  | i :: is, ts, h => by
    obtain ⟨x, p, ts', rfl, h1, h2⟩ := nms_cons h
    obtain ⟨k1, k2⟩ := ae_nms (env := env) h2
    have e : PySem.assignEach (Expr.Name x p :: ts') env = (false, PySem.assign (.Name x p) env) :: PySem.assignEach ts' env := rfl
    rw [e, List.findIdx?_cons, k2, List.length_cons, k1]
    exact ⟨rfl, rfl⟩
theorem par_none {is : List Nat} {es : Es} {ts vs : List Expr} {k k2 : Nat} {p p2 q : PySem.Pos} (C : Dok L c X W) (hot : c.hot = false) (h : nms c is ts = true) (hl : is.length ≤ 100) (hlen : is.length = es.len) (he : PA X vs (tEs (sigOf L me) X.mg W es))
    (hw : PySem.swappedStores [.Tuple ts k p] (.Tuple vs k2 p2) X.env = pure none) : PS X (.Assign [.Tuple ts k p] (.Tuple vs k2 p2) q) (tS (sigOf L me) X.mg W (.par is es)) := by
  have g1 := pgs_nms C.ok h
  obtain ⟨g2, g3⟩ := ae_nms (env := X.env) h
  refine PS.weak (ps_asg (pe_tup he) (pg_tup (C.ok.calm hot) g1 g2 g3) rfl hw rfl) fun D σ H hs => ?_
  have r := par_read hlen hs
  obtain ⟨env, F, O, K, R, s, hh, w, ok, ox⟩ := r
  refine ⟨env, F, O, K, R, s, hh, w, fun ds env1 w1 hl' F1 Od Oe vs' H1 n r s1 => ?_, ox⟩
  obtain ⟨e1, e2⟩ := ok ds env1 w1 hl' F1 Od Oe vs' H1 n r s1
  have hsz : vs'.length ≤ sizeLine := by
    have e9 : (100 : Nat) ≤ sizeLine := Nat.le_of_ble_eq_true rfl
    omega
  refine ⟨hsz, fun a ha => ⟨a, vs', rfl, SqT.of upd_same, e1, e1, ?_⟩⟩
  have n5 := Next.newF n.held ha (.tup vs')
  exact (ok ds env1 w1 hl' _ Od Oe vs' _ (n.trans n5) (r.mono n5.f) (s1.mono n5.f)).2

/-! ### names stored from the last on -/
theorem stores_ok (C : Cok L c X W) {pins : List (Addr × PySem.Obj)} {Q : Unit → Shared → Prop} {is : List Nat} {xs : List Str} (m : Paired (fun i x => mine c i x = true) is xs) : ∀ {us : List Value} {vs : List V} {σ : St} {H : Hp} {s : Shared}, Vals vs us → is.length = vs.length → Inv X pins σ H s →
    (∀ s', Inv X pins (putV is vs σ) H s' → Q () s') → wpAny (model X.prog X.w) X.A (PySem.assignInOrder (xs.map fun n => fun v => PySem.bindName X.env n v) us) Q X.xe s := by
  induction m with
  | nil =>
    intro us vs σ H s rv hl I h
    cases vs with
    | nil =>
      cases rv
      exact PyProof.Rows.assignInOrder_nil (h s I)
    | cons _ _ => simp at hl
  | cons m ms ih =>
    intro us vs σ H s rv hl I h
    cases vs with
    | nil => simp at hl
    | cons v vs =>
      cases rv with
      | cons r rs =>
        obtain ⟨h1, h2, h3⟩ := C.mine m
        refine PyProof.Rows.assignInOrder_cons (PySem.wpAny_bindName (store_ok I C.nd h1 h2 r (fun s2 I2 => ?_) h3))
        exact ih rs (by simpa using hl) I2 h
end
end DP

/-! DpT: statements: the one theorem. -/
namespace DP
open PySem (Addr sizeLine wpAny model Value Shared Around FuncData BindsTo codeAny Str Paired Expr Stmt)
open PySem.W (Frag)
open L2
variable [CT]

section
variable {L : List Ent} {c : SC} {X : Cx} {W : WX} {me : List Nat} {mg : Str → Option Value} {F F1 : Hp} {O O1 : Own} {σ σ1 : St} {H H1 : Hp}
theorem paired_rev {α β : Type} {R : α → β → Prop} {l : List α} {m : List β} (h : Paired R l m) : Paired R l.reverse m.reverse := by
  have app : ∀ {l : List α} {m : List β} {a : α} {b : β}, Paired R l m → R a b → Paired R (l ++ [a]) (m ++ [b]) := fun h r => by
    induction h with
    | nil => exact .cons r .nil
    | cons x _ ih => exact .cons x ih
  induction h with
  | nil => exact .nil
  | cons r _ ih => rw [List.reverse_cons, List.reverse_cons]; exact app ih r
theorem paired_len {α β : Type} {R : α → β → Prop} {l : List α} {m : List β} (h : Paired R l m) : l.length = m.length := by
  induction h with
  | nil => rfl
  | cons _ _ ih => simp [ih]
theorem vals_rev {vs : List V} {us : List Value} (h : Vals vs us) : Vals vs.reverse us.reverse := Vals.reverse h
theorem par_some {is : List Nat} {xs : List Str} {es : Es} {ts vs : List Expr} {k k2 : Nat} {p p2 q : PySem.Pos} (C : Dok L c X W) (hot : c.hot = false) (hnd : is.Nodup) (hl : is.length ≤ 100) (hlen : is.length = es.len) (he : PA X vs (tEs (sigOf L me) X.mg W es)) (m : Paired (fun i x => mine c i x = true) is xs)
    (hw : PySem.swappedStores [.Tuple ts k p] (.Tuple vs k2 p2) X.env = pure (some xs)) : PS X (.Assign [.Tuple ts k p] (.Tuple vs k2 p2) q) (tS (sigOf L me) X.mg W (.par is es)) := by
  refine ⟨fun pins s σ H D I h => ?_⟩
  have rd := par_read hlen h
  rw [PySem.exec_Assign_arm]
  refine PySem.wpAny_bind (PySem.wpAny_standAt ?_)
  refine PySem.wpAny_bind (PySem.wpAny_pure ?_)
  rw [if_neg (by decide)]
  refine PySem.wpAny_bind (PyProof.Rows.Tuple_ (thn (he.run _ pins s σ H _ I rd) fun us s1 ⟨ws, H1, I1, r1, q1⟩ => ?_))
  have e9 : (100 : Nat) ≤ sizeLine := Nat.le_of_ble_eq_true rfl
  have lus : us.length = is.length := by rw [← r1.length]; exact q1.1
  refine PySem.wpAny_newObj_type ?_ (by show us.toArray.size ≤ sizeLine; rw [List.size_toArray]; omega)
  have I2 : Inv X pins σ H1 { s1 with heap := s1.heap.push { cls := .type "tuple", data := .seq us.toArray } } := I1.kept (t' := s1.toks) fun b o e => PySem.Heap.get?_push_of_some _ e
  rw [hw]
  refine PySem.wpAny_bind (PySem.wpAny_pure ?_)
  have lx : xs.length = us.toArray.size := by
    rw [List.size_toArray, lus, paired_len m]
  show wpAny (model X.prog X.w) X.A (do PySem.rule "assign.swapped-stores"; let items ← PySem.unpackItems (.ref s1.heap.objs.size) xs.length none; PySem.assignInOrder (xs.reverse.map fun n => PySem.bindName X.env n) items.reverse; pure PySem.Flow.next) _ _ _
  rw [lx]
  refine PySem.wpAny_bind (PySem.wpAny_rule (PySem.wpAny_bind (PyProof.Rows.unpackItems_tuple (I.ok.hd (C.ok.calm hot)) (PyProof.Rows.IsTup.new s1.heap _) fun h' hx' => ?_)))
  have I3 := I2.kept (h' := h') (t' := s1.toks) fun b o e => hx' b o (Nat.ne_of_lt (PySem.Heap.lt_size e)) e
  refine PySem.wpAny_bind (stores_ok C.ok (paired_rev m) (vals_rev r1) (by rw [List.length_reverse, List.length_reverse]; exact q1.1.symm) I3 fun s3 I4 => PySem.wpAny_pure ?_)
  rw [putV_rev hnd q1.1.symm] at I4
  exact ⟨_, H1, I4, q1.2⟩
theorem sw_of {env : PySem.Env} {ts vs : List Expr} {k k2 : Nat} {p p2 : PySem.Pos} {r : Option (List Str)} (hb : env.blockKind = .function) (h : swN env.scope ts vs = some r) : PySem.swappedStores [.Tuple ts k p] (.Tuple vs k2 p2) env = pure r := by
  unfold swN at h
  unfold PySem.swappedStores
  have hb' : (env.blockKind != .function) = false := by rw [hb]; rfl
  simp only [hb', Bool.or_false]
  split at h
  · rename_i q
    cases h
    exact if_pos q
  · rename_i q
    refine (if_neg q).trans ?_
    split at h
    · rename_i q2
      cases h
      exact if_pos q2
    · rename_i q2
      refine (if_neg q2).trans ?_
      dsimp only at h
      split at h
      · rename_i q3
        cases h
        exact if_pos q3
      · rename_i q3
        refine (if_neg q3).trans ?_
        split at h
        · rename_i q4
          cases h
          exact if_pos q4
        · rename_i q4
          refine (if_neg q4).trans ?_
          split at h
          · cases h
          · rename_i q5
            cases h
            exact if_neg q5
end
end DP

/-! DpTa: raise, try. -/
namespace DP
open PySem (Addr sizeLine wpAny model Value Shared Around FuncData BindsTo codeAny Str Paired Expr Stmt)
open PySem.W (Frag)
open L2
variable [CT]

section
variable {L : List Ent} {c : SC} {X : Cx} {W : WX} {me : List Nat} {mg : Str → Option Value} {F F1 : Hp} {O O1 : Own} {σ σ1 : St} {H H1 : Hp}
theorem Dok.inTry (C : Dok L c X W) {W' : WX} {pn : List (Addr × PySem.Obj)} {xe : Value → Shared → Prop} (tk : Takes (X.tr pn xe) W') (po : PySem.PassesOwn (model X.prog X.w) X.A X.env xe) : Dok L c (X.tr pn xe) W' :=
  ⟨⟨C.ok.N, C.ok.sc, C.ok.nd, C.ok.calm, C.ok.st, C.ok.hg, C.ok.hu, tk, C.ok.kw, C.ok.fn, C.ok.wd⟩, po, C.bk, C.hs, C.hf, C.hex⟩
theorem Dok.inSuite (C : Dok L c X W) {a : Addr} {pn : List (Addr × PySem.Obj)} : Dok L { c with hot := true } (X.suite a pn) (fun _ _ _ _ => False) := by
  obtain ⟨k, r1, r2, r3⟩ := C.ok.wd
  exact ⟨⟨C.ok.N, C.ok.sc, C.ok.nd, (fun z => by cases z), C.ok.st, C.ok.hg, C.ok.hu, fun u s' ⟨_, _, _, _, _, _, _, _, _, _, _, _, _, _, _, _, w⟩ => w.elim, C.ok.kw, C.ok.fn, ⟨k, fun z => (by cases z), r2, r3⟩⟩, PySem.PassesOwn.never, C.bk, C.hs, C.hf, C.hex⟩
/-- raise C(e), C without __init__ -/
theorem ss_rs0 {k : String} {e : E} {e' : Expr} {q p p2 : PySem.Pos} (C : Dok L c X W) (hot : c.hot = false) (hg : glob c (Str.ofString k) = true) (hk : k ∈ c.cls) (hn : (fldTab.lookup k) = none) (hc : chkE c e e' = true) (he : PE X e' (tE (sigOf L me) X.mg W e)) :
    PS X (.Raise (some (.Call (.Name (Str.ofString k) q) [e'] [] p)) none p2) (tS (sigOf L me) X.mg W (.rs0 k e)) := by
  obtain ⟨D, hD⟩ := C.ok.xw.at_ k hk
  have o := C.ok.xw.one k D hD
  obtain ⟨g1, g2⟩ := C.ok.glob hg
  have mk := o.made
  rw [hn] at mk
  have hf : fldsOf k = [] := by unfold fldsOf; rw [hn]
  refine PS.weak (ps_raise (C.ok.calm hot) C.ok.tk (pmk_e PySem.F.excBase_ValueError mk o.gC o.kC (raises_own o.xC.hs o.tC) g1 g2 he (star_cons (chk_star hc)))) fun Dn σ H ⟨env, F, O, K, s, hh, w, ok⟩ => ?_
  simp only [wpS] at w
  exact ⟨env, F, O, _, K.ex, s, hh, w, fun d env1 w1 F1 Od Oe v H1 n r s1 => ok.ex ⟨k, [], []⟩ env1 w1 F1 Oe σ _ none H1 n.drop s1 (Mes.refl _ _) ⟨D, [], hD, rfl, rfl, .nil, rfl, hf.symm⟩, ok.ox⟩
/-- raise C(e), C with a field -/
theorem ss_rs1 {k f : String} {e : E} {e' : Expr} {q p p2 : PySem.Pos} (C : Dok L c X W) (hot : c.hot = false) (hg : glob c (Str.ofString k) = true) (hk : k ∈ c.cls) (hn : (fldTab.lookup k) = some f) (hc : chkE c e e' = true) (he : PE X e' (tE (sigOf L me) X.mg W e)) :
    PS X (.Raise (some (.Call (.Name (Str.ofString k) q) [e'] [] p)) none p2) (tS (sigOf L me) X.mg W (.rs1 k f e)) := by
  obtain ⟨D, hD⟩ := C.ok.xw.at_ k hk
  have o := C.ok.xw.one k D hD
  obtain ⟨g1, g2⟩ := C.ok.glob hg
  have mk := o.made
  rw [hn] at mk
  obtain ⟨fI, fd, T, G, bd⟩ := mk
  have hf : fldsOf k = [f] := by unfold fldsOf; rw [hn]
  obtain ⟨lv, r1, r2, r3⟩ := C.ok.wd
  refine PS.weak (ps_raise (C.ok.calm hot) C.ok.tk (pmk_fl T G bd ((r1 hot).mono r2) g1 o.gC g2 he (star_cons (chk_star hc)))) fun Dn σ H ⟨env, F, O, K, s, hh, w, ok⟩ => ?_
  simp only [wpS] at w
  refine ⟨env, F, O, _, K.ex, s, hh, w, fun d env1 w1 F1 Od Oe v H1 n r s1 => flAsk_of T fun dx hdx => ?_, ok.ox⟩
  have n2 := Next.freeze n.held
  have n3 := Next.newF n2.held hdx (.xd [(Str.ofString f, v)])
  have rz := (r.frozen n.held).mono n3.f
  refine ok.ex ⟨k, [f], [d.fz]⟩ env1 w1 _ Oe σ _ (some dx) _ ((n.trans n2).trans n3) ((s1.mono n2.f).mono n3.f) (Mes.refl _ _) ⟨D, [v], hD, rfl, upd_same, .mk rz .nil, rfl, hf.symm⟩
/-- what the except clauses do with an exception of the body -/
def HsRead (L : List Ent) (me : List Nat) (X : Cx) (W : WX) (hs : Hs) (l : List Cl) : Prop := ∀ (D : Ends) (K : Con) (x : Exc) (env : Env) (F : Hp) (O : Own) (σ : St) (H : Hp) (cls : Value) (dd : Option Addr), SimE F env σ O → Held F O H → okC X.mg W (sigOf L me).me F O σ H D K →
  wpHs (sigOf L me) hs x env K → RepX X.mg F H x cls dd → wTry X.K W D l cls dd σ H
theorem hs_nil : HsRead L me X W .nil [] := fun D K x env F O σ H cls dd s hh ok w rep => by
  simp only [wpHs] at w
  exact ok.ex x env w F O σ cls dd H (Next.refl hh) s (Mes.refl _ _) rep
theorem hs_cons {k : String} {nm : Option Nat} {b : Ss} {hs : Hs} {l : List Cl} {Dc : Addr} (C : Dok L c X W) (hD : CT.cat k = some Dc) (hr : HsRead L me X W hs l) :
    HsRead L me X W (.cons k nm b hs) ((.ref Dc, nm, fun _ _ => tSs (sigOf L me) X.mg (fun _ _ _ _ => False) b) :: l) := fun D K x env F O σ H cls dd s hh ok w rep => by
  simp only [wpHs] at w
  obtain ⟨b0, h0, w⟩ := w
  obtain ⟨C0, vs, hC, rfl, hx, hl, l1, l2⟩ := rep
  refine ⟨b0, ((C.ok.xw.two _ _ _ _ hC hD).2).trans h0, fun z a ha => ?_, fun z => ?_⟩
  · subst z
    rw [if_pos rfl] at w
    have n1 := Next.newF hh ha (exV (.ref C0) dd a)
    have re : Rep (upd F a (exV (.ref C0) dd a)) (.exc x.cls x.fs x.xs) (.ref a) [] := .exc hC upd_same (hx.mono n1.f) (hl.mono n1.f) ⟨l1, l2⟩
    cases nm with
    | none =>
      have ok1 := ok.step n1 (Mes.refl _ _)
      exact ⟨env, _, O, _, s.mono n1.f, n1.held, w, ⟨ok1.nx, ok1.rt, ok1.bk, ok1.ct, fun _ _ z => z.elim⟩⟩
    | some i =>
      obtain ⟨w1, w2, w3⟩ := w
      obtain ⟨Z, B, C', k1, k2, k3⟩ := (s.mono n1.f).store w2 re
      have n2 : Next F O H (upd F a (exV (.ref C0) dd a)) C' (upd H a (exV (.ref C0) dd a)) := (n1.perm (k2.trans (List.Perm.append_left Z k3.symm))).drop
      have m2 : Mes (sigOf L me).me σ (σ.set i (some (.ref a))) := Mes.set w1
      have ok1 := ok.step n2 m2
      have fin : ∀ {P : St → Hp → Prop} {kk : Env → Prop}, okN (sigOf L me).me (upd F a (exV (.ref C0) dd a)) C' (σ.set i (some (.ref a))) (upd H a (exV (.ref C0) dd a)) P kk → okN (sigOf L me).me (upd F a (exV (.ref C0) dd a)) C' (σ.set i (some (.ref a))) (upd H a (exV (.ref C0) dd a)) (fun σ' H' => P (σ'.set i none) H') (fun e => kk (e.set i none)) := fun {P kk} h env5 q F5 O5 σ5 H5 n5 s5 m5 => by
        obtain ⟨A5, B5, s6, p6⟩ := s5.wipe i
        have s7 : SimE F5 (env5.set i none) (σ5.set i none) B5 := by
          by_cases hi : i < env5.length
          · exact s6.any none (by rw [List.getElem?_set_self hi])
          · have e1 : σ5.set i none = σ5 := List.set_eq_of_length_le (by rw [← s5.len]; omega)
            rw [e1]; exact s6
        exact h _ q F5 B5 _ H5 ((n5.perm p6).drop) s7 (m5.trans (Mes.set w1))
      exact ⟨env.set i (some (.exc x.cls x.fs x.xs)), _, C', _, k1, n2.held, w3, ⟨fin ok1.nx, ok1.rt, fin ok1.bk, fin ok1.ct, fun _ _ z => z.elim⟩⟩
  · subst z
    have w' : wpHs (sigOf L me) hs x env K := by simpa using w
    exact hr D K x env F O σ H _ dd s hh ok w' ⟨C0, vs, hC, rfl, hx, hl, l1, l2⟩
theorem ss_try {b : Ss} {hs : Hs} {b' : List Stmt} {h0 : PySem.ExceptHandler} {hs' : List PySem.ExceptHandler} {p : PySem.Pos} {l : List Cl} (C : Dok L c X W)
    (hb : ∀ (W' : WX) (pn : List (Addr × PySem.Obj)) (xe : Value → Shared → Prop), Dok L c (X.tr pn xe) W' → PSs (X.tr pn xe) b' (tSs (sigOf L me) X.mg W' b)) (hh : HdsD X (h0 :: hs') l) (hr : HsRead L me X W hs l) :
    PS X (.Try b' (h0 :: hs') [] [] p) (tS (sigOf L me) X.mg W (.try_ b hs)) := by
  refine PS.weak (ps_tryD (tb := fun W' => tSs (sigOf L me) X.mg W' b) C.hex C.hs C.hf C.ok.tk (fun W' pn xe tk po => hb W' pn xe (C.inTry tk po)) hh) fun D σ H ⟨env, F, O, K, s, hh, w, ok⟩ => ?_
  simp only [wpS] at w
  refine ⟨env, F, O, _, s, hh, w, ⟨ok.nx, ok.rt, ok.bk, ok.ct, fun x env1 w1 F1 O1 σ1 cls dd H1 n1 s1 m1 rep => ?_⟩⟩
  exact hr D K x env1 F1 O1 σ1 H1 cls dd s1 n1.held (ok.step n1 m1) w1 rep
end
end DP

/-! DpU: statements: the one theorem. -/
namespace DP
open PySem (Addr sizeLine wpAny model Value Shared Around FuncData BindsTo codeAny Str Paired Expr Stmt)
open PySem.W (Frag)
open L2
variable [CT]

section
variable {L : List Ent} {me : List Nat}
theorem chk_aug {c : SC} {a : E} {e : Expr} (h : chkE c a e = true) : ∀ ov iv new, PySem.augStore e ov iv new = (do PySem.holding [new, ov, iv] (PySem.setItem ov iv new); PySem.release [new, ov, iv] []; pure .next) := by
  intro ov iv new
  cases e <;> first | rfl | (cases a <;> simp [chkE, notSS] at h)
theorem chk_asn {c : SC} {a : E} {o e : Expr} {r : PySem.Pos} {env : PySem.Env} (h : chkE c a e = true) : ∀ v, PySem.assign (.Subscript o e r) env v = (do
      let ov ← PySem.holding [v] (PySem.eval o env)
      let iv ← PySem.holding [v, ov] (PySem.eval e env)
      PySem.standAt r
      PySem.holding [v, ov, iv] (PySem.setItem ov iv v)
      PySem.release [v, ov, iv] []) := by
  intro v
  cases e <;> first | rfl | (cases a <;> simp [chkE, notSS] at h)
def isLC : Expr → Bool
  | .ListComp .. => true
  | _ => false
theorem chk_sw {c : SC} {a : E} {e : Expr} {t : Option Expr} {l : Nat} {env : PySem.Env} (h : chkE c a e = true) (hn : isLC e = false) : PySem.swapsWith e t l env = pure false := by
  cases e <;> first
    | rfl
    | (simp [isLC] at hn; done)
    | (cases a <;> simp [chkE, notSS] at h)
theorem chk_lcE {c : SC} {a : E} {e : Expr} (h : chkE c a e = true) (hn : isLC e = true) : (∃ elt t it ifs own, a = .lc elt t it ifs own) ∨ ∃ b, a = .ice b := by
  cases e with
  | ListComp elt gs sc p => cases a <;> first | exact .inl ⟨_, _, _, _, _, rfl⟩ | exact .inr ⟨_, rfl⟩ | simp [chkE, notSS] at h
  | _ => simp [isLC] at hn
theorem swLC {elt : Expr} {gs : List PySem.Comprehension} {sc : PySem.Scope} {p q : PySem.Pos} {x : Str} {l : Nat} {env : PySem.Env} : PySem.swapsWith (.ListComp elt gs sc p) (some (.Name x q)) l env = pure false ∨
    (PySem.swapsWith (.ListComp elt gs sc p) (some (.Name x q)) l env = pure true ∧ env.kindOf x = some .local) := by
  cases hb : (env.blockKind == .function && env.kindOf x == some .local && q.line == p.line && !(sc.names.any fun (n, k) => n == x && (k == .local || k == .cell))) with
  | false => exact .inl (congrArg pure hb)
  | true =>
    refine .inr ⟨congrArg pure hb, ?_⟩
    simp only [Bool.and_eq_true, beq_iff_eq] at hb
    exact hb.1.1.2
theorem PS.asgT {X : Cx} {W : WX} {t : T} {e : E} {st : Stmt} {g : TG} (hg : ∀ v σ H Q, gT me t v σ H Q → g v σ H Q) (h : PS X st (tAsg (tE (sigOf L me) X.mg W e) g)) : PS X st (tS (sigOf L me) X.mg W (.asg t e)) :=
  PS.weak h fun D σ H q => by
    have r := asg_read q
    obtain ⟨env, F, O, K, R, s, hh, w, ok, ox⟩ := r
    exact ⟨env, F, O, K, R, s, hh, w, fun d env1 k F1 Od Oe v H1 n r s1 => hg _ _ _ _ (ok d env1 k F1 Od Oe v H1 n r s1), ox⟩
def noTT : Expr → Expr → E → Bool
  | .Tuple .., .Tuple .., _ => false
  | _, _, .ice _ => false
  | _, _, _ => true
theorem s_asg {c : SC} {X : Cx} {W : WX} {t : T} {e : E} {t' e' : Expr} {p : PySem.Pos} (C : Dok L c X W) (ht : chkT c t t' = true) (he : chkE c e e' = true) (hx : noTT t' e' e = true) : PS X (.Assign [t'] e' p) (tS (sigOf L me) X.mg W (.asg t e)) := by
  cases t with
  | nm i =>
    obtain ⟨x, q, rfl, hm⟩ := chkT_nm ht
    obtain ⟨h1, h2, h3⟩ := C.ok.mine hm
    have plain : PySem.swapsWith e' (some (.Name x q)) p.line X.env = pure false → PS X (.Assign [.Name x q] e' p) (tS (sigOf L me) X.mg W (.asg (.nm i) e)) := fun hs =>
      PS.asgT (fun v σ H Q h => gT_nm h) (ps_set C.ok.nd h1 h2 (sE e C.ok he) hs h3)
    cases hl : isLC e' with
    | false => exact plain (chk_sw he hl)
    | true =>
      rcases chk_lcE he hl with ⟨elt, t2, it, ifs, own, rfl⟩ | ⟨b, rfl⟩
      case inr => cases e' <;> first | (cases hl; done) | (cases hx; done)
      obtain ⟨elt', t2', it', ifs', scope, p2, rfl, k1, k2, k3, k4, k5, k6, k7, k8⟩ := chk_lc he
      rcases swLC (elt := elt') (gs := [⟨t2', it', ifs', 0⟩]) (sc := scope) (p := p2) (q := q) (x := x) (l := p.line) (env := X.env) with hs | ⟨hs, hk⟩
      · exact plain hs
      · exact PS.asgT (fun v σ H Q h => gT_nm h) (st_setLc C.ok (chk_cold he rfl) hm hk hs k2 k4 k8 (sI it C.ok k1 k3) (fun C' => sG t2 C' k5) (fun C' => sTs ifs C' k6) (fun C' => sE elt C' k7))
  | tp ts =>
    obtain ⟨es, k, q, rfl, hm, _⟩ := chkT_tp ht
    have hs : PySem.swapsWithSole [.Tuple es k q] e' p.line X.env = pure false := by
      show PySem.swapsWith e' (some (.Tuple es k q)) p.line X.env = pure false
      cases e' <;> rfl
    have hw : PySem.swappedStores [.Tuple es k q] e' X.env = pure none := by
      cases e' <;> first | rfl | (cases hx)
    exact PS.asgT (fun v σ H Q h => h) (ps_asg (sE e C.ok he) (sG (.tp ts) C.ok ht) hs hw rfl)
theorem nms_paired {c : SC} : ∀ {is : List Nat} {ts : List Expr}, nms c is ts = true → Paired (fun i x => mine c i x = true) is (is.filterMap fun i => c.N[i]?)
  | [], ts, h => .nil
  | i :: is, ts, h => by
    obtain ⟨x, p, ts', rfl, h1, h2⟩ := nms_cons h
    have e : c.N[i]? = some x := by
      have h1' := h1
      unfold mine at h1'
      simp only [Bool.and_eq_true, decide_eq_true_eq] at h1'
      exact h1'.1
    rw [List.filterMap_cons, e]
    exact .cons h1 (nms_paired h2)
theorem s_par {c : SC} {X : Cx} {W : WX} {is : List Nat} {es : Es} {ts vs : List Expr} {k k2 : Nat} {p p2 q : PySem.Pos} (C : Dok L c X W) (hot : c.hot = false) (h1 : nms c is ts = true) (h2 : chkEs c es vs = true) (h3 : is.Nodup) (h4 : is.length ≤ 100) (hlen : is.length = es.len)
    (h5 : (match swN c.sc ts vs with | some none => true | some (some l) => decide (l = is.filterMap fun i => c.N[i]?) | none => false) = true) : PS X (.Assign [.Tuple ts k p] (.Tuple vs k2 p2) q) (tS (sigOf L me) X.mg W (.par is es)) := by
  have hsc : X.env.scope = c.sc := C.ok.sc
  cases hs : swN c.sc ts vs with
  | none => rw [hs] at h5; cases h5
  | some o =>
    have hw := sw_of (k := k) (k2 := k2) (p := p) (p2 := p2) C.bk (by rw [hsc]; exact hs)
    cases o with
    | none => exact par_none C hot h1 h4 hlen (sEs es C.ok h2) hw
    | some l =>
      rw [hs] at h5
      have hl : l = is.filterMap fun i => c.N[i]? := by simpa using h5
      subst hl
      exact par_some C hot h3 h4 hlen (sEs es C.ok h2) (nms_paired h1) hw
theorem chkS_inv {c : SC} {a : S} {st : Stmt} (h : chkS c a st = true) : match a with
    | .nev => True
    | .asg t e => ∃ t' e' p, st = .Assign [t'] e' p ∧ chkT c t t' = true ∧ chkE c e e' = true ∧ noTT t' e' e = true
    | .par is es => ∃ ts k p vs k2 p2 q, st = .Assign [.Tuple ts k p] (.Tuple vs k2 p2) q ∧ nms c is ts = true ∧ chkEs c es vs = true ∧ is.Nodup ∧ is.length ≤ 100 ∧ is.length = es.len ∧ (match swN c.sc ts vs with | some none => true | some (some l) => decide (l = is.filterMap fun i => c.N[i]?) | none => false) = true
    | .pst i ix e => ∃ x q ix' r e' p, st = .Assign [.Subscript (.Name x q) ix' r] e' p ∧ seen c i x = true ∧ chkE c ix ix' = true ∧ chkE c e e' = true
    | .aug i o e => ∃ x q e' p, st = .AugAssign (.Name x q) (opOf o) e' p ∧ mine c i x = true ∧ chkE c e e' = true
    | .pag i ix o e => ∃ x q ix' r e' p, st = .AugAssign (.Subscript (.Name x q) ix' r) (opOf o) e' p ∧ seen c i x = true ∧ chkE c ix ix' = true ∧ chkE c e e' = true
    | .app i e => ∃ x q r e' cp p, st = .Expr (.Call (.Attribute (.Name x q) (Str.ofString "append") r) [e'] [] cp) p ∧ seen c i x = true ∧ chkE c e e' = true ∧ (r.endLine == cp.line) = true
    | .pat i ks d d2 => ∃ r k j q k2 j2 q2 kt pt ap cp p, st = .Expr (.Call (.Attribute r (Str.ofString "append") ap) [.Tuple [.Constant k j q, .Constant k2 j2 q2] kt pt] [] cp) p ∧ chkP c i ks.reverse r = true ∧ conD d k = true ∧ conD d2 k2 = true ∧ (ap.endLine == cp.line) = true
    | .pap i ks d => ∃ r k j q ap cp p, st = .Expr (.Call (.Attribute r (Str.ofString "append") ap) [.Constant k j q] [] cp) p ∧ chkP c i ks.reverse r = true ∧ conD d k = true ∧ (ap.endLine == cp.line) = true
    | .ins i e => ∃ x q r kz kp e' cp p, st = .Expr (.Call (.Attribute (.Name x q) (Str.ofString "insert") r) [.Constant (.int 0) kz kp, e'] [] cp) p ∧ seen c i x = true ∧ chkE c e e' = true ∧ (r.endLine == cp.line) = true
    | .ext i e => ∃ x q r e' cp p, st = .Expr (.Call (.Attribute (.Name x q) (Str.ofString "extend") r) [e'] [] cp) p ∧ seen c i x = true ∧ chkE c e e' = true ∧ (r.endLine == cp.line) = true
    | .fpa j i ks k2 d => ∃ y q0 r r2 k kj q ap cp p p2, st = .For (.Name y q0) r [.Expr (.Call (.Attribute r2 (Str.ofString "append") ap) [.Constant k kj q] [] cp) p] [] p2 ∧ mine c j y = true ∧ chkP c i ks.reverse r = true ∧ chkP c j k2.reverse r2 = true ∧ conD d k = true ∧ (ap.endLine == cp.line) = true
    | .psa i ix e j e2 => ∃ x q ix' r y r2 kt pt e' e2' kv pv p, st = .Assign [.Tuple [.Subscript (.Name x q) ix' r, .Name y r2] kt pt] (.Tuple [e', e2'] kv pv) p ∧ seen c i x = true ∧ chkE c ix ix' = true ∧ mine c j y = true ∧ chkE c e e' = true ∧ chkE c e2 e2' = true ∧ swN c.sc [.Subscript (.Name x q) ix' r, .Name y r2] [e', e2'] = some none
    | .exp e => ∃ e' p, st = .Expr e' p ∧ chkE c e e' = true ∧ isLC e' = false
    | .ite d a b => ∃ d' a' b' p, st = .If d' a' b' p ∧ chkE c d d' = true ∧ chkSs c a a' = true ∧ chkSs c b b' = true
    | .for_ t it b => ∃ t' it' b' p, st = .For t' it' b' [] p ∧ chkT c t t' = true ∧ chkI c it it' = true ∧ noSet it' = true ∧ (needTup it = true → isTupE t' = true) ∧ chkSs c b b' = true
    | .whl d b => ∃ d' b' p, st = .While d' b' [] p ∧ chkE c d d' = true ∧ chkSs c b b' = true
    | .ret e => ∃ e' p, st = .Return (some e') p ∧ chkE c e e' = true
    | .rtn => ∃ p, st = .Return none p
    | .brk => ∃ p, st = .Break p
    | .cnt => ∃ p, st = .Continue p
    | .pas => ∃ p, st = .Pass p
    | .rs0 _ _ => True
    | .rs1 _ _ _ => True
    | .try_ _ _ => True := by
  unfold chkS at h
  split at h
  · trivial
  all_goals first
    | exact True.intro
    | (cases h; done)
    | exact ⟨_, rfl⟩
    | (try simp only [Bool.and_eq_true, decide_eq_true_eq, Bool.or_eq_true, Bool.not_eq_true'] at h
       first
         | (obtain ⟨⟨⟨h1, rfl⟩, h3⟩, h4⟩ := h; exact ⟨_, _, _, _, _, _, _, rfl, h1, h3, h4⟩)
         | (obtain ⟨⟨⟨⟨h1, rfl⟩, rfl⟩, h3⟩, h4⟩ := h; exact ⟨_, _, _, _, _, _, _, _, rfl, h1, h3, h4⟩)
         | (obtain ⟨⟨⟨⟨h1, rfl⟩, h3⟩, h4⟩, h5⟩ := h; exact ⟨_, _, _, _, _, _, _, _, _, _, _, _, rfl, h1, h3, h4, h5⟩)
         | (obtain ⟨⟨⟨⟨⟨⟨h1, h2⟩, h3⟩, rfl⟩, h5⟩, h6⟩, _⟩ := h; exact ⟨_, _, _, _, _, _, _, _, _, _, _, rfl, h1, h2, h3, h5, h6⟩)
         | (obtain ⟨⟨⟨⟨⟨⟨h1, h2⟩, h3⟩, h4⟩, h5⟩, h6⟩, _⟩ := h
            refine ⟨_, _, _, _, _, _, _, _, _, _, _, _, _, rfl, h1, h2, h3, h4, h5, ?_⟩
            split at h6
            · rename_i e; exact e
            · cases h6)
         | (obtain ⟨⟨⟨⟨⟨⟨h1, h2⟩, h3⟩, h4⟩, h5⟩, h6⟩, _⟩ := h; exact ⟨_, _, _, _, _, _, _, rfl, h1, h2, h3, h4, h5, h6⟩)
         | (obtain ⟨⟨⟨⟨⟨h1, h2⟩, h3⟩, h4⟩, h5⟩, _⟩ := h; exact ⟨_, _, _, _, rfl, h1, h2, h3, fun z => h4.resolve_left (by rw [z]; exact fun q => nomatch q), h5⟩)
         | (obtain ⟨⟨⟨⟨⟨h1, h2⟩, h3⟩, h4⟩, h5⟩, h6⟩ := h
            refine ⟨_, _, _, _, _, _, _, _, _, _, _, _, _, rfl, h1, h2, h3, h4, h5, ?_⟩
            split at h6
            · rename_i e; exact e
            · cases h6)
         | (obtain ⟨⟨h1, h2⟩, h3⟩ := h; exact ⟨_, _, _, rfl, h1, h2, h3⟩)
         | (obtain ⟨⟨⟨⟨⟨h1, h2⟩, h3⟩, h4⟩, h5⟩, h6⟩ := h; exact ⟨_, _, _, _, _, _, _, rfl, h1, h2, h3, h4, h5, h6⟩)
         | (obtain ⟨⟨h1, h2⟩, h3⟩ := h; exact ⟨_, _, _, _, _, _, rfl, h1, h2, h3⟩)
         | (obtain ⟨⟨h1, rfl⟩, h3⟩ := h; exact ⟨_, _, _, _, rfl, h1, h3⟩)
         | (obtain ⟨⟨⟨h1, h2⟩, rfl⟩, h3⟩ := h; exact ⟨_, _, _, _, _, _, rfl, h1, h2, h3⟩)
         | (obtain ⟨⟨⟨h1, rfl⟩, h3⟩, h4⟩ := h; exact ⟨_, _, _, _, _, _, rfl, h1, h3, h4⟩)
         | (obtain ⟨h1, h2⟩ := h; refine ⟨_, _, rfl, h1, ?_⟩; revert h2; cases ‹Expr› <;> simp [isLC]; done)
         | (obtain ⟨⟨h1, h2⟩, h3⟩ := h; exact ⟨_, _, _, _, rfl, h1, h2, h3⟩)
         | (obtain ⟨⟨⟨⟨h1, h2⟩, h3⟩, h4⟩, h5⟩ := h; exact ⟨_, _, _, _, rfl, h1, h2, h3, fun z => h4.resolve_left (by rw [z]; exact fun q => nomatch q), h5⟩)
         | (obtain ⟨h1, h2⟩ := h; exact ⟨_, _, _, rfl, h1, h2⟩)
         | exact ⟨_, _, rfl, h⟩)
def coldS : S → Bool
  | .par .. => true | .fpa .. => true | .psa .. => true | .for_ .. => true | .rs0 .. => true | .rs1 .. => true | .try_ .. => true
  | _ => false
theorem chkS_cold {c : SC} {a : S} {st : Stmt} (h : chkS c a st = true) (q : coldS a = true) : c.hot = false := by
  cases a <;> simp only [coldS, Bool.false_eq_true] at q <;> (unfold chkS at h; split at h) <;> simp_all
theorem chk_rs0 {c : SC} {k : String} {e : E} {st : Stmt} (h : chkS c (.rs0 k e) st = true) : ∃ e' q p p2, st = .Raise (some (.Call (.Name (Str.ofString k) q) [e'] [] p)) none p2 ∧ glob c (Str.ofString k) = true ∧ k ∈ c.cls ∧ fldTab.lookup k = none ∧ chkE c e e' = true := by
  unfold chkS at h
  split at h <;> first
    | contradiction
    | (rename_i e1
       cases e1
       simp only [Bool.and_eq_true, Option.isNone_iff_eq_none, Bool.not_eq_true', beq_eq_false_iff_ne] at h
       obtain ⟨⟨⟨⟨h1, h2⟩, h3⟩, h4⟩, _⟩ := h
       obtain ⟨rfl, g1, g2⟩ := clsN_inv h1
       exact ⟨_, _, _, _, rfl, g1, g2.resolve_right h2, h3, h4⟩)
theorem chk_rs1 {c : SC} {k f : String} {e : E} {st : Stmt} (h : chkS c (.rs1 k f e) st = true) : ∃ e' q p p2, st = .Raise (some (.Call (.Name (Str.ofString k) q) [e'] [] p)) none p2 ∧ glob c (Str.ofString k) = true ∧ k ∈ c.cls ∧ fldTab.lookup k = some f ∧ chkE c e e' = true := by
  unfold chkS at h
  split at h <;> first
    | contradiction
    | (rename_i e1
       cases e1
       simp only [Bool.and_eq_true, beq_iff_eq, Bool.not_eq_true', beq_eq_false_iff_ne] at h
       obtain ⟨⟨⟨⟨h1, h2⟩, h3⟩, _⟩, h4⟩ := h
       obtain ⟨rfl, g1, g2⟩ := clsN_inv h1
       exact ⟨_, _, _, _, rfl, g1, g2.resolve_right h2, h4, h3⟩)
theorem chk_try {c : SC} {b : Ss} {hs : Hs} {st : Stmt} (h : chkS c (.try_ b hs) st = true) : ∃ b' h0 hs' p, st = .Try b' (h0 :: hs') [] [] p ∧ chkSs c b b' = true ∧ chkHs c hs (h0 :: hs') = true := by
  unfold chkS at h
  split at h <;> first
    | contradiction
    | (rename_i e1
       cases e1
       simp only [Bool.and_eq_true] at h
       obtain ⟨⟨⟨h1, h2⟩, _⟩, h3⟩ := h
       split at h3
       · cases h3
       · rename_i hne
         obtain ⟨h0, tl, rfl⟩ := List.exists_cons_of_ne_nil hne
         exact ⟨_, _, _, _, rfl, h1, h2⟩)
theorem chkHs_nil {c : SC} {hs : List PySem.ExceptHandler} (h : chkHs c .nil hs = true) : hs = [] := by
  cases hs with
  | nil => rfl
  | cons _ _ => simp [chkHs] at h
theorem chkHs_cons {c : SC} {k : String} {nm : Option Nat} {b : Ss} {hs : Hs} {hs' : List PySem.ExceptHandler} (h : chkHs c (.cons k nm b hs) hs' = true) : ∃ r b0 b' p n hs2, hs' = .ExceptHandler (some (.Name (Str.ofString k) r)) n (b0 :: b') p :: hs2 ∧ glob c (Str.ofString k) = true ∧ k ∈ c.cls ∧
    chkSs { c with hot := true } b (b0 :: b') = true ∧ chkHs c hs hs2 = true ∧ (match nm with
      | none => n = none
      | some i => ∃ x, n = some x ∧ c.N[i]? = some x ∧ c.sc.names.lookup x = some .local) := by
  cases hs' with
  | nil => cases nm <;> simp [chkHs] at h
  | cons h0 tl =>
    obtain ⟨ty, n, bd, p⟩ := h0
    cases bd with
    | nil => cases nm <;> cases ty <;> cases n <;> first | (simp [chkHs] at h; done) | (rename_i e; cases e <;> simp [chkHs] at h; done) | (rename_i e _; cases e <;> simp [chkHs] at h; done)
    | cons b0 b' =>
      cases ty with
      | none => cases nm <;> cases n <;> simp [chkHs] at h
      | some e =>
        cases e with
        | Name y r =>
          cases nm with
          | none =>
            cases n with
            | some _ => simp [chkHs] at h
            | none =>
              simp only [chkHs, Bool.and_eq_true, Bool.not_eq_true', beq_eq_false_iff_ne] at h
              obtain ⟨⟨⟨h1, h2⟩, h3⟩, h4⟩ := h
              obtain ⟨rfl, g1, g2⟩ := clsN_inv h1
              exact ⟨_, _, _, _, _, _, rfl, g1, g2.resolve_right h2, h3, h4, rfl⟩
          | some i =>
            cases n with
            | none => simp [chkHs] at h
            | some x =>
              simp only [chkHs, Bool.and_eq_true, Bool.not_eq_true', beq_eq_false_iff_ne, decide_eq_true_eq] at h
              obtain ⟨⟨⟨⟨⟨⟨h1, h2⟩, h5⟩, h6⟩, h7⟩, h3⟩, h4⟩ := h
              obtain ⟨rfl, g1, g2⟩ := clsN_inv h1
              refine ⟨_, _, _, _, _, _, rfl, g1, g2.resolve_right h2, h3, h4, x, rfl, h5, ?_⟩
              split at h6
              · assumption
              · cases h6
        | _ => cases nm <;> cases n <;> simp [chkHs] at h
end
end DP

/-! DpV: statements: the one theorem; a def by its body. -/
namespace DP
open PySem (Addr sizeLine wpAny model Value Shared Around FuncData BindsTo codeAny Str Paired Expr Stmt)
open PySem.W (Frag)
open L2
variable [CT]

section
variable {L : List Ent} {me : List Nat}
theorem chkSs_nil {c : SC} {st : List Stmt} (h : chkSs c .nil st = true) : st = [] := by
  cases st with
  | nil => rfl
  | cons _ _ => simp [chkSs] at h
theorem chkSs_cons {c : SC} {a : S} {as : Ss} {st : List Stmt} (h : chkSs c (.cons a as) st = true) : ∃ b bs, st = b :: bs ∧ chkS c a b = true ∧ chkSs c as bs = true := by
  cases st with
  | nil => simp [chkSs] at h
  | cons b bs =>
    simp only [chkSs, Bool.and_eq_true] at h
    exact ⟨b, bs, rfl, h.1, h.2⟩
mutual
theorem sS : ∀ (a : S) {c : SC} {X : Cx} {W : WX} {st : Stmt}, Dok L c X W → chkS c a st = true → PS X st (tS (sigOf L me) X.mg W a)
  | .nev, c, X, W, st, C, h => ss_nev
  | .asg t e, c, X, W, st, C, h => by
    obtain ⟨t', e', p, rfl, h1, h2, h3⟩ := chkS_inv h
    exact s_asg C h1 h2 h3
  | .par is es, c, X, W, st, C, h => by
    have hot := chkS_cold h rfl
    obtain ⟨ts, k, p, vs, k2, p2, q, rfl, h1, h2, h3, h4, h5, h6⟩ := chkS_inv h
    exact s_par C hot h1 h2 h3 h4 h5 h6
  | .pst i ix e, c, X, W, st, C, h => by
    obtain ⟨x, q, ix', r, e', p, rfl, h1, h2, h3⟩ := chkS_inv h
    exact ss_pst C h1 (sE ix C.ok h2) (chk_slice h2) (sE e C.ok h3) (by show PySem.swapsWith e' (some (.Subscript (.Name x q) ix' r)) p.line X.env = pure false; cases e' <;> rfl) (by cases e' <;> rfl) (chk_asn h2)
  | .aug i o e, c, X, W, st, C, h => by
    obtain ⟨x, q, e', p, rfl, h1, h2⟩ := chkS_inv h
    exact ss_aug C h1 (sE e C.ok h2)
  | .pag i ix o e, c, X, W, st, C, h => by
    obtain ⟨x, q, ix', r, e', p, rfl, h1, h2, h3⟩ := chkS_inv h
    exact ss_pag C h1 (sE ix C.ok h2) (sE e C.ok h3) (chk_aug h2)
  | .app i e, c, X, W, st, C, h => by
    obtain ⟨x, q, r, e', cp, p, rfl, h1, h2, h3⟩ := chkS_inv h
    exact ss_app C h1 rfl h2 h3 (sE e C.ok h2)
  | .pat i ks d d2, c, X, W, st, C, h => by
    obtain ⟨r, k, j, q, k2, j2, q2, kt, pt, ap, cp, p, rfl, h1, h2, h3, h4⟩ := chkS_inv h
    exact ss_pat C h1 h2 h3 h4
  | .pap i ks d, c, X, W, st, C, h => by
    obtain ⟨r, k, j, q, ap, cp, p, rfl, h1, h2, h3⟩ := chkS_inv h
    exact ss_pap C h1 h2 h3
  | .ins i e, c, X, W, st, C, h => by
    obtain ⟨x, q, r, kz, kp, e', cp, p, rfl, h1, h2, h3⟩ := chkS_inv h
    exact ss_ins C h1 h2 h3 (sE e C.ok h2)
  | .ext i e, c, X, W, st, C, h => by
    obtain ⟨x, q, r, e', cp, p, rfl, h1, h2, h3⟩ := chkS_inv h
    exact ss_ext C h1 h2 h3 (sE e C.ok h2)
  | .fpa j i ks k2 d, c, X, W, st, C, h => by
    have hot := chkS_cold h rfl
    obtain ⟨y, q0, r, r2, k, kj, q, ap, cp, p, p2, rfl, h1, h2, h3, h4, h5⟩ := chkS_inv h
    exact ss_fpa C hot h1 h2 h3 h4 h5
  | .psa i ix e j e2, c, X, W, st, C, h => by
    have hot := chkS_cold h rfl
    obtain ⟨x, q, ix', r, y, r2, kt, pt, e', e2', kv, pv, p, rfl, h1, h2, h3, h4, h5, h6⟩ := chkS_inv h
    have hsc : X.env.scope = c.sc := C.ok.sc
    exact ss_psa C hot h1 h3 (sE ix C.ok h2) (sE e C.ok h4) h4 (sE e2 C.ok h5) h5 (sw_of C.bk (by rw [hsc]; exact h6)) (chk_asn h2)
  | .exp e, c, X, W, st, C, h => by
    obtain ⟨e', p, rfl, h1, h2⟩ := chkS_inv h
    exact ss_exp (sE e C.ok h1) (chk_sw h1 h2)
  | .ite d a b, c, X, W, st, C, h => by
    obtain ⟨d', a', b', p, rfl, h1, h2, h3⟩ := chkS_inv h
    exact ss_ite (sT d C.ok h1) (sSs a C h2) (sSs b C h3)
  | .for_ t it b, c, X, W, st, C, h => by
    have hot := chkS_cold h rfl
    obtain ⟨t', it', b', p, rfl, h1, h2, h3, h4, h5⟩ := chkS_inv h
    exact ss_for C hot (sI it C.ok h2 h4) (sG t C.ok h1) (sSs b C h5) h3
  | .whl d b, c, X, W, st, C, h => by
    obtain ⟨d', b', p, rfl, h1, h2⟩ := chkS_inv h
    exact ss_whl C (sT d C.ok h1) (sSs b C h2)
  | .ret e, c, X, W, st, C, h => by
    obtain ⟨e', p, rfl, h1⟩ := chkS_inv h
    exact ss_ret (sE e C.ok h1)
  | .rtn, c, X, W, st, C, h => by
    obtain ⟨p, rfl⟩ := chkS_inv h
    exact ss_rtn
  | .brk, c, X, W, st, C, h => by
    obtain ⟨p, rfl⟩ := chkS_inv h
    exact ss_brk
  | .cnt, c, X, W, st, C, h => by
    obtain ⟨p, rfl⟩ := chkS_inv h
    exact ss_cnt
  | .pas, c, X, W, st, C, h => by
    obtain ⟨p, rfl⟩ := chkS_inv h
    exact ss_pas
  | .rs0 k e, c, X, W, st, C, h => by
    have hot := chkS_cold h rfl
    obtain ⟨e', q, p, p2, rfl, h1, h2, h3, h4⟩ := chk_rs0 h
    exact ss_rs0 C hot h1 h2 h3 h4 (sE e C.ok h4)
  | .rs1 k f e, c, X, W, st, C, h => by
    have hot := chkS_cold h rfl
    obtain ⟨e', q, p, p2, rfl, h1, h2, h3, h4⟩ := chk_rs1 h
    exact ss_rs1 C hot h1 h2 h3 h4 (sE e C.ok h4)
  | .try_ b hs, c, X, W, st, C, h => by
    obtain ⟨b', h0, hs', p, rfl, h1, h2⟩ := chk_try h
    obtain ⟨l, k1, k2⟩ := sHs hs C h2
    exact ss_try C (fun W' pn xe C' => sSs b C' h1) k1 k2
theorem sHs : ∀ (hs : Hs) {c : SC} {X : Cx} {W : WX} {hs' : List PySem.ExceptHandler}, Dok L c X W → chkHs c hs hs' = true → ∃ l, HdsD X hs' l ∧ HsRead L me X W hs l
  | .nil, c, X, W, hs', C, h => by
    rw [chkHs_nil h]
    exact ⟨[], .nil, hs_nil⟩
  | .cons k none b hs, c, X, W, hs', C, h => by
    obtain ⟨r, b0, b', p, n, hs2, rfl, g1, g2, h3, h4, h5⟩ := chkHs_cons h
    obtain ⟨l, k1, k2⟩ := sHs hs C h4
    obtain ⟨D, hD⟩ := C.ok.xw.at_ k g2
    obtain ⟨g3, g4⟩ := C.ok.glob g1
    have o := C.ok.xw.one k D hD
    have hsu : ∀ (a : Addr) (cls : Value) (d : Option Addr) (pn : List (Addr × PySem.Obj)), PSs (X.suite a pn) (b0 :: b') ((fun _ _ => tSs (sigOf L me) X.mg (fun _ _ _ _ => False) b : Value → Option Addr → TS) cls d) := fun a cls d pn => sSs b (C.inSuite (a := a) (pn := pn)) h3
    have h5' : n = none := h5
    rw [h5']
    exact ⟨_, .cons ⟨g3, g4, .inl o.gC⟩ hsu k1, hs_cons C hD k2⟩
  | .cons k (some i) b hs, c, X, W, hs', C, h => by
    obtain ⟨r, b0, b', p, n, hs2, rfl, g1, g2, h3, h4, h5⟩ := chkHs_cons h
    obtain ⟨l, k1, k2⟩ := sHs hs C h4
    obtain ⟨D, hD⟩ := C.ok.xw.at_ k g2
    obtain ⟨g3, g4⟩ := C.ok.glob g1
    have o := C.ok.xw.one k D hD
    have hsu : ∀ (a : Addr) (cls : Value) (d : Option Addr) (pn : List (Addr × PySem.Obj)), PSs (X.suite a pn) (b0 :: b') ((fun _ _ => tSs (sigOf L me) X.mg (fun _ _ _ _ => False) b : Value → Option Addr → TS) cls d) := fun a cls d pn => sSs b (C.inSuite (a := a) (pn := pn)) h3
    obtain ⟨x, e, h6, h7⟩ := h5
    rw [e]
    exact ⟨_, .consN C.ok.nd (by rw [C.ok.N]; exact h6) (by show X.env.scope.names.lookup x = _; rw [C.ok.sc]; exact h7) ⟨g3, g4, .inl o.gC⟩ hsu k1, hs_cons C hD k2⟩
theorem sSs : ∀ (a : Ss) {c : SC} {X : Cx} {W : WX} {st : List Stmt}, Dok L c X W → chkSs c a st = true → PSs X st (tSs (sigOf L me) X.mg W a)
  | .nil, c, X, W, st, C, h => by
    rw [chkSs_nil h]
    exact sss_nil
  | .cons a as, c, X, W, st, C, h => by
    obtain ⟨b, bs, rfl, h1, h2⟩ := chkSs_cons h
    exact sss_cons (sS a C h1) (sSs as C h2)
end
end
end DP

/-! DpW: a def by its body. -/
namespace DP
open PySem (Addr sizeLine wpAny model Value Shared Around FuncData BindsTo codeAny Str Paired Expr Stmt Scope World Program)
open PySem.W (Frag)
open L2
variable [CT]

def meFrom : Nat → List Bool → List Nat
  | _, [] => []
  | k, true :: bs => k :: meFrom (k + 1) bs
  | k, false :: bs => meFrom (k + 1) bs
theorem meFrom_ge : ∀ {bs : List Bool} {k j : Nat}, j ∈ meFrom k bs → k ≤ j
  | [], k, j, h => by simp [meFrom] at h
  | true :: bs, k, j, h => by
    rcases List.mem_cons.mp (show j ∈ k :: meFrom (k + 1) bs from h) with rfl | h
    · exact Nat.le_refl _
    · exact Nat.le_of_succ_le (meFrom_ge h)
  | false :: bs, k, j, h => Nat.le_of_succ_le (meFrom_ge (show j ∈ meFrom (k + 1) bs from h))
theorem meFrom_nd : ∀ {bs : List Bool} {k : Nat}, (meFrom k bs).Nodup
  | [], k => List.nodup_nil
  | true :: bs, k => List.nodup_cons.mpr ⟨fun h => absurd (meFrom_ge h) (by omega), meFrom_nd⟩
  | false :: bs, k => meFrom_nd (bs := bs)
theorem me_start : ∀ {bs : List Bool} {vs : List V} {σ : St} {k : Nat}, bs.length ≤ vs.length → (∀ j, j < vs.length → σ[k + j]? = (vs[j]?).map some) → Paired (fun (i : Nat) (v : V) => σ[i]? = some (some v)) (meFrom k bs) (pick bs vs)
  | [], vs, σ, k, _, _ => by cases vs <;> exact .nil
  | true :: bs, [], σ, k, h, _ => by simp at h
  | false :: bs, [], σ, k, h, _ => by simp at h
  | true :: bs, v :: vs, σ, k, h, hs => by
    refine .cons (by have := hs 0 (by simp); simpa using this) (me_start (k := k + 1) (by simpa using h) fun j hj => ?_)
    have := hs (j + 1) (by simpa using hj)
    rw [show k + 1 + j = k + (j + 1) by omega, this]; simp
  | false :: bs, v :: vs, σ, k, h, hs => by
    refine me_start (k := k + 1) (by simpa using h) fun j hj => ?_
    have := hs (j + 1) (by simpa using hj)
    rw [show k + 1 + j = k + (j + 1) by omega, this]; simp
theorem Paired.impM {α β : Type} {R R' : α → β → Prop} {l : List α} {m : List β} (h : Paired R l m) (k : ∀ a ∈ l, ∀ b, R a b → R' a b) : Paired R' l m := by
  induction h with
  | nil => exact .nil
  | cons r _ ih => exact .cons (k _ List.mem_cons_self _ r) (ih fun a ha => k a (List.mem_cons_of_mem _ ha))
theorem outs_set {env : Env} {i : Nat} {a : Option D} : ∀ {is : List Nat}, i ∉ is → outsOf (env.set i a) is = outsOf env is
  | [], _ => rfl
  | j :: is, h => by
    have h1 : i ≠ j := fun z => h (by simp [z])
    have h2 : i ∉ is := fun z => h (by simp [z])
    unfold outsOf
    rw [List.getElem?_set_ne h1, outs_set h2]
theorem outs_sim {F : Hp} {σ : St} : ∀ {is : List Nat} {us : List V} {env : Env} {O : Own} {o : List D}, is.Nodup → SimE F env σ O → outsOf env is = some o → Paired (fun (i : Nat) (v : V) => σ[i]? = some (some v)) is us → ∃ Oo Z, RepL F o us Oo ∧ O.Perm (Oo ++ Z)
  | [], _, env, O, o, _, s, e, .nil => by
    cases e
    exact ⟨[], O, .nil, by simp⟩
  | i :: is, u :: us, env, O, o, nd, s, e, .cons p ps => by
    obtain ⟨n1, n2⟩ := List.nodup_cons.mp nd
    unfold outsOf at e
    split at e
    · rename_i d hd
      obtain ⟨v, A, B, k1, k2, k3, k4⟩ := s.take hd
      rw [p] at k1; cases k1
      cases q : outsOf env is with
      | none => rw [q] at e; cases e
      | some o' =>
        rw [q] at e; cases e
        obtain ⟨Oo, Z, h1, h2⟩ := outs_sim n2 k3 (by rw [outs_set n1]; exact q) ps
        exact ⟨A ++ Oo, Z, .cons k2 h1, k4.trans (by rw [List.append_assoc]; exact List.Perm.append_left A h2)⟩
    · cases e
theorem start_sim {F : Hp} : ∀ {ds : List D} {vs : List V} {O : Own} {m : Nat} {l : List String}, RepL F ds vs O → l.length = m → SimE F (ds.map some ++ l.map fun _ => none) (vs.map some ++ List.replicate m none) O
  | [], [], _, m, l, .nil, h => by
    subst h
    induction l with
    | nil => exact .nil
    | cons x l ih => exact .no none ih
  | d :: ds, v :: vs, _, m, l, .cons a b, h => .yes a (start_sim b h)
/-- the local names of a def's scope stand where chk says -/
def lookOk (L : List Ent) (c : SC) : Bool := (c.kws.all fun q => match look L q.1 with | some e => decide (q.2 ∈ e.kws) | none => false) && (c.fns.all fun q => match look L q.1 with | some e => decide (e.ps.length = q.2) | none => false)
theorem lookOk_kw {L : List Ent} {c : SC} (h : lookOk L c = true) : (∀ q ∈ c.kws, ∃ e, look L q.1 = some e ∧ q.2 ∈ e.kws) ∧ ∀ q ∈ c.fns, ∃ e, look L q.1 = some e ∧ e.ps.length = q.2 := by
  unfold lookOk at h
  simp only [Bool.and_eq_true, List.all_eq_true] at h
  refine ⟨fun q hq => ?_, fun q hq => ?_⟩
  · have := h.1 q hq
    split at this
    · rename_i e he; exact ⟨e, he, by simpa using this⟩
    · cases this
  · have := h.2 q hq
    split at this
    · rename_i e he; exact ⟨e, he, by simpa using this⟩
    · cases this
/-- what a def's body needs of the place it stands at -/
structure DefOk (L : List Ent) (c : SC) (fd : FD) (ios : List Bool) (ps : List Str) (scope : Scope) (body : List Stmt) : Prop where
  S : FnScope c.N ps scope
  sc : c.sc = scope
  st : c.st = scope
  len : fd.ps.length = ps.length ∧ c.N.length = fd.ps.length + fd.loc.length ∧ ios.length ≤ fd.ps.length
  lk : lookOk L c = true
  chk : chkSs c fd.body body = true
  cold : c.hot = false

theorem fnG_of {P : Program} {w : World} {K : Frag} {mg : Str → Option Value} {base : PySem.Heap} {k : Nat} {f : Addr} {name qual : Str} {params : PySem.Arguments} {body : List Stmt} {scope : Scope} {dV kV doc pm cdv ct oc : Value} {an od : Option Addr}
    {osl : Array (Option Value)} {L : List Ent} {c : SC} {fd : FD} {ios : List Bool} {ps : List Str} {sp : FSpec} (lk : K.lookup f = some ⟨oc, od, .func (PySem.W.fnOf name qual params body scope dV kV doc pm an cdv ct), osl⟩) (hcd : PySem.W.codeIn K cdv qual = true)
    (ok : DefOk L c fd ios ps scope body) (k2 : 2 ≤ k) (wd : Wd L c.gl c.cls P w K mg base k) (spec : ∀ ds Qd Rd, ds.length = fd.ps.length → sp ds Qd Rd → wpF (sigOf L (meFrom 0 ios)) fd ds Qd Rd) :
    FnG P w K mg base (k + 1) f (PySem.W.fnOf name qual params body scope dV kV doc pm an cdv ct) ps.length ps (spM mg ps.length ios sp) := by
  have lenSp : ∀ vs H Q E, spM mg ps.length ios sp vs H Q E → vs.length = ps.length := fun vs H Q E ⟨ds, F, O, Qd, Rd, r, _, l, _⟩ => by rw [← r.len]; exact l
  refine ⟨lenSp, fun A outer s H args us vs Q E hgu room e0 bd rv hsp => ?_⟩
  have vl := lenSp _ _ _ _ hsp
  have KI : K.In s.heap := e0.mod.kin.keeps fun b o e => (e0.bs b o e).1
  have lims : s.heap.NoLimit := e0.mod.nolimit.keeps fun b o e => (e0.bs b o e).1
  have kinds : ∀ y ∈ ps.zip us, scope.names.lookup y.1 = some .local ∨ (scope.names.lookup y.1 = some .cell ∧ ((PySem.cellsFrom (s.heap.objs.size + 1) scope.names []).lookup y.1).isSome = true) := fun y hy => by
    obtain ⟨n, v⟩ := y
    exact (ok.S.par n (List.of_mem_zip hy).1).imp id fun q => ⟨q, PySem.W.cellsFrom_some _ _ _ (.inl q)⟩
  refine PySem.codeAny_call_function room.depth (KI _ _ lk) rfl ok.S.co ok.S.gen rfl (PySem.W.codeRec_of KI hcd) (bd _ _ _ _ ?_)
  refine PySem.wpAny_newFunctionEnv_cells ok.S.kind kinds fun env he s1 x => ?_
  subst he
  refine ⟨lims.keeps x.toInCall.keep, PySem.codeAny_func ?_⟩
  let X : Cx := cxOf (L2.CX P w) P w K mg base c.N qual scope f cdv A outer s H E
  have I : Inv X [] (start c.N vs) H s1 := inv_start ok.S room.hd e0 vl rv x
  have rm : Room k X.A := room.deeper _
  let W : WX := fun cls d _ H => E cls d H
  have cok : Cok L c X W := by
    refine ⟨rfl, ok.sc.symm, ok.S.nd, fun _ => rfl, fun y hy => ?_, hgu, by have := rm.un; omega, takes_of rfl rfl rfl rfl, (lookOk_kw ok.lk).1, (lookOk_kw ok.lk).2, ⟨k, fun _ => rm, k2, wd⟩⟩
    rw [ok.st] at hy
    exact ⟨hy, .inl rfl⟩
  have bk : X.env.blockKind = .function := by
    show (if scope.kind.isAnnotationScope then _ else scope.kind) = _
    rw [ok.S.kind]; rfl
  have dok : Dok L c X W := ⟨cok, passes_of rfl, bk, rfl, rfl, rfl⟩
  obtain ⟨ds, F, O, Qd, Rd, r, hh, hl, hs, kr, kx⟩ := hsp
  have w0 := spec ds Qd Rd (by rw [hl, ok.len.1]) hs
  have sim : SimE F (startE fd ds) (start c.N vs) O := start_sim r (by rw [ok.len.2.1, ← r.len, hl, ok.len.1]; omega)
  have mePair : Paired (fun (i : Nat) (v : V) => (start c.N vs)[i]? = some (some v)) (meFrom 0 ios) (pick ios vs) := by
    refine me_start (by rw [vl, ← ok.len.1]; exact ok.len.2.2) fun j hj => ?_
    unfold start
    rw [Nat.zero_add, List.getElem?_append_left (by rw [List.length_map]; exact hj), List.getElem?_map]
  let Dn : Ends := { nx := fun _ H' => Q .non H', rt := Q }
  have fin : ∀ {d : D} {env' : Env}, (∃ o, outsOf env' (meFrom 0 ios) = some o ∧ Qd d o) → ∀ {F' : Hp} {Od Oe : Own} {σ' : St} {v : V} {H' : Hp}, Next F O H F' (Od ++ Oe) H' → Rep F' d v Od → SimE F' env' σ' Oe → Mes (meFrom 0 ios) (start c.N vs) σ' → Q v H' := by
    intro d env' ⟨o, e, q⟩ F' Od Oe σ' v H' n rd s' m
    obtain ⟨Oo, Z, h1, h2⟩ := outs_sim meFrom_nd s' e (Paired.impM mePair fun i hi u hu => by rw [m.2 i hi]; exact hu)
    refine kr d o q F' Od Oo v H' ?_ rd h1
    refine (n.perm (O'' := Z ++ (Od ++ Oo)) ?_).drop
    exact (List.Perm.append_left Od (h2.trans List.perm_append_comm)).trans perm3
  have rd : tSs (sigOf L (meFrom 0 ios)) X.mg W fd.body Dn (start c.N vs) H := by
    refine ⟨startE fd ds, F, O, _, sim, hh, w0, ⟨fun env' q F' O' σ' H' n s' m => ?_, fun d env' q F' Od Oe σ' v H' n rd s' m => fin q n rd s' m, fun env' q => q.elim, fun env' q => q.elim, fun x env' q F' O' σ' cls dd H' n s' m rep => kx x q F' O' cls dd H' n rep⟩⟩
    exact fin (d := .non) (Od := []) q n .non s' m
  refine PySem.wpAny_mono ((sSs fd.body dok ok.chk).run [] s1 (start c.N vs) H Dn I rd) (fun fl s' hq => ?_) fun e s' hq => hq
  have out : ∀ {σ' : St} {H' : Hp} {v : V} {u : Value}, Inv X [] σ' H' s' → RelV v u → Q v H' → CE outer P w H s Q u s' := fun {σ' H' v u} J a b => ⟨v, H', J.os, J.bare, J.base, J.hok, a, b⟩
  cases fl with
  | ret u =>
    obtain ⟨v, σ', H', J, a, b⟩ := hq
    exact out J a b
  | next =>
    obtain ⟨σ', H', J, b⟩ := hq
    exact out (v := V.non) (u := Value.none) J rfl b
  | brk => exact (hq.choose_spec.choose_spec.2 : False).elim
  | cont => exact (hq.choose_spec.choose_spec.2 : False).elim
end DP

/-! DpX: the defs of a module, one by one; the end of a law. -/
namespace DP
open PySem (Addr sizeLine wpAny model Value Shared Around FuncData BindsTo codeAny Str Paired Expr Stmt Scope World Program mainGlobals)
open PySem.W (Frag)
open L2
variable [CT]

/-- a def of the text stands behind the top by its name -/
def AtK (K : Frag) (nm : Str) (st : Stmt) : Prop := ∃ (f : Addr) (oc : Value) (od : Option Addr) (kV doc pm : Value) (an : Option Addr) (cdv ct : Value) (osl : Array (Option Value)),
  PySem.W.nsIn K mainGlobals nm = some (some (.ref f)) ∧ K.lookup f = some ⟨oc, od, .func (PySem.W.fnOf nm nm (defArgs st) (defBody st) (defScope st) .none kV doc pm an cdv ct), osl⟩ ∧ PySem.W.codeIn K cdv nm = true ∧ PySem.W.keepIn K (.ref f) = true
/-- its parameters are given by position -/
def BindPos (nm : Str) (st : Stmt) (ps : List Str) : Prop := ∀ (kV doc pm : Value) (an : Option Addr) (cdv ct : Value) (us : List Value), us.length = ps.length →
  PySem.bindArgs (PySem.W.fnOf nm nm (defArgs st) (defBody st) (defScope st) .none kV doc pm an cdv ct) ⟨us, []⟩ = pure (ps.zip us)
/-- .. or the last ones by name -/
def BindKw (nm : Str) (st : Stmt) (ps : List String) (kw : Nat × List String) : Prop := ∃ ix, kwIx ps kw.2 kw.1 = some ix ∧ ix.length = ps.length ∧ (∀ j ∈ ix, j < kw.1 + kw.2.length) ∧ ∀ (kV doc pm : Value) (an : Option Addr) (cdv ct : Value) (us ws : List Value), us.length = kw.1 → ws.length = kw.2.length →
  PySem.bindArgs (PySem.W.fnOf nm nm (defArgs st) (defBody st) (defScope st) .none kV doc pm an cdv ct) ⟨us, (kw.2.map Str.ofString).zip ws⟩ = pure ((ps.map Str.ofString).zip (atAll (us ++ ws) ix))

theorem KnE.mono {P : Program} {w : World} {K : Frag} {mg : Str → Option Value} {base : PySem.Heap} {j k : Nat} {e : Ent} (h : KnE P w K mg base j e) (l : j ≤ k) : KnE P w K mg base k e := by
  obtain ⟨a, fd, h1, h2, h3, h4, h5⟩ := h.ok
  exact ⟨⟨a, fd, h1, h2, h3.mono l, h4, h5⟩⟩
theorem Wd.snoc {L : List Ent} {gl : List (String × D)} {cl : List String} {P : Program} {w : World} {K : Frag} {mg : Str → Option Value} {base : PySem.Heap} {k : Nat} {e : Ent} (h : Wd L gl cl P w K mg base k) (q : KnE P w K mg base (k + 1) e) : Wd (L ++ [e]) gl cl P w K mg base (k + 1) := by
  refine ⟨fun x hx => ?_, h.bn, h.gl, h.xw⟩
  rcases List.mem_append.mp hx with hx | hx
  · exact (h.kn x hx).mono (Nat.le_succ k)
  · rw [List.mem_singleton.mp hx]; exact q
/-- the next def -/
theorem kn_of {P : Program} {w : World} {K : Frag} {mg : Str → Option Value} {base h : PySem.Heap} {k : Nat} {L : List Ent} {gl : List (String × D)} {cl : List String} {c : SC} {fd : FD} {e : Ent} {st : Stmt} (KX : K.In h) (G : h.Ns mainGlobals mg) (hat : AtK K (Str.ofString e.nm) st)
    (hb : BindPos (Str.ofString e.nm) st (e.ps.map Str.ofString)) (hk : ∀ kw ∈ e.kws, BindKw (Str.ofString e.nm) st e.ps kw) (hgl : c.gl = gl) (hcl : c.cls = cl) (hps : fd.ps = e.ps) (ok : DefOk L c fd e.ios (e.ps.map Str.ofString) (defScope st) (defBody st)) (k2 : 2 ≤ k) (wd : Wd L gl cl P w K mg base k)
    (spec : ∀ ds Qd Rd, ds.length = fd.ps.length → e.sp ds Qd Rd → wpF (sigOf L (meFrom 0 e.ios)) fd ds Qd Rd) : KnE P w K mg base (k + 1) e := by
  obtain ⟨f, oc, od, kV, doc, pm, an, cdv, ct, osl, a1, l1, c1, k1⟩ := hat
  subst hgl hcl
  have F := fnG_of l1 c1 ok k2 wd spec
  rw [List.length_map] at F
  refine ⟨f, _, PySem.W.mg_of KX G a1, k1, F, fun s us hl => .of_eq (hb kV doc pm an cdv ct us (by rw [List.length_map]; exact hl)), fun kw hkw => ?_⟩
  obtain ⟨ix, i1, i2, i3, i4⟩ := hk kw hkw
  exact ⟨ix, i1, i2, i3, fun s us ws l1 l2 => .of_eq (i4 kV doc pm an cdv ct us ws l1 l2)⟩

omit [CT] in
theorem mem_lk {α β : Type} [BEq α] [LawfulBEq α] {a : α} {b : β} : ∀ {l : List (α × β)}, l.lookup a = some b → (a, b) ∈ l
  | [], h => by cases h
  | (x, y) :: l, h => by
    rw [List.lookup_cons] at h
    cases q : a == x with
    | true =>
      rw [q] at h
      cases h
      rw [eq_of_beq q]
      exact List.mem_cons_self
    | false =>
      rw [q] at h
      exact List.mem_cons_of_mem _ (mem_lk h)
/-- no object of K is a list -/
def noLst (K : Frag) : Prop := ∀ (a : Addr) (o : PySem.Obj), K.lookup a = some o → o.cls ≠ .type "list"
omit [CT] in
theorem noLst_by {K : Frag} (h : (K.all fun p => !(p.2.cls == .type "list")) = true) : noLst K := fun a o e z => by
  have m : (a, o) ∈ K := mem_lk e
  have := List.all_eq_true.mp h (a, o) m
  simp [z] at this

/-- the head, from the law's promise over data -/
theorem law_callG {P : Program} {w : World} {K : Frag} {mg mb : Str → Option Value} {k n : Nat} {fa a : Addr} {fd : FuncData} {x : Str} {sp : FSpec} {s₁ : Shared} {vs : List Value} {ns : List Int}
    (KI : K.In s₁.heap) (hns : s₁.heap.Ns mainGlobals mg) (hb : s₁.heap.Ns PySem.builtinsNs mb) (hbb : ∀ x : Str, x ≠ "__name__" → mb x = PySem.bootBuiltins x) (hlim : s₁.heap.NoLimit) (hg : s₁.gens = #[])
    (ha : s₁.heap.get? a = some { cls := .type "list", data := .seq vs.toArray }) (hi : PyProof.Rows.IntsAre vs ns) (hl : ns.length ≤ sizeLine) (hr : Room k PySem.callerA) (hnl : noLst K)
    (F : ∀ base : PySem.Heap, K.In base → base.Ns mainGlobals mg → FnG P w K mg base k fa fd 1 [x] (spM mg 1 [] sp)) (hbind : ∀ (s : Shared) (u : Value), BindsTo s fd ⟨[u], []⟩ [(x, u)])
    (hsp : sp [.lst false (ns.map .int)] (fun r _ => r = .bl true) fun _ => False) :
    codeAny (model P w) PySem.callerA (.call (.ref fa) ⟨[.ref a], []⟩) (fun r s' => r = .ok (.ret (.bool true)) ∧ PySem.OldK s₁.heap s'.heap ∧ s'.os = s₁.os ∧ PyProof.Rows.AllBare s'.gens) s₁ := by
  have rv := vals_ints hi
  have hk : K.lookup a = none := by
    cases q : K.lookup a with
    | none => rfl
    | some o =>
      have e := KI a o q
      rw [ha] at e
      cases e
      exact absurd rfl (hnl a _ q)
  obtain ⟨ob, hob⟩ : ∃ ob : PySem.Obj, ob = { cls := .type "list", data := .seq vs.toArray } := ⟨_, rfl⟩
  obtain ⟨H, hH⟩ : ∃ H : Hp, H = fun b => if b = a then some (.frz ob (.lst (ns.map V.int))) else none := ⟨_, rfl⟩
  have Ha : H a = some (.frz ob (.lst (ns.map V.int))) := by rw [hH]; exact if_pos rfl
  have Hb : ∀ b, b ≠ a → H b = none := fun b hb => by rw [hH]; exact if_neg hb
  have one : ∀ {b : Addr} {u : HO}, H b = some u → b = a ∧ u = .frz ob (.lst (ns.map V.int)) := fun {b u} e => by
    by_cases q : b = a
    · subst q; rw [Ha] at e; cases e; exact ⟨rfl, rfl⟩
    · rw [Hb b q] at e; cases e
  have hok : HOk P w H s₁.heap := fun b u e => by
    obtain ⟨rfl, rfl⟩ := one e
    subst hob
    exact ⟨ha, by rw [List.length_map]; exact hl, vs, _, rv, ha⟩
  have nd : ∀ {b : Addr} {o : PySem.Obj} {es : Array PySem.DictEntry} {ep : Nat}, s₁.heap.get? b = some o → o.data = .dict es ep → H b = none := fun {b o es ep} e d => by
    by_cases q : b = a
    · subst q
      rw [ha] at e; cases e
      have d' : PySem.Data.seq vs.toArray _ = PySem.Data.dict es ep := d
      cases d'
    · exact Hb b q
  have ns1 : ∀ {b : Addr} {m : Str → Option Value}, s₁.heap.Ns b m → (hidT s₁.heap H).Ns b m := fun {b m} ⟨o, es, ep, e, d, r⟩ => ⟨o, es, ep, hidT_get e (nd e d), d, r⟩
  have KB : K.In (hidT s₁.heap H) := fun b o e => hidT_get (KI b o e) (Hb b fun q => by rw [q, hk] at e; cases e)
  have md : Mod K mg (hidT s₁.heap H) := ⟨KB, ns1 hns, ⟨mb, ns1 hb, hbb⟩, hlim.imp fun mc ⟨h1, h2⟩ => ⟨ns1 h1, h2⟩⟩
  have e0 : Env0 P w K mg (hidT s₁.heap H) PySem.callerA [] s₁ H := ⟨rfl, md, fun b o e => of_hidT e, Nat.le_of_eq (hidT_size _ _), trivial, fun b hb => absurd (show b ∈ ([] : List Addr) from hb) (by simp), hok, .of_eq hg⟩
  have rep : RepL H [.lst false (ns.map .int)] [.ref a] [] := RepL.cons (O1 := []) (O2 := []) (.fro (.inr ⟨ob, Ha⟩) (repL_ints ns)) .nil
  have hd : Held H [] H := ⟨Sub.refl _, fun p hp => by simp at hp, List.nodup_nil, fun b hb => by simp at hb⟩
  have wish : spM mg 1 [] sp [.ref a] H (fun v _ => v = .bl true) (fun _ _ _ => False) := by
    refine ⟨_, H, [], _, _, rep, hd, rfl, hsp, fun r outs hq F' Or Oo v H' n3 r3 _ => ?_, fun x hx => hx.elim⟩
    subst hq
    exact r3.blI.1
  refine PySem.codeAny_mono ((F _ KB (ns1 hns)).run PySem.callerA [] s₁ H ⟨[.ref a], []⟩ [.ref a] [.ref a] _ _ rfl hr e0 (hbind s₁ (.ref a)) (.cons rfl .nil) wish) fun r s' h => ?_
  cases r with
  | error e =>
    obtain ⟨_, _, _, _, _, _, _, _, _, _, _, _, z⟩ := h
    exact z.elim
  | ok fl =>
    cases fl with
    | next => exact False.elim h
    | brk => exact False.elim h
    | cont => exact False.elim h
    | ret u =>
      obtain ⟨v, H', os, bare, un, hok', r', q⟩ := h
      have q' : v = .bl true := q
      subst q'
      obtain rfl : u = Value.bool true := r'
      refine ⟨rfl, PySem.OldK.of_keep fun b o e => ?_, os, bare⟩
      by_cases qb : b = a
      · subst qb
        have z := un.frzs b ob _ Ha
        obtain ⟨e2, _⟩ := hok' b _ z
        rw [ha] at e; cases e
        rw [← hob]; exact e2
      · exact un.keep b o e (Hb b qb) (fun z => absurd (show b ∈ ([] : List Addr) from z) (by simp)) (by simp)
/-- what is had of a law's module -/
def LawG (P : Program) (w : World) (K : Frag) (mg : Str → Option Value) (k n : Nat) (fa : Addr) : Prop := noLst K ∧ ∃ (fd : FuncData) (x : Str) (sp : FSpec), (∀ (s : Shared) (u : Value), BindsTo s fd ⟨[u], []⟩ [(x, u)]) ∧
  (∀ base : PySem.Heap, K.In base → base.Ns mainGlobals mg → FnG P w K mg base k fa fd 1 [x] (spM mg 1 [] sp)) ∧
  ∀ ns : List Int, ns.length ≤ n → (∀ z ∈ ns, PySem.Builtin.Int.intBits z ≤ 1048576) → sp [.lst false (ns.map .int)] (fun r _ => r = .bl true) fun _ => False
omit [CT] in
theorem walk_ofG {l : PySem.W.OpenLaw} {n k : Nat} {q : Program} {loose : List Str} {XP : (Str → Option Value) → PySem.Heap → Prop} {YP : World → PySem.Heap → Prop} {d : PySem.DefRec} {K : PySem.Params → Frag}
    (hn : l.most = some n) (hn2 : n ≤ sizeLine) (hdf : d.params.defaults = []) (hr : Room k PySem.callerA) (hY : ∀ (w : World) (h : PySem.Heap), YP w h → (K w.params).In h)
    (F : ∀ (w : World) (mg : Str → Option Value) (fa : Addr) (h : PySem.Heap), (K w.params).In h → h.Ns mainGlobals mg → mg d.name = some (.ref fa) → ∃ ct : CT, @LawG ct l.prog w (K w.params) mg k n fa) :
    PySem.W.WalkO q loose XP YP l.row.toRowW d [] (fun f vs => PySem.call f vs) := by
  refine Att.attach_callB hn hdf fun w s₀ s₁ mg mb fa o pm cd doc a vs ns G Y ho hd hcd hmg hobj hints hlen hbits hg => ?_
  have KI := hY w _ Y
  obtain ⟨ct, hnl, fd, x, sp, hb, hF, hs⟩ := F w mg fa _ KI G.T.g hmg
  exact law_callG (n := n) KI G.T.g G.T.b G.T.builtins G.T.nolimit hg hobj hints (Nat.le_trans hlen hn2) hr hnl hF hb (hs ns hlen hbits)
/-- the law itself, the last def -/
theorem law_of {P : Program} {w : World} {K : Frag} {mg : Str → Option Value} {h : PySem.Heap} {k n : Nat} {L : List Ent} {gl : List (String × D)} {cl : List String} {c : SC} {fd : FD} {fa : Addr} {nm : Str} {x : String} {st : Stmt} {sp : FSpec} (hnl : noLst K) (KX : K.In h) (G : h.Ns mainGlobals mg) (hfa : mg nm = some (.ref fa))
    (hat : AtK K nm st) (hb : BindPos nm st [Str.ofString x]) (hgl : c.gl = gl) (hcl : c.cls = cl) (ok : DefOk L c fd [] [Str.ofString x] (defScope st) (defBody st)) (k2 : 2 ≤ k) (wd : ∀ base : PySem.Heap, K.In base → base.Ns mainGlobals mg → Wd L gl cl P w K mg base k)
    (spec : ∀ ds Qd Rd, ds.length = fd.ps.length → sp ds Qd Rd → wpF (sigOf L []) fd ds Qd Rd)
    (hs : ∀ ns : List Int, ns.length ≤ n → (∀ z ∈ ns, PySem.Builtin.Int.intBits z ≤ 1048576) → sp [.lst false (ns.map .int)] (fun r _ => r = .bl true) fun _ => False) : LawG P w K mg (k + 1) n fa := by
  obtain ⟨f, oc, od, kV, doc, pm, an, cdv, ct, osl, a1, l1, c1, k1⟩ := hat
  have e := hfa.symm.trans (PySem.W.mg_of KX G a1)
  cases e
  subst hgl hcl
  exact ⟨hnl, _, Str.ofString x, sp, fun s u => .of_eq (hb kV doc pm an cdv ct [u] rfl), fun base h1 h2 => fnG_of l1 c1 ok k2 (wd base h1 h2) spec, hs⟩
end DP

/-! DpY: plain facts for the defs' proofs over data. -/
namespace DP
open PySem (sizeLine Str)

/-- a loop, by what holds ahead of the items that are left -/
theorem forD {items : List D} {env : Env} {step : D → (Env → Prop) → Env → Prop} {fin : Env → Prop} (Inv : List D → Env → Prop) (h0 : Inv items env) (hd : ∀ e, Inv [] e → fin e)
    (hs : ∀ x xs e (k : Env → Prop), Inv (x :: xs) e → (∀ e', Inv xs e' → k e') → step x k e) : items.foldr step fin env := by
  induction items generalizing env with
  | nil => exact hd env h0
  | cons x xs ih => exact hs x xs env _ h0 fun e' h => ih h
/-- .. with nothing else of what is behind it in sight -/
theorem forDK {Γ : Sig} {t : T} {b : Ss} {K : Con} {items : List D} {env : Env} (Inv : List D → Env → Prop) (h0 : Inv items env) (hd : ∀ e, Inv [] e → K.nx e)
    (hs : ∀ x xs e (k bk : Env → Prop), Inv (x :: xs) e → (∀ e', Inv xs e' → k e') → (∀ e', K.nx e' → bk e') → setT Γ.me t x e fun e2 => wpSs Γ b e2 { nx := k, rt := K.rt, bk := bk, ct := k, ex := K.ex }) : items.foldr (forStep Γ t b K) K.nx env :=
  forD Inv h0 hd fun x xs e k h hk => hs x xs e k K.nx h hk fun _ h => h
/-- a comprehension -/
theorem lcD {items : List D} {env : Env} {acc : List D} {step : D → (List D → Env → Prop) → List D → Env → Prop} {fin : List D → Env → Prop} (Inv : List D → List D → Env → Prop) (h0 : Inv items acc env) (hd : ∀ a e, Inv [] a e → fin a e)
    (hs : ∀ x xs a e (k : List D → Env → Prop), Inv (x :: xs) a e → (∀ a' e', Inv xs a' e' → k a' e') → step x k a e) : items.foldr step fin acc env := by
  induction items generalizing env acc with
  | nil => exact hd acc env h0
  | cons x xs ih => exact hs x xs acc env _ h0 fun a' e' h => ih h
/-- what is known of a callee -/
structure Has (Γ : Sig) (f : String) (ios : List Bool) (sp : FSpec) : Prop where
  sp : Γ.sp f = sp
  io : Γ.ios f = ios

/-! ### equality of data -/
mutual
theorem eqv_refl : ∀ d : D, d.py.hasDict = false → PySem.PyData.eqv d.py d.py = true
  | .non, _ => rfl
  | .bl b, _ => by simp [D.py, PySem.PyData.eqv]
  | .int i, _ => by simp [D.py, PySem.PyData.eqv]
  | .str s, _ => by simp [D.py, PySem.PyData.eqv]
  | .tup xs, h => by simp only [D.py, PySem.PyData.eqv, eqvL_refl xs (by simpa only [D.py, PySem.PyData.hasDict] using h)]
  | .lst _ xs, h => by simp only [D.py, PySem.PyData.eqv, eqvL_refl xs (by simpa only [D.py, PySem.PyData.hasDict] using h)]
  | .exc _ _ _, h => by simp [D.py, badPy, PySem.PyData.hasDict] at h
  | .ins _ _ _ _, h => by simp [D.py, badPy, PySem.PyData.hasDict] at h
  | .dct _ ks xs, h => by
    rw [D.py] at h
    split at h <;> simp [badPy, PySem.PyData.hasDict] at h
theorem eqvL_refl : ∀ ds : List D, PySem.PyData.hasDictAll (pyL ds) = false → PySem.PyData.eqvAll (pyL ds) (pyL ds) = true
  | [], _ => rfl
  | x :: xs, h => by
    simp only [pyL, PySem.PyData.hasDictAll, Bool.or_eq_false_iff] at h
    simp only [pyL, PySem.PyData.eqvAll, eqv_refl x h.1, eqvL_refl xs h.2, Bool.and_self]
end
mutual
/-- no text in it; its depth is at most n -/
def plainD : Nat → D → Bool
  | _, .non => true
  | _, .bl _ => true
  | _, .int _ => true
  | _, .str _ => false
  | n + 1, .tup xs => plainL n xs
  | n + 1, .lst _ xs => plainL n xs
  | 0, .tup _ => false
  | 0, .lst _ _ => false
  | _, .exc _ _ _ => false
  | _, .dct _ _ _ => false
  | _, .ins _ _ _ _ => false
def plainL : Nat → List D → Bool
  | _, [] => true
  | n, x :: xs => plainD n x && plainL n xs
end
mutual
theorem plain_lay : ∀ (d : D) {n : Nat}, plainD n d = true → d.py.canLay0 = true ∧ d.py.depth ≤ n
  | .non, _, _ => ⟨rfl, Nat.zero_le _⟩
  | .bl _, _, _ => ⟨rfl, Nat.zero_le _⟩
  | .int _, _, _ => ⟨rfl, Nat.zero_le _⟩
  | .str _, n, h => by cases n <;> simp [plainD] at h
  | .exc _ _ _, n, h => by cases n <;> simp [plainD] at h
  | .dct _ _ _, n, h => by cases n <;> simp [plainD] at h
  | .ins _ _ _ _, n, h => by cases n <;> simp [plainD] at h
  | .tup xs, 0, h => by simp [plainD] at h
  | .lst _ xs, 0, h => by simp [plainD] at h
  | .tup xs, n + 1, h => by
    have q := plainL_lay xs (n := n) (by simpa [plainD] using h)
    exact ⟨by simp only [D.py, PySem.PyData.canLay0, q.1], by simp only [D.py, PySem.PyData.depth]; omega⟩
  | .lst _ xs, n + 1, h => by
    have q := plainL_lay xs (n := n) (by simpa [plainD] using h)
    exact ⟨by simp only [D.py, PySem.PyData.canLay0, q.1], by simp only [D.py, PySem.PyData.depth]; omega⟩
theorem plainL_lay : ∀ (ds : List D) {n : Nat}, plainL n ds = true → PySem.PyData.canLayAll0 (pyL ds) = true ∧ PySem.PyData.depthAll (pyL ds) ≤ n
  | [], _, _ => ⟨rfl, Nat.zero_le _⟩
  | x :: xs, n, h => by
    simp only [plainL, Bool.and_eq_true] at h
    have q1 := plain_lay x h.1
    have q2 := plainL_lay xs h.2
    exact ⟨by simp only [pyL, PySem.PyData.canLayAll0, q1.1, q2.1, Bool.and_self], by simp only [pyL, PySem.PyData.depthAll]; omega⟩
end
theorem shaped_of {d : D} (h : plainD 64 d = true) : PySem.SeqAt.shaped d.py = true := by
  have q := plain_lay d h
  unfold PySem.SeqAt.shaped
  rw [q.1, decide_eq_true q.2]; rfl
theorem eq_same {x y : D} {Q : Bool → Prop} (e : x.py = y.py) (h : plainD 64 x = true) (q : Q true) : eqD x y Q := by
  have g : eqG x y Q := by
    unfold eqG
    rw [← e]
    exact ⟨shaped_of h, shaped_of h, by rw [eqv_refl _ (shaped_nd (shaped_of h))]; exact q⟩
  cases x <;> first | exact g | simp [plainD] at h
theorem eq_int (i j : Int) (Q : Bool → Prop) : eqD (.int i) (.int j) Q = Q (decide (i = j)) := by
  show eqG (.int i) (.int j) Q = _
  unfold eqG
  have h : PySem.PyData.eqv (D.int i).py (D.int j).py = decide (i = j) := by simp [D.py, PySem.PyData.eqv, Bool.beq_eq_decide_eq]
  rw [h]
  exact propext ⟨fun q => q.2.2, fun q => ⟨shaped_of rfl, shaped_of rfl, q⟩⟩
theorem eq_bl (i j : Bool) (Q : Bool → Prop) : eqD (.bl i) (.bl j) Q = Q (decide (i = j)) := by
  show eqG (.bl i) (.bl j) Q = _
  unfold eqG
  have h : PySem.PyData.eqv (D.bl i).py (D.bl j).py = decide (i = j) := by simp [D.py, PySem.PyData.eqv, Bool.beq_eq_decide_eq]
  rw [h]
  exact propext ⟨fun q => q.2.2, fun q => ⟨shaped_of rfl, shaped_of rfl, q⟩⟩
theorem eq_str (i j : Str) (Q : Bool → Prop) : eqD (.str i) (.str j) Q = Q (decide (i = j)) := rfl
/-- data of other kinds: unequal -/
theorem eq_not {x y : D} {Q : Bool → Prop} (hx : plainD 64 x = true) (hy : plainD 64 y = true) (e : PySem.PyData.eqv x.py y.py = false) (q : Q false) : eqD x y Q := by
  have g : eqG x y Q := ⟨shaped_of hx, shaped_of hy, by rw [e]; exact q⟩
  cases x <;> first | exact g | simp [plainD] at hx
theorem cmp_same {x y : D} {Q : Bool → Prop} (e : x.py = y.py) (h : plainD 64 x = true) (q : Q true) : cmpD .eq x y Q := by
  show eqD x y Q
  exact eq_same e h q
theorem cmp_nsame {x y : D} {Q : Bool → Prop} (e : x.py = y.py) (h : plainD 64 x = true) (q : Q false) : cmpD .ne x y Q := by
  have g : eqD x y fun b => Q (!b) := eq_same e h q
  cases x <;> cases y <;> exact g
/-! ### repr -/
mutual
/-- ints of at most a thousand bits, no text -/
def smallD : D → Prop
  | .int i => i.natAbs < 2 ^ 1000
  | .str _ => False
  | .tup xs => smallL xs
  | .lst _ xs => smallL xs
  | .non => True
  | .bl _ => True
  | .exc _ _ _ => False
  | .dct _ _ _ => False
  | .ins _ _ _ _ => False
def smallL : List D → Prop
  | [] => True
  | x :: xs => smallD x ∧ smallL xs
end
mutual
def szN : D → Nat
  | .tup xs => szL xs + 1
  | .lst _ xs => szL xs + 1
  | .non => 1
  | .bl _ => 1
  | .int _ => 1
  | .str _ => 1
  | .exc _ _ _ => 1
  | .dct _ _ _ => 1
  | .ins _ _ _ _ => 1
def szL : List D → Nat
  | [] => 0
  | x :: xs => szN x + szL xs
end
theorem log_small {i : Int} (h : i.natAbs < 2 ^ 1000) : i.natAbs.log2 < 1920 := Nat.lt_of_lt_of_le (PySem.Flt.log2_lt_of (by decide) h) (by decide)
theorem listText_len (ts : List Str) : (PySem.listText ts).length ≤ 2 + PySem.piled ts := by
  cases ts with
  | nil => rw [PySem.listText_nil]; decide
  | cons t r =>
    unfold PySem.listText
    rw [PySem.strLen_append]
    show (PySem.textFrom 1 _ r).length + 1 ≤ _
    rw [PySem.textFrom_length_pos r 1 _ (by decide), PySem.strLen_append, PySem.strLen_append, PySem.piled_cons]
    have e1 : ((if (0 : Nat) > 0 then ", " else "" : String) : Str).length = 0 := rfl
    have e2 : (("[" : String) : Str).length = 1 := rfl
    rw [e1, e2]
    omega
theorem tupleText_len (ts : List Str) : (PySem.tupleText ts).length ≤ 4 + PySem.piled ts := by
  unfold PySem.tupleText
  rw [PySem.strLen_append, PySem.strLen_append]
  have e1 : (("(" : String) : Str).length = 1 := rfl
  have e2 : ((if ts.length == 1 then ",)" else ")" : String) : Str).length ≤ 2 := by split <;> decide
  have e3 : (Str.join ", " ts).length ≤ PySem.piled ts := by
    cases ts with
    | nil => exact Nat.le_refl _
    | cons t r => have := PySem.join_length_add (t :: r) (by simp); omega
  omega
mutual
theorem shown_le : ∀ d : D, smallD d → d.py.showable = true ∧ d.py.shown.length + 8 ≤ 2000 * szN d
  | .non, _ => ⟨rfl, by decide⟩
  | .bl b, _ => ⟨rfl, by cases b <;> decide⟩
  | .int i, h => by
    have l := log_small h
    refine ⟨by simp only [D.py, PySem.PyData.showable, decide_eq_true l], ?_⟩
    have : (PySem.Str.ofString (toString i)).length ≤ 1921 := by
      rw [PySem.ofString_length]
      exact PySem.int_text_length_le (k := 1920) (by decide) l
    show (PySem.Str.ofString (toString i)).length + 8 ≤ 2000 * 1
    omega
  | .str s, h => by simp only [smallD] at h
  | .exc _ _ _, h => by simp only [smallD] at h
  | .dct _ _ _, h => by simp only [smallD] at h
  | .ins _ _ _ _, h => by simp only [smallD] at h
  | .tup xs, h => by
    obtain ⟨h1, h2⟩ := shownL_le xs (by simpa only [smallD] using h)
    refine ⟨by simp only [D.py, PySem.PyData.showable, h1], ?_⟩
    simp only [D.py, PySem.PyData.shown, szN]
    have := tupleText_len (PySem.PyData.shownAll (pyL xs))
    omega
  | .lst _ xs, h => by
    obtain ⟨h1, h2⟩ := shownL_le xs (by simpa only [smallD] using h)
    refine ⟨by simp only [D.py, PySem.PyData.showable, h1], ?_⟩
    simp only [D.py, PySem.PyData.shown, szN]
    have := listText_len (PySem.PyData.shownAll (pyL xs))
    omega
theorem shownL_le : ∀ ds : List D, smallL ds → PySem.PyData.showableAll (pyL ds) = true ∧ PySem.piled (PySem.PyData.shownAll (pyL ds)) ≤ 2000 * szL ds
  | [], _ => ⟨rfl, Nat.le_refl _⟩
  | x :: xs, h => by
    simp only [smallL] at h
    obtain ⟨h1, h2⟩ := shown_le x h.1
    obtain ⟨h3, h4⟩ := shownL_le xs h.2
    refine ⟨by simp only [pyL, PySem.PyData.showableAll, h1, h3, Bool.and_self], ?_⟩
    simp only [pyL, PySem.PyData.shownAll, PySem.piled_cons, szL]
    omega
end
theorem repr_ok {d : D} {Q : D → Prop} (h : smallD d) (p : plainD 64 d = true) (z : szN d ≤ 8000) (q : Q (.str d.py.shown)) : biD .repr [d] Q := by
  obtain ⟨h1, h2⟩ := shown_le d h
  refine ⟨h1, (plain_lay d p).2, ?_, q⟩
  have : (PySem.sizeLine : Nat) = 16777216 := by decide
  omega
/-! ### bounds -/
theorem pow_by {i j : Int} (a : Nat) (h0 : 0 < a) (h : i.natAbs < 2 ^ a) (hj : 0 ≤ j) (hb : (a : Int) * j ≤ 2 ^ 27) : PowOk i j := by
  refine ⟨hj, ?_⟩
  have h1 := PySem.Flt.log2_lt_of h0 h
  have h2 : PySem.Builtin.Int.intBits i ≤ a := by
    unfold PySem.Builtin.Int.intBits
    split <;> omega
  have h3 : (PySem.Builtin.Int.intBits i : Int) ≤ a := by omega
  exact Int.le_trans (Int.mul_le_mul_of_nonneg_right h3 hj) hb
theorem div_by {i j : Int} (h : 0 < j) (hj : j < 2 ^ 300) : L2.CDivW i j := L2.wide_div (b := 300) h (by omega) (by decide) (by decide)
theorem mul_by {i j : Int} (a b : Nat) (ha : i.natAbs < 2 ^ a) (hb : j.natAbs < 2 ^ b) (h0 : 0 < a) (h1 : 0 < b) (h : a + b ≤ 1000000) : L2.CMulW i j := L2.wide_mul ha hb h0 h1 h
theorem atI_in {α : Type} {xs : List α} {i : Int} {P : α → Prop} (h0 : 0 ≤ i) (h1 : i < xs.length) (h : ∀ x ∈ xs, P x) : ∃ v, L2.atI xs i = some v ∧ P v := by
  have hn : i.toNat < xs.length := by omega
  refine ⟨xs[i.toNat], ?_, h _ (List.getElem_mem hn)⟩
  unfold L2.atI L2.ixN
  rw [if_pos h0, if_pos h1]
  simp [hn]
/-! ### lists of ints -/
def IL (xs : List Int) : List D := xs.map .int
theorem IL_fz (xs : List Int) : fzL (IL xs) = IL xs := by
  induction xs with
  | nil => rfl
  | cons x xs ih => show D.fz _ :: fzL (IL xs) = _; rw [ih]; rfl
theorem IL_isFz (xs : List Int) : isFzL (IL xs) = true := by
  induction xs with
  | nil => rfl
  | cons x xs ih => show (D.isFz _ && isFzL (IL xs)) = true; rw [ih]; rfl
theorem IL_plain (xs : List Int) (n : Nat) : plainL n (IL xs) = true := by
  induction xs with
  | nil => rfl
  | cons x xs ih =>
    show (plainD n (.int x) && plainL n (IL xs)) = true
    rw [ih]; cases n <;> rfl
theorem IL_len (xs : List Int) : (IL xs).length = xs.length := List.length_map _
theorem atI_map {α β : Type} (f : α → β) (xs : List α) (i : Int) : L2.atI (xs.map f) i = (L2.atI xs i).map f := by
  unfold L2.atI
  rw [List.length_map]
  cases L2.ixN xs.length i with
  | none => rfl
  | some j => simp
theorem IL_at {xs : List Int} {i : Int} {v : Int} (h : L2.atI xs i = some v) : L2.atI (IL xs) i = some (.int v) := by
  unfold IL
  rw [atI_map, h]; rfl
theorem IL_cut (xs : List Int) (lo hi : Option Int) : ∃ l, cutD (IL xs) lo hi = IL l ∧ l.length ≤ xs.length ∧ ∀ x ∈ l, x ∈ xs := by
  refine ⟨(xs.drop (HT.sIx xs.length 0 lo)).take (HT.sIx xs.length xs.length hi - HT.sIx xs.length 0 lo), ?_, ?_, fun x hx => List.mem_of_mem_drop (List.mem_of_mem_take hx)⟩
  · unfold cutD IL
    rw [List.length_map, List.map_take, List.map_drop]
  · rw [List.length_take, List.length_drop]; omega
theorem IL_app (xs : List Int) (v : Int) : IL xs ++ [.int v] = IL (xs ++ [v]) := by unfold IL; rw [List.map_append]; rfl
theorem IL_nil : IL [] = [] := rfl
theorem eq_nil {o p : Bool} {xs : List Int} {Q : Bool → Prop} : eqD (.lst o (IL xs)) (.lst p []) Q = Q xs.isEmpty := by
  show eqG _ _ _ = _
  unfold eqG
  have h : PySem.PyData.eqv (D.lst o (IL xs)).py (D.lst p []).py = xs.isEmpty := by
    cases xs with
    | nil => rfl
    | cons x xs => simp only [D.py, PySem.PyData.eqv]; rfl
  rw [h]
  exact propext ⟨fun q => q.2.2, fun q => ⟨shaped_of (by cases o <;> exact IL_plain xs 63), shaped_of rfl, q⟩⟩
theorem at_last {α : Type} {xs : List α} {x : α} : L2.atI (xs ++ [x]) (-1) = some x := by
  unfold L2.atI L2.ixN
  have h1 : ¬ (0 : Int) ≤ -1 := by decide
  rw [if_neg h1, if_pos (by simp; omega)]
  have h2 : (-1 + ((xs ++ [x]).length : Int)).toNat = xs.length := by simp; omega
  show (some _).bind _ = _
  rw [h2]
  simp
theorem ix_last {n : Nat} : L2.ixN (n + 1) (-1) = some n := by
  unfold L2.ixN
  have h1 : ¬ (0 : Int) ≤ -1 := by decide
  rw [if_neg h1, if_pos (by omega)]
  congr 1
  omega
theorem set_last {α : Type} {xs : List α} {x y : α} : (xs ++ [x]).set xs.length y = xs ++ [y] := by
  rw [List.set_append_right _ _ (Nat.le_refl _)]; simp
theorem IL_snoc (xs : List Int) (v : Int) : IL (xs ++ [v]) = IL xs ++ [.int v] := by unfold IL; rw [List.map_append]; rfl
theorem IL_cons (x : Int) (xs : List Int) : IL (x :: xs) = .int x :: IL xs := rfl
theorem atI_ex {α : Type} {xs : List α} {i : Int} (h0 : 0 ≤ i) (h1 : i < xs.length) : ∃ v, L2.atI xs i = some v ∧ v ∈ xs := by
  have hn : i.toNat < xs.length := by omega
  refine ⟨xs[i.toNat], ?_, List.getElem_mem hn⟩
  unfold L2.atI L2.ixN
  rw [if_pos h0, if_pos h1]
  simp [hn]

/-! ### loops over lists that are known -/
theorem forMap {α : Type} {Γ : Sig} {t : T} {b : Ss} {K : Con} {env : Env} (f : α → D) {xs : List α} (Inv : List α → List α → Env → Prop) (h0 : Inv [] xs env) (hd : ∀ e, Inv xs [] e → K.nx e)
    (hs : ∀ pre x suf e (k bk : Env → Prop), pre ++ x :: suf = xs → Inv pre (x :: suf) e → (∀ e', Inv (pre ++ [x]) suf e' → k e') → (∀ e', K.nx e' → bk e') → setT Γ.me t (f x) e fun e2 => wpSs Γ b e2 { nx := k, rt := K.rt, bk := bk, ct := k, ex := K.ex }) :
    (xs.map f).foldr (forStep Γ t b K) K.nx env := by
  refine forDK (fun items e => ∃ pre suf, items = suf.map f ∧ pre ++ suf = xs ∧ Inv pre suf e) ⟨[], xs, rfl, rfl, h0⟩ ?_ ?_
  · rintro e ⟨pre, suf, h1, h2, h3⟩
    cases suf with
    | cons _ _ => cases h1
    | nil =>
      rw [List.append_nil] at h2
      subst h2
      exact hd e h3
  · rintro y ys e k bk ⟨pre, suf, h1, h2, h3⟩ hk hb
    cases suf with
    | nil => cases h1
    | cons x suf =>
      obtain ⟨rfl, rfl⟩ := List.cons.inj h1
      exact hs pre x suf e k bk h2 h3 (fun e' h => hk e' ⟨pre ++ [x], suf, rfl, by rw [← h2, List.append_assoc]; rfl, h⟩) hb
theorem forIL {Γ : Sig} {t : T} {b : Ss} {K : Con} {env : Env} {xs : List Int} (Inv : List Int → List Int → Env → Prop) (h0 : Inv [] xs env) (hd : ∀ e, Inv xs [] e → K.nx e)
    (hs : ∀ pre x suf e (k bk : Env → Prop), pre ++ x :: suf = xs → Inv pre (x :: suf) e → (∀ e', Inv (pre ++ [x]) suf e' → k e') → (∀ e', K.nx e' → bk e') → setT Γ.me t (.int x) e fun e2 => wpSs Γ b e2 { nx := k, rt := K.rt, bk := bk, ct := k, ex := K.ex }) :
    (IL xs).foldr (forStep Γ t b K) K.nx env := forMap D.int Inv h0 hd hs
/-- for i in range(n) -/
theorem forRg {Γ : Sig} {t : T} {b : Ss} {K : Con} {env : Env} {n : Nat} (Inv : Nat → Env → Prop) (h0 : Inv 0 env) (hd : ∀ e, Inv n e → K.nx e)
    (hs : ∀ i e (k bk : Env → Prop), i < n → Inv i e → (∀ e', Inv (i + 1) e' → k e') → (∀ e', K.nx e' → bk e') → setT Γ.me t (.int (i : Nat)) e fun e2 => wpSs Γ b e2 { nx := k, rt := K.rt, bk := bk, ct := k, ex := K.ex }) :
    (rngD 0 n 1).foldr (forStep Γ t b K) K.nx env := by
  have e0 : rngD 0 n 1 = (List.range n).map fun (k : Nat) => D.int (k : Nat) := by
    unfold rngD
    refine List.map_congr_left fun k _ => ?_
    simp
  rw [e0]
  refine forMap (fun (k : Nat) => D.int (k : Nat)) (fun pre _ e => Inv pre.length e) h0 (fun e h => hd e (by simpa using h)) fun pre x suf e k bk h1 h2 h3 h4 => ?_
  have hl : pre.length < n := by have := congrArg List.length h1; simp at this; omega
  have hx : x = pre.length := by
    have q1 : (List.range n)[pre.length]? = some x := by rw [← h1, List.getElem?_append_right (Nat.le_refl _)]; simp
    rw [List.getElem?_range hl] at q1
    exact (Option.some.inj q1).symm
  subst hx
  exact hs _ e k bk hl h2 (fun e' h => h3 e' (by simpa using h)) h4
/-- [.. for x in xs if ..] -/
theorem lcMap {α : Type} {f : α → D} {xs : List α} {env : Env} {step : D → (List D → Env → Prop) → List D → Env → Prop} {fin : List D → Env → Prop} (E : Env → Prop) (p : α → Bool) (g : α → D) (h0 : E env)
    (hs : ∀ x ∈ xs, ∀ (acc : List D) e (k : List D → Env → Prop), E e → acc.length < xs.length → (∀ e', E e' → k (if p x then acc ++ [g x] else acc) e') → step (f x) k acc e) (hd : ∀ e, E e → fin ((xs.filter p).map g) e) : (xs.map f).foldr step fin [] env := by
  refine lcD (fun items acc e => ∃ pre suf, items = suf.map f ∧ pre ++ suf = xs ∧ acc = (pre.filter p).map g ∧ E e) ⟨[], xs, rfl, rfl, rfl, h0⟩ ?_ ?_
  · rintro a e ⟨pre, suf, h1, h2, rfl, h3⟩
    cases suf with
    | cons _ _ => cases h1
    | nil =>
      rw [List.append_nil] at h2
      subst h2
      exact hd e h3
  · rintro y ys a e k ⟨pre, suf, h1, h2, rfl, h3⟩ hk
    cases suf with
    | nil => cases h1
    | cons x suf =>
      obtain ⟨rfl, rfl⟩ := List.cons.inj h1
      have hl : ((pre.filter p).map g).length < xs.length := by
        rw [List.length_map]
        have := List.length_filter_le p pre
        have := congrArg List.length h2
        simp at this
        omega
      refine hs x (by rw [← h2]; simp) _ e k h3 hl fun e' he' => hk _ e' ⟨pre ++ [x], suf, rfl, by rw [← h2, List.append_assoc]; rfl, ?_, he'⟩
      rw [List.filter_append, List.map_append]
      cases hp : p x <;> simp [hp]
/-- .. all of them -/
theorem lcAll {α : Type} {f : α → D} {xs : List α} {env : Env} {step : D → (List D → Env → Prop) → List D → Env → Prop} {fin : List D → Env → Prop} (E : Env → Prop) (g : α → D) (h0 : E env)
    (hs : ∀ x ∈ xs, ∀ (acc : List D) e (k : List D → Env → Prop), E e → acc.length < xs.length → (∀ e', E e' → k (acc ++ [g x]) e') → step (f x) k acc e) (hd : ∀ e, E e → fin (xs.map g) e) : (xs.map f).foldr step fin [] env :=
  lcMap E (fun _ => true) g h0 (fun x hx acc e k he hl hk => hs x hx acc e k he hl fun e' he' => by simpa using hk e' he') fun e he => by rw [List.filter_eq_self.mpr fun _ _ => rfl]; exact hd e he
theorem lcIL {xs : List Int} {env : Env} {step : D → (List D → Env → Prop) → List D → Env → Prop} {fin : List D → Env → Prop} (E : Env → Prop) (p : Int → Bool) (g : Int → D) (h0 : E env)
    (hs : ∀ x ∈ xs, ∀ (acc : List D) e (k : List D → Env → Prop), E e → acc.length < xs.length → (∀ e', E e' → k (if p x then acc ++ [g x] else acc) e') → step (.int x) k acc e) (hd : ∀ e, E e → fin ((xs.filter p).map g) e) : (IL xs).foldr step fin [] env := lcMap (f := D.int) E p g h0 hs hd
theorem lcILa {xs : List Int} {env : Env} {step : D → (List D → Env → Prop) → List D → Env → Prop} {fin : List D → Env → Prop} (E : Env → Prop) (g : Int → D) (h0 : E env)
    (hs : ∀ x ∈ xs, ∀ (acc : List D) e (k : List D → Env → Prop), E e → acc.length < xs.length → (∀ e', E e' → k (acc ++ [g x]) e') → step (.int x) k acc e) (hd : ∀ e, E e → fin (xs.map g) e) : (IL xs).foldr step fin [] env := lcAll (f := D.int) E g h0 hs hd
theorem lcRg {n : Nat} {env : Env} {step : D → (List D → Env → Prop) → List D → Env → Prop} {fin : List D → Env → Prop} (E : Env → Prop) (g : Nat → D) (h0 : E env)
    (hs : ∀ x < n, ∀ (acc : List D) e (k : List D → Env → Prop), E e → acc.length < n → (∀ e', E e' → k (acc ++ [g x]) e') → step (.int (x : Nat)) k acc e) (hd : ∀ e, E e → fin ((List.range n).map g) e) : (rngD 0 n 1).foldr step fin [] env := by
  have e0 : rngD 0 n 1 = (List.range n).map fun (k : Nat) => D.int (k : Nat) := by
    unfold rngD
    refine List.map_congr_left fun k _ => ?_
    simp
  rw [e0]
  exact lcAll E g h0 (fun x hx acc e k he hl hk => hs x (List.mem_range.mp hx) acc e k he (by simpa using hl) hk) hd
/-- xs[i] of ints, i in their range -/
theorem at_int {xs : List D} {i lo hi : Int} {Q : D → Prop} (h0 : 0 ≤ i) (h1 : i < xs.length) (h : ∀ x ∈ xs, ∃ v : Int, x = .int v ∧ lo ≤ v ∧ v ≤ hi) (q : ∀ v, lo ≤ v → v ≤ hi → Q (.int v)) : ∃ el, L2.atI xs i = some el ∧ Q el := by
  obtain ⟨el, he, v, rfl, h2, h3⟩ := atI_in h0 h1 h
  exact ⟨_, he, q v h2 h3⟩
theorem at_any {xs : List D} {i : Int} {P : D → Prop} {Q : D → Prop} (h0 : 0 ≤ i) (h1 : i < xs.length) (h : ∀ x ∈ xs, P x) (q : ∀ v, P v → Q v) : ∃ el, L2.atI xs i = some el ∧ Q el := by
  obtain ⟨el, he, h2⟩ := atI_in h0 h1 h
  exact ⟨_, he, q _ h2⟩
/-! ### repr of what is small -/
def Tm (k n : Nat) (d : D) : Prop := smallD d ∧ plainD k d = true ∧ szN d ≤ n
def TmL (k n : Nat) (ds : List D) : Prop := smallL ds ∧ plainL k ds = true ∧ szL ds ≤ n
theorem Tm.int {k : Nat} {i : Int} (h : i.natAbs ≤ 10 ^ 200) : Tm k 1 (.int i) := ⟨Nat.lt_of_le_of_lt h (by decide +kernel), by cases k <;> rfl, Nat.le_refl _⟩
theorem Tm.bl {k : Nat} {b : Bool} : Tm k 1 (.bl b) := ⟨trivial, by cases k <;> rfl, Nat.le_refl _⟩
theorem Tm.non {k : Nat} : Tm k 1 .non := ⟨trivial, by cases k <;> rfl, Nat.le_refl _⟩
theorem Tm.lst {k n : Nat} {o : Bool} {xs : List D} (h : TmL k n xs) : Tm (k + 1) (n + 1) (.lst o xs) := ⟨by simpa only [smallD] using h.1, by simpa only [plainD] using h.2.1, by simp only [szN]; have := h.2.2; omega⟩
theorem Tm.tup {k n : Nat} {xs : List D} (h : TmL k n xs) : Tm (k + 1) (n + 1) (.tup xs) := ⟨by simpa only [smallD] using h.1, by simpa only [plainD] using h.2.1, by simp only [szN]; have := h.2.2; omega⟩
theorem Tm.mono {k m n : Nat} {d : D} (h : Tm k m d) (l : m ≤ n) : Tm k n d := ⟨h.1, h.2.1, Nat.le_trans h.2.2 l⟩
theorem TmL.nil {k : Nat} : TmL k 0 [] := ⟨trivial, by cases k <;> rfl, Nat.le_refl _⟩
theorem TmL.cons {k m n : Nat} {d : D} {ds : List D} (h : Tm k m d) (h2 : TmL k n ds) : TmL k (m + n) (d :: ds) := ⟨⟨h.1, h2.1⟩, by cases k <;> simp only [plainL, h.2.1, h2.2.1, Bool.and_self], by simp only [szL]; have := h.2.2; have := h2.2.2; omega⟩
theorem TmL.mono {k m n : Nat} {d : List D} (h : TmL k m d) (l : m ≤ n) : TmL k n d := ⟨h.1, h.2.1, Nat.le_trans h.2.2 l⟩
theorem TmL.all {k m : Nat} {ds : List D} (h : ∀ d ∈ ds, Tm k m d) : TmL k (ds.length * m) ds := by
  induction ds with
  | nil => rw [List.length_nil, Nat.zero_mul]; exact .nil
  | cons d ds ih =>
    refine (TmL.cons (h d List.mem_cons_self) (ih fun x hx => h x (List.mem_cons_of_mem _ hx))).mono ?_
    rw [List.length_cons, Nat.add_mul]; omega
theorem TmL.map {α : Type} {k m : Nat} {xs : List α} {g : α → D} (h : ∀ x ∈ xs, Tm k m (g x)) : TmL k (xs.length * m) (xs.map g) := by
  have := TmL.all (ds := xs.map g) (k := k) (m := m) fun d hd => by
    obtain ⟨x, hx, rfl⟩ := List.mem_map.mp hd
    exact h x hx
  rwa [List.length_map] at this
theorem TmL.il {k : Nat} {xs : List Int} (h : ∀ x ∈ xs, x.natAbs ≤ 10 ^ 200) : TmL k xs.length (IL xs) := by
  have := TmL.map (k := k) (m := 1) (g := D.int) (xs := xs) fun x hx => Tm.int (h x hx)
  rwa [Nat.mul_one] at this
theorem repr_tm {d : D} {n : Nat} {Q : D → Prop} (h : Tm 64 n d) (z : n ≤ 8000) (q : Q (.str d.py.shown)) : biD .repr [d] Q := repr_ok h.1 h.2.1 (Nat.le_trans h.2.2 z) q
/-- two texts of equal data -/
theorem ne_same {x y : Str} {Q : Bool → Prop} (h : x = y) (q : Q false) : cmpD .ne (.str x) (.str y) Q := by
  show Q (!decide (x = y))
  rw [decide_eq_true h]; exact q
theorem eq_sameS {x y : Str} {Q : Bool → Prop} (h : x = y) (q : Q true) : cmpD .eq (.str x) (.str y) Q := by
  show Q (decide (x = y))
  rw [decide_eq_true h]; exact q
theorem eq_tm {x y : D} {n : Nat} {Q : Bool → Prop} (e : x.py = y.py) (h : Tm 64 n x) (q : Q true) : cmpD .eq x y Q := cmp_same e h.2.1 q
theorem ne_tm {x y : D} {n : Nat} {Q : Bool → Prop} (e : x.py = y.py) (h : Tm 64 n x) (q : Q false) : cmpD .ne x y Q := cmp_nsame e h.2.1 q
end DP

/-! DpZ: the computation rules of wp over data (printed by wip/mkz.py). -/
namespace DP
open PySem (sizeLine Str)

theorem zaa {d : D} {env : Env} {Q : D → Prop} : get (some d :: env) 0 Q = Q d := rfl
theorem zab {o : Option D} {env : Env} {n : Nat} {Q : D → Prop} : get (o :: env) (n + 1) Q = get env n Q := rfl
theorem zac {i : Nat} {w : KD → Prop} {env : Env} {Q : KD} : bor (.var i) w env Q = get env i fun d => Q d env := rfl
theorem zad {i : Nat} {x : D} {env : Env} : still (.var i) x env = (env[i]? = some (some x)) := rfl
theorem zae {i : Nat} {as : Es} {x : D} {xs : List D} {env : Env} : stills (.cons (.var i) as) (x :: xs) env = (env[i]? = some (some x) ∧ stills as xs env) := rfl
theorem zaf {env : Env} : stills .nil [] env = True := rfl
theorem zag {i : Nat} {x el : D} {env : Env} : shareAt (.var i) x el env = if el.isFz then env else env.set i (some x.fz) := rfl
theorem zah (d : D) {w : KD → Prop} {env : Env} {Q : KD} : bor (.con d) w env Q = w Q := rfl
theorem zai (d : D) {y : D} {env : Env} : still (.con d) y env = True := rfl
theorem zaj (d : D) {es : Es} {y : D} {ys : List D} {env : Env} : stills (.cons (.con d) es) (y :: ys) env = stills es ys env := propext ⟨fun h => h.2, fun h => ⟨trivial, h⟩⟩
theorem zak (d : D) {y el : D} {env : Env} : shareAt (.con d) y el env = env := rfl
theorem zal (x : String) (d : D) {w : KD → Prop} {env : Env} {Q : KD} : bor (.glo x d) w env Q = w Q := rfl
theorem zam (x : String) (d : D) {y : D} {env : Env} : still (.glo x d) y env = True := rfl
theorem zan (x : String) (d : D) {es : Es} {y : D} {ys : List D} {env : Env} : stills (.cons (.glo x d) es) (y :: ys) env = stills es ys env := propext ⟨fun h => h.2, fun h => ⟨trivial, h⟩⟩
theorem zao (x : String) (d : D) {y el : D} {env : Env} : shareAt (.glo x d) y el env = env := rfl
theorem zap (o : Op) (a b : E) {w : KD → Prop} {env : Env} {Q : KD} : bor (.bin o a b) w env Q = w Q := rfl
theorem zaq (o : Op) (a b : E) {y : D} {env : Env} : still (.bin o a b) y env = True := rfl
theorem zar (o : Op) (a b : E) {es : Es} {y : D} {ys : List D} {env : Env} : stills (.cons (.bin o a b) es) (y :: ys) env = stills es ys env := propext ⟨fun h => h.2, fun h => ⟨trivial, h⟩⟩
theorem zas (o : Op) (a b : E) {y el : D} {env : Env} : shareAt (.bin o a b) y el env = env := rfl
theorem zat (a : E) {w : KD → Prop} {env : Env} {Q : KD} : bor (.neg a) w env Q = w Q := rfl
theorem zau (a : E) {y : D} {env : Env} : still (.neg a) y env = True := rfl
theorem zav (a : E) {es : Es} {y : D} {ys : List D} {env : Env} : stills (.cons (.neg a) es) (y :: ys) env = stills es ys env := propext ⟨fun h => h.2, fun h => ⟨trivial, h⟩⟩
theorem zaw (a : E) {y el : D} {env : Env} : shareAt (.neg a) y el env = env := rfl
theorem zax (a : E) {w : KD → Prop} {env : Env} {Q : KD} : bor (.nt a) w env Q = w Q := rfl
theorem zay (a : E) {y : D} {env : Env} : still (.nt a) y env = True := rfl
theorem zaz (a : E) {es : Es} {y : D} {ys : List D} {env : Env} : stills (.cons (.nt a) es) (y :: ys) env = stills es ys env := propext ⟨fun h => h.2, fun h => ⟨trivial, h⟩⟩
theorem zaA (a : E) {y el : D} {env : Env} : shareAt (.nt a) y el env = env := rfl
theorem zaB (k : Bool) (as : Es) {w : KD → Prop} {env : Env} {Q : KD} : bor (.bo k as) w env Q = w Q := rfl
theorem zaC (k : Bool) (as : Es) {y : D} {env : Env} : still (.bo k as) y env = True := rfl
theorem zaD (k : Bool) (as : Es) {es : Es} {y : D} {ys : List D} {env : Env} : stills (.cons (.bo k as) es) (y :: ys) env = stills es ys env := propext ⟨fun h => h.2, fun h => ⟨trivial, h⟩⟩
theorem zaE (k : Bool) (as : Es) {y el : D} {env : Env} : shareAt (.bo k as) y el env = env := rfl
theorem zaF (o : CO) (a b : E) {w : KD → Prop} {env : Env} {Q : KD} : bor (.cmp o a b) w env Q = w Q := rfl
theorem zaG (o : CO) (a b : E) {y : D} {env : Env} : still (.cmp o a b) y env = True := rfl
theorem zaH (o : CO) (a b : E) {es : Es} {y : D} {ys : List D} {env : Env} : stills (.cons (.cmp o a b) es) (y :: ys) env = stills es ys env := propext ⟨fun h => h.2, fun h => ⟨trivial, h⟩⟩
theorem zaI (o : CO) (a b : E) {y el : D} {env : Env} : shareAt (.cmp o a b) y el env = env := rfl
theorem zaJ (o p : CO) (a b c : E) {w : KD → Prop} {env : Env} {Q : KD} : bor (.chn o p a b c) w env Q = w Q := rfl
theorem zaK (o p : CO) (a b c : E) {y : D} {env : Env} : still (.chn o p a b c) y env = True := rfl
theorem zaL (o p : CO) (a b c : E) {es : Es} {y : D} {ys : List D} {env : Env} : stills (.cons (.chn o p a b c) es) (y :: ys) env = stills es ys env := propext ⟨fun h => h.2, fun h => ⟨trivial, h⟩⟩
theorem zaM (o p : CO) (a b c : E) {y el : D} {env : Env} : shareAt (.chn o p a b c) y el env = env := rfl
theorem zaN (o p q : CO) (a b c d : E) {w : KD → Prop} {env : Env} {Q : KD} : bor (.chn3 o p q a b c d) w env Q = w Q := rfl
theorem zaO (o p q : CO) (a b c d : E) {y : D} {env : Env} : still (.chn3 o p q a b c d) y env = True := rfl
theorem zaP (o p q : CO) (a b c d : E) {es : Es} {y : D} {ys : List D} {env : Env} : stills (.cons (.chn3 o p q a b c d) es) (y :: ys) env = stills es ys env := propext ⟨fun h => h.2, fun h => ⟨trivial, h⟩⟩
theorem zaQ (o p q : CO) (a b c d : E) {y el : D} {env : Env} : shareAt (.chn3 o p q a b c d) y el env = env := rfl
theorem zaR (o p q q2 : CO) (a b c d f : E) {w : KD → Prop} {env : Env} {Q : KD} : bor (.chn4 o p q q2 a b c d f) w env Q = w Q := rfl
theorem zaS (o p q q2 : CO) (a b c d f : E) {y : D} {env : Env} : still (.chn4 o p q q2 a b c d f) y env = True := rfl
theorem zaT (o p q q2 : CO) (a b c d f : E) {es : Es} {y : D} {ys : List D} {env : Env} : stills (.cons (.chn4 o p q q2 a b c d f) es) (y :: ys) env = stills es ys env := propext ⟨fun h => h.2, fun h => ⟨trivial, h⟩⟩
theorem zaU (o p q q2 : CO) (a b c d f : E) {y el : D} {env : Env} : shareAt (.chn4 o p q q2 a b c d f) y el env = env := rfl
theorem zaV (a : E) {w : KD → Prop} {env : Env} {Q : KD} : bor (.sset a) w env Q = w Q := rfl
theorem zaW (a : E) {y : D} {env : Env} : still (.sset a) y env = True := rfl
theorem zaX (a : E) {es : Es} {y : D} {ys : List D} {env : Env} : stills (.cons (.sset a) es) (y :: ys) env = stills es ys env := propext ⟨fun h => h.2, fun h => ⟨trivial, h⟩⟩
theorem zaY (a : E) {y el : D} {env : Env} : shareAt (.sset a) y el env = env := rfl
theorem zaZ (a : E) {w : KD → Prop} {env : Env} {Q : KD} : bor (.lset a) w env Q = w Q := rfl
theorem zba (a : E) {y : D} {env : Env} : still (.lset a) y env = True := rfl
theorem zbb (a : E) {es : Es} {y : D} {ys : List D} {env : Env} : stills (.cons (.lset a) es) (y :: ys) env = stills es ys env := propext ⟨fun h => h.2, fun h => ⟨trivial, h⟩⟩
theorem zbc (a : E) {y el : D} {env : Env} : shareAt (.lset a) y el env = env := rfl
theorem zbd (c a b : E) {w : KD → Prop} {env : Env} {Q : KD} : bor (.ife c a b) w env Q = w Q := rfl
theorem zbe (c a b : E) {y : D} {env : Env} : still (.ife c a b) y env = True := rfl
theorem zbf (c a b : E) {es : Es} {y : D} {ys : List D} {env : Env} : stills (.cons (.ife c a b) es) (y :: ys) env = stills es ys env := propext ⟨fun h => h.2, fun h => ⟨trivial, h⟩⟩
theorem zbg (c a b : E) {y el : D} {env : Env} : shareAt (.ife c a b) y el env = env := rfl
theorem zbh (f : String) (as : Es) {w : KD → Prop} {env : Env} {Q : KD} : bor (.call f as) w env Q = w Q := rfl
theorem zbi (f : String) (as : Es) {y : D} {env : Env} : still (.call f as) y env = True := rfl
theorem zbj (f : String) (as : Es) {es : Es} {y : D} {ys : List D} {env : Env} : stills (.cons (.call f as) es) (y :: ys) env = stills es ys env := propext ⟨fun h => h.2, fun h => ⟨trivial, h⟩⟩
theorem zbk (f : String) (as : Es) {y el : D} {env : Env} : shareAt (.call f as) y el env = env := rfl
theorem zbl (f : String) (as : Es) (ks : List String) (bs : Es) {w : KD → Prop} {env : Env} {Q : KD} : bor (.calk f as ks bs) w env Q = w Q := rfl
theorem zbm (f : String) (as : Es) (ks : List String) (bs : Es) {y : D} {env : Env} : still (.calk f as ks bs) y env = True := rfl
theorem zbn (f : String) (as : Es) (ks : List String) (bs : Es) {es : Es} {y : D} {ys : List D} {env : Env} : stills (.cons (.calk f as ks bs) es) (y :: ys) env = stills es ys env := propext ⟨fun h => h.2, fun h => ⟨trivial, h⟩⟩
theorem zbo (f : String) (as : Es) (ks : List String) (bs : Es) {y el : D} {env : Env} : shareAt (.calk f as ks bs) y el env = env := rfl
theorem zbp (b : BI) (as : Es) {w : KD → Prop} {env : Env} {Q : KD} : bor (.bi b as) w env Q = w Q := rfl
theorem zbq (b : BI) (as : Es) {y : D} {env : Env} : still (.bi b as) y env = True := rfl
theorem zbr (b : BI) (as : Es) {es : Es} {y : D} {ys : List D} {env : Env} : stills (.cons (.bi b as) es) (y :: ys) env = stills es ys env := propext ⟨fun h => h.2, fun h => ⟨trivial, h⟩⟩
theorem zbs (b : BI) (as : Es) {y el : D} {env : Env} : shareAt (.bi b as) y el env = env := rfl
theorem zbt (a : E) (t : String) {w : KD → Prop} {env : Env} {Q : KD} : bor (.isi a t) w env Q = w Q := rfl
theorem zbu (a : E) (t : String) {y : D} {env : Env} : still (.isi a t) y env = True := rfl
theorem zbv (a : E) (t : String) {es : Es} {y : D} {ys : List D} {env : Env} : stills (.cons (.isi a t) es) (y :: ys) env = stills es ys env := propext ⟨fun h => h.2, fun h => ⟨trivial, h⟩⟩
theorem zbw (a : E) (t : String) {y el : D} {env : Env} : shareAt (.isi a t) y el env = env := rfl
theorem zbx (a i : E) {w : KD → Prop} {env : Env} {Q : KD} : bor (.sub a i) w env Q = w Q := rfl
theorem zby (a i : E) {y : D} {env : Env} : still (.sub a i) y env = True := rfl
theorem zbz (a i : E) {es : Es} {y : D} {ys : List D} {env : Env} : stills (.cons (.sub a i) es) (y :: ys) env = stills es ys env := propext ⟨fun h => h.2, fun h => ⟨trivial, h⟩⟩
theorem zbA (a i : E) {y el : D} {env : Env} : shareAt (.sub a i) y el env = env := rfl
theorem zbB (a : E) (lo hi : Eo) {w : KD → Prop} {env : Env} {Q : KD} : bor (.slc a lo hi) w env Q = w Q := rfl
theorem zbC (a : E) (lo hi : Eo) {y : D} {env : Env} : still (.slc a lo hi) y env = True := rfl
theorem zbD (a : E) (lo hi : Eo) {es : Es} {y : D} {ys : List D} {env : Env} : stills (.cons (.slc a lo hi) es) (y :: ys) env = stills es ys env := propext ⟨fun h => h.2, fun h => ⟨trivial, h⟩⟩
theorem zbE (a : E) (lo hi : Eo) {y el : D} {env : Env} : shareAt (.slc a lo hi) y el env = env := rfl
theorem zbF (fl : List Bool) (as : Es) {w : KD → Prop} {env : Env} {Q : KD} : bor (.dsp fl as) w env Q = w Q := rfl
theorem zbG (fl : List Bool) (as : Es) {y : D} {env : Env} : still (.dsp fl as) y env = True := rfl
theorem zbH (fl : List Bool) (as : Es) {es : Es} {y : D} {ys : List D} {env : Env} : stills (.cons (.dsp fl as) es) (y :: ys) env = stills es ys env := propext ⟨fun h => h.2, fun h => ⟨trivial, h⟩⟩
theorem zbI (fl : List Bool) (as : Es) {y el : D} {env : Env} : shareAt (.dsp fl as) y el env = env := rfl
theorem zbJ (i : Nat) (b : E) {w : KD → Prop} {env : Env} {Q : KD} : bor (.idx i b) w env Q = w Q := rfl
theorem zbK (i : Nat) (b : E) {y : D} {env : Env} : still (.idx i b) y env = True := rfl
theorem zbL (i : Nat) (b : E) {es : Es} {y : D} {ys : List D} {env : Env} : stills (.cons (.idx i b) es) (y :: ys) env = stills es ys env := propext ⟨fun h => h.2, fun h => ⟨trivial, h⟩⟩
theorem zbM (i : Nat) (b : E) {y el : D} {env : Env} : shareAt (.idx i b) y el env = env := rfl
theorem zbN (a : E) {w : KD → Prop} {env : Env} {Q : KD} : bor (.peek a) w env Q = w Q := rfl
theorem zbO (a : E) {y : D} {env : Env} : still (.peek a) y env = True := rfl
theorem zbP (a : E) {es : Es} {y : D} {ys : List D} {env : Env} : stills (.cons (.peek a) es) (y :: ys) env = stills es ys env := propext ⟨fun h => h.2, fun h => ⟨trivial, h⟩⟩
theorem zbQ (a : E) {y el : D} {env : Env} : shareAt (.peek a) y el env = env := rfl
theorem zbR (a b : E) {w : KD → Prop} {env : Env} {Q : KD} : bor (.lzip a b) w env Q = w Q := rfl
theorem zbS (a b : E) {y : D} {env : Env} : still (.lzip a b) y env = True := rfl
theorem zbT (a b : E) {es : Es} {y : D} {ys : List D} {env : Env} : stills (.cons (.lzip a b) es) (y :: ys) env = stills es ys env := propext ⟨fun h => h.2, fun h => ⟨trivial, h⟩⟩
theorem zbU (a b : E) {y el : D} {env : Env} : shareAt (.lzip a b) y el env = env := rfl
theorem zbV (a : E) {w : KD → Prop} {env : Env} {Q : KD} : bor (.rvl a) w env Q = w Q := rfl
theorem zbW (a : E) {y : D} {env : Env} : still (.rvl a) y env = True := rfl
theorem zbX (a : E) {es : Es} {y : D} {ys : List D} {env : Env} : stills (.cons (.rvl a) es) (y :: ys) env = stills es ys env := propext ⟨fun h => h.2, fun h => ⟨trivial, h⟩⟩
theorem zbY (a : E) {y el : D} {env : Env} : shareAt (.rvl a) y el env = env := rfl
theorem zbZ (a : E) {w : KD → Prop} {env : Env} {Q : KD} : bor (.ice a) w env Q = w Q := rfl
theorem zca (a : E) {y : D} {env : Env} : still (.ice a) y env = True := rfl
theorem zcb (a : E) {es : Es} {y : D} {ys : List D} {env : Env} : stills (.cons (.ice a) es) (y :: ys) env = stills es ys env := propext ⟨fun h => h.2, fun h => ⟨trivial, h⟩⟩
theorem zcc (a : E) {y el : D} {env : Env} : shareAt (.ice a) y el env = env := rfl
theorem zcd (k : Bool) (as : Es) {w : KD → Prop} {env : Env} {Q : KD} : bor (.rpr k as) w env Q = w Q := rfl
theorem zce (k : Bool) (as : Es) {y : D} {env : Env} : still (.rpr k as) y env = True := rfl
theorem zcf (k : Bool) (as : Es) {es : Es} {y : D} {ys : List D} {env : Env} : stills (.cons (.rpr k as) es) (y :: ys) env = stills es ys env := propext ⟨fun h => h.2, fun h => ⟨trivial, h⟩⟩
theorem zcg (k : Bool) (as : Es) {y el : D} {env : Env} : shareAt (.rpr k as) y el env = env := rfl
theorem zch (as : Es) {w : KD → Prop} {env : Env} {Q : KD} : bor (.tup as) w env Q = w Q := rfl
theorem zci (as : Es) {y : D} {env : Env} : still (.tup as) y env = True := rfl
theorem zcj (as : Es) {es : Es} {y : D} {ys : List D} {env : Env} : stills (.cons (.tup as) es) (y :: ys) env = stills es ys env := propext ⟨fun h => h.2, fun h => ⟨trivial, h⟩⟩
theorem zck (as : Es) {y el : D} {env : Env} : shareAt (.tup as) y el env = env := rfl
theorem zcl (as : Es) {w : KD → Prop} {env : Env} {Q : KD} : bor (.lst as) w env Q = w Q := rfl
theorem zcm (as : Es) {y : D} {env : Env} : still (.lst as) y env = True := rfl
theorem zcn (as : Es) {es : Es} {y : D} {ys : List D} {env : Env} : stills (.cons (.lst as) es) (y :: ys) env = stills es ys env := propext ⟨fun h => h.2, fun h => ⟨trivial, h⟩⟩
theorem zco (as : Es) {y el : D} {env : Env} : shareAt (.lst as) y el env = env := rfl
theorem zcp (elt : E) (t : T) (it : I) (ifs : Es) (own : List Nat) {w : KD → Prop} {env : Env} {Q : KD} : bor (.lc elt t it ifs own) w env Q = w Q := rfl
theorem zcq (elt : E) (t : T) (it : I) (ifs : Es) (own : List Nat) {y : D} {env : Env} : still (.lc elt t it ifs own) y env = True := rfl
theorem zcr (elt : E) (t : T) (it : I) (ifs : Es) (own : List Nat) {es : Es} {y : D} {ys : List D} {env : Env} : stills (.cons (.lc elt t it ifs own) es) (y :: ys) env = stills es ys env := propext ⟨fun h => h.2, fun h => ⟨trivial, h⟩⟩
theorem zcs (elt : E) (t : T) (it : I) (ifs : Es) (own : List Nat) {y el : D} {env : Env} : shareAt (.lc elt t it ifs own) y el env = env := rfl
theorem zct (i : Nat) {w : KD → Prop} {env : Env} {Q : KD} : bor (.mov i) w env Q = w Q := rfl
theorem zcu (i : Nat) {y : D} {env : Env} : still (.mov i) y env = True := rfl
theorem zcv (i : Nat) {es : Es} {y : D} {ys : List D} {env : Env} : stills (.cons (.mov i) es) (y :: ys) env = stills es ys env := propext ⟨fun h => h.2, fun h => ⟨trivial, h⟩⟩
theorem zcw (i : Nat) {y el : D} {env : Env} : shareAt (.mov i) y el env = env := rfl
theorem zcx (a : E) (ks : List String) {w : KD → Prop} {env : Env} {Q : KD} : bor (.isc a ks) w env Q = w Q := rfl
theorem zcy (a : E) (ks : List String) {y : D} {env : Env} : still (.isc a ks) y env = True := rfl
theorem zcz (a : E) (ks : List String) {es : Es} {y : D} {ys : List D} {env : Env} : stills (.cons (.isc a ks) es) (y :: ys) env = stills es ys env := propext ⟨fun h => h.2, fun h => ⟨trivial, h⟩⟩
theorem zcA (a : E) (ks : List String) {y el : D} {env : Env} : shareAt (.isc a ks) y el env = env := rfl
theorem zcB (a : E) (f : String) {w : KD → Prop} {env : Env} {Q : KD} : bor (.att a f) w env Q = w Q := rfl
theorem zcC (a : E) (f : String) {y : D} {env : Env} : still (.att a f) y env = True := rfl
theorem zcD (a : E) (f : String) {es : Es} {y : D} {ys : List D} {env : Env} : stills (.cons (.att a f) es) (y :: ys) env = stills es ys env := propext ⟨fun h => h.2, fun h => ⟨trivial, h⟩⟩
theorem zcE (a : E) (f : String) {y el : D} {env : Env} : shareAt (.att a f) y el env = env := rfl
theorem zcF (a b : E) {w : KD → Prop} {env : Env} {Q : KD} : bor (.lrg a b) w env Q = w Q := rfl
theorem zcG (a b : E) {y : D} {env : Env} : still (.lrg a b) y env = True := rfl
theorem zcH (a b : E) {es : Es} {y : D} {ys : List D} {env : Env} : stills (.cons (.lrg a b) es) (y :: ys) env = stills es ys env := propext ⟨fun h => h.2, fun h => ⟨trivial, h⟩⟩
theorem zcI (a b : E) {y el : D} {env : Env} : shareAt (.lrg a b) y el env = env := rfl
theorem zcJ {me : List Nat} {i : Nat} {d : D} {env : Env} {Q : Env → Prop} : setT me (.nm i) d env Q = (i ∉ me ∧ i < env.length ∧ Q (env.set i (some d))) := rfl
theorem zcK {me : List Nat} {ts : Ts} {ds : List D} {env : Env} {Q : Env → Prop} : setT me (.tp ts) (.tup ds) env Q = setTs me ts ds env Q := rfl
theorem zcL {me : List Nat} {ts : Ts} {o : Bool} {ds : List D} {env : Env} {Q : Env → Prop} : setT me (.tp ts) (.lst o ds) env Q = setTs me ts ds env Q := rfl
theorem zcM {me : List Nat} {env : Env} {Q : Env → Prop} : setTs me .nil [] env Q = Q env := rfl
theorem zcN {me : List Nat} {t : T} {ts : Ts} {d : D} {ds : List D} {env : Env} {Q : Env → Prop} : setTs me (.cons t ts) (d :: ds) env Q = setT me t d env fun env2 => setTs me ts ds env2 Q := rfl
theorem zcO {ds : List D} {env : Env} : putAll [] ds env = env := rfl
theorem zcP {i : Nat} {is : List Nat} {d : D} {ds : List D} {env : Env} : putAll (i :: is) (d :: ds) env = putAll is ds (env.set i (some d)) := rfl
theorem zcQ {i : Nat} {Γ : Sig} {env : Env} {Q : KD} {R : KX} : wpE Γ (.var i) env Q R = get env i fun d => Q d.fz (env.set i (some d.fz)) := rfl
theorem zcR {i : Nat} {Γ : Sig} {env : Env} {Q : KD} {R : KX} : wpE Γ (.mov i) env Q R = (i ∉ Γ.me ∧ get env i fun d => Q d (env.set i none)) := rfl
theorem zcS {d : D} {Γ : Sig} {env : Env} {Q : KD} {R : KX} : wpE Γ (.con d) env Q R = Q d env := rfl
theorem zcT {x : String} {d : D} {Γ : Sig} {env : Env} {Q : KD} {R : KX} : wpE Γ (.glo x d) env Q R = Q d env := rfl
theorem zcU {o : Op} {a b : E} {Γ : Sig} {env : Env} {Q : KD} {R : KX} : wpE Γ (.bin o a b) env Q R = wpE Γ a env (fun x env1 => wpE Γ b env1 (fun y env2 => binD o x y fun d => Q d env2) R) R := rfl
theorem zcV {a : E} {Γ : Sig} {env : Env} {Q : KD} {R : KX} : wpE Γ (.neg a) env Q R = wpE Γ a env (fun x env1 => ∃ i, x = .int i ∧ Q (.int (-i)) env1) R := rfl
theorem zcW {a : E} {Γ : Sig} {env : Env} {Q : KD} {R : KX} : wpE Γ (.nt a) env Q R = wpE Γ a env (fun x env1 => truD x fun c => Q (.bl (!c)) env1) R := rfl
theorem zcX {k : Bool} {as : Es} {Γ : Sig} {env : Env} {Q : KD} {R : KX} : wpE Γ (.bo k as) env Q R = wpBo Γ k as env Q R := rfl
theorem zcY {o : CO} {a b : E} {Γ : Sig} {env : Env} {Q : KD} {R : KX} : wpE Γ (.cmp o a b) env Q R = bor a (fun Q2 => wpE Γ a env Q2 R) env fun x env1 => bor b (fun Q2 => wpE Γ b env1 Q2 R) env1 fun y env2 => still a x env2 ∧ cmpD o x y fun c => Q (.bl c) env2 := rfl
theorem zcZ {o p : CO} {a b c : E} {Γ : Sig} {env : Env} {Q : KD} {R : KX} : wpE Γ (.chn o p a b c) env Q R = wpE Γ a env (fun x env1 => wpE Γ b env1 (fun y env2 => cmpD o x y fun k => if k = true then wpE Γ c env2 (fun z env3 => cmpD p y z fun k2 => Q (.bl k2) env3) R else Q (.bl false) env2) R) R := rfl
theorem zda {o p q : CO} {a b c d : E} {Γ : Sig} {env : Env} {Q : KD} {R : KX} : wpE Γ (.chn3 o p q a b c d) env Q R = wpE Γ a env (fun x env1 => wpE Γ b env1 (fun y env2 => cmpD o x y fun k => if k = true then wpE Γ c env2 (fun z env3 => cmpD p y z fun k2 => if k2 = true then wpE Γ d env3 (fun u env4 => cmpD q z u fun k3 => Q (.bl k3) env4) R else Q (.bl false) env3) R else Q (.bl false) env2) R) R := rfl
theorem zdb {o p q q2 : CO} {a b c d f : E} {Γ : Sig} {env : Env} {Q : KD} {R : KX} : wpE Γ (.chn4 o p q q2 a b c d f) env Q R = wpE Γ a env (fun x env1 => wpE Γ b env1 (fun y env2 => cmpD o x y fun k => if k = true then wpE Γ c env2 (fun z env3 => cmpD p y z fun k2 => if k2 = true then wpE Γ d env3 (fun u env4 => cmpD q z u fun k3 => if k3 = true then wpE Γ f env4 (fun v env5 => cmpD q2 u v fun k4 => Q (.bl k4) env5) R else Q (.bl false) env4) R else Q (.bl false) env3) R else Q (.bl false) env2) R) R := rfl
theorem zdc {a : E} {Γ : Sig} {env : Env} {Q : KD} {R : KX} : wpE Γ (.sset a) env Q R = wpE Γ a env (fun d env1 => ∃ xs ns, lstD d = some xs ∧ intsD xs = some ns ∧ ns.length ≤ 4000 ∧ ∀ ms : List Int, ms.Pairwise (· < ·) → (∀ k, k ∈ ms ↔ k ∈ ns) → Q (.lst true (ms.map .int)) env1) R := rfl
theorem zdd {a : E} {Γ : Sig} {env : Env} {Q : KD} {R : KX} : wpE Γ (.lset a) env Q R = wpE Γ a env (fun d env1 => ∃ xs ns, lstD d = some xs ∧ intsD xs = some ns ∧ ns.length ≤ 4000 ∧ ∀ ds : List Int, ds.Nodup → (∀ k, k ∈ ds ↔ k ∈ ns) → Q (.int (ds.length : Nat)) env1) R := rfl
theorem zde {c a b : E} {Γ : Sig} {env : Env} {Q : KD} {R : KX} : wpE Γ (.ife c a b) env Q R = wpT Γ c env (fun k env1 => if k = true then wpE Γ a env1 Q R else wpE Γ b env1 Q R) R := rfl
theorem zdf {f : String} {as : Es} {Γ : Sig} {env : Env} {Q : KD} {R : KX} : wpE Γ (.call f as) env Q R = wpA Γ as (Γ.ios f) env (fun ds tk env1 => Γ.sp f ds (fun r outs => outs.length = tk.length ∧ Q r (putAll tk outs env1)) fun x => R x env1) R := rfl
theorem zdg {f : String} {as bs : Es} {ks : List String} {Γ : Sig} {env : Env} {Q : KD} {R : KX} : wpE Γ (.calk f as ks bs) env Q R = wpEs Γ as env (fun ds env1 => wpEs Γ bs env1 (fun es env2 => (Γ.ios f).all (! ·) = true ∧ ∃ ix, kwIx (Γ.ps f) ks ds.length = some ix ∧ Γ.sp f (atAll (fzL (ds ++ es)) ix) (fun r outs => outs = [] ∧ Q r env2) fun x => R x env2) R) R := rfl
theorem zdh {b : BI} {as : Es} {Γ : Sig} {env : Env} {Q : KD} {R : KX} : wpE Γ (.bi b as) env Q R = wpBs Γ as env (fun ds env1 => stills as ds env1 ∧ biD b ds fun d => Q d env1) R := rfl
theorem zdi {a : E} {t : String} {Γ : Sig} {env : Env} {Q : KD} {R : KX} : wpE Γ (.isi a t) env Q R = bor a (fun Q2 => wpE Γ a env Q2 R) env fun x env1 => ∃ b, isiD x t = some b ∧ Q (.bl b) env1 := rfl
theorem zdj {a : E} {ks : List String} {Γ : Sig} {env : Env} {Q : KD} {R : KX} : wpE Γ (.isc a ks) env Q R = bor a (fun Q2 => wpE Γ a env Q2 R) env fun x env1 => ∃ b, isxD x ks = some b ∧ Q (.bl b) env1 := rfl
theorem zdk {a : E} {f : String} {Γ : Sig} {env : Env} {Q : KD} {R : KX} : wpE Γ (.att a f) env Q R = bor a (fun Q2 => wpE Γ a env Q2 R) env fun x env1 => ∃ el, attD x f = some el ∧ Q el.fz env1 := rfl
theorem zdl {Γ : Sig} {env : Env} {Q : KD} {R : KX} : wpE Γ .dnw env Q R = Q (.dct true [] []) env := rfl
theorem zdm {a b : E} {Γ : Sig} {env : Env} {Q : KD} {R : KX} : wpE Γ (.lrg a b) env Q R = wpE Γ a env (fun d env1 => wpE Γ b env1 (fun e env2 => ∃ i j, d = .int i ∧ e = .int j ∧ (-(2 ^ 62) ≤ i ∧ i < 2 ^ 62 ∧ -(2 ^ 62) ≤ j ∧ j < 2 ^ 62) ∧ (j - i).toNat ≤ PySem.sizeLine ∧ Q (.lst true (rngD i (j - i).toNat 1)) env2) R) R := rfl
theorem zdn {a i : E} {Γ : Sig} {env : Env} {Q : KD} {R : KX} : wpE Γ (.sub a i) env Q R = bor a (fun Q2 => wpE Γ a env Q2 R) env fun x env1 => wpE Γ i env1 (fun k env2 => still a x env2 ∧ szD x ∧ (∃ n, k = .int n) ∧ ∃ el, subD x k = some el ∧ Q el.fz (shareAt a x el env2)) R := rfl
theorem zdo {a : E} {lo hi : Eo} {Γ : Sig} {env : Env} {Q : KD} {R : KX} : wpE Γ (.slc a lo hi) env Q R = wpE Γ a env (fun x env1 => wpO Γ lo env1 (fun l env2 => wpO Γ hi env2 (fun h env3 => slcD x l h fun d => Q d env3) R) R) R := rfl
theorem zdp {as : Es} {Γ : Sig} {env : Env} {Q : KD} {R : KX} : wpE Γ (.tup as) env Q R = wpEs Γ as env (fun ds env1 => ds.length ≤ PySem.sizeLine ∧ Q (.tup ds) env1) R := rfl
theorem zdq {as : Es} {Γ : Sig} {env : Env} {Q : KD} {R : KX} : wpE Γ (.lst as) env Q R = wpEs Γ as env (fun ds env1 => ds.length ≤ PySem.sizeLine ∧ Q (.lst true ds) env1) R := rfl
theorem zdr {fl : List Bool} {as : Es} {Γ : Sig} {env : Env} {Q : KD} {R : KX} : wpE Γ (.dsp fl as) env Q R = wpDs Γ as fl env (fun ds env1 => ds.length ≤ PySem.sizeLine ∧ Q (.lst true ds) env1) R := rfl
theorem zds {i : Nat} {b : E} {Γ : Sig} {env : Env} {Q : KD} {R : KX} : wpE Γ (.idx i b) env Q R = get env i fun x => ∃ xs, lstD x.fz = some xs ∧ wpE Γ b (env.set i (some x.fz)) (fun y env1 => idxD xs y fun j => Q (.int (j : Nat)) env1) R := rfl
theorem zdt {a : E} {Γ : Sig} {env : Env} {Q : KD} {R : KX} : wpE Γ (.ice a) env Q R = wpE Γ a env (fun d env1 => Q d.fz env1) R := rfl
theorem zdu {a : E} {Γ : Sig} {env : Env} {Q : KD} {R : KX} : wpE Γ (.rvl a) env Q R = wpE Γ a env (fun d env1 => ∃ xs, lstD d = some xs ∧ Q (.lst true (fzL xs).reverse) env1) R := rfl
theorem zdv {a b : E} {Γ : Sig} {env : Env} {Q : KD} {R : KX} : wpE Γ (.lzip a b) env Q R = wpE Γ a env (fun d env1 => wpE Γ b env1 (fun e env2 => ∃ xs ys, lstD d = some xs ∧ lstD e = some ys ∧ xs.length = ys.length ∧ Q (.lst true ((fzL xs).zipWith (fun x y => .tup [x, y]) (fzL ys))) env2) R) R := rfl
theorem zdw {a : E} {Γ : Sig} {env : Env} {Q : KD} {R : KX} : wpE Γ (.peek a) env Q R = wpE Γ a (fzE env) (fun d _ => flatD d = true ∧ Q d env) R := rfl
theorem zdx  : fzE [] = [] := rfl
theorem zdy {o : Option D} {env : Env} : fzE (o :: env) = o.map D.fz :: fzE env := by cases o <;> rfl
theorem zdz {b : Bool} : flatD (.bl b) = true := rfl
theorem zdA {b : Int} : flatD (.int b) = true := rfl
theorem zdB {b : Str} : flatD (.str b) = true := rfl
theorem zdC  : flatD .non = true := rfl
theorem zdD {o : Bool} {xs : List D} : seqD (.lst o xs) = some xs := rfl
theorem zdE {xs : List D} : seqD (.tup xs) = some xs := rfl
theorem zdF {as : Es} {Γ : Sig} {env : Env} {Q : KD} {R : KX} : wpE Γ (.rpr false as) env Q R = wpBs Γ as env (fun ds env1 => stills as ds env1 ∧ ds.length ≤ PySem.sizeLine ∧ biD .repr [.lst true ds] fun d => Q d env1) R := rfl
theorem zdG {as : Es} {Γ : Sig} {env : Env} {Q : KD} {R : KX} : wpE Γ (.rpr true as) env Q R = wpBs Γ as env (fun ds env1 => stills as ds env1 ∧ ds.length ≤ PySem.sizeLine ∧ biD .repr [.tup ds] fun d => Q d env1) R := rfl
theorem zdH {elt : E} {t : T} {it : I} {ifs : Es} {own : List Nat} {Γ : Sig} {env : Env} {Q : KD} {R : KX} : wpE Γ (.lc elt t it ifs own) env Q R = wpI Γ it env (fun items env1 => (items.foldr (lcStep Γ elt t ifs own) (fun acc e => Q (.lst true acc) (backE env1 own e))) [] (wipeE own env1)) R := rfl
theorem zdI {Γ : Sig} {env : Env} {Q : List D → Env → Prop} {R : KX} : wpEs Γ .nil env Q R = Q [] env := rfl
theorem zdJ {a : E} {as : Es} {Γ : Sig} {env : Env} {Q : List D → Env → Prop} {R : KX} : wpEs Γ (.cons a as) env Q R = wpE Γ a env (fun d env1 => wpEs Γ as env1 (fun ds env2 => Q (d :: ds) env2) R) R := rfl
theorem zdK {Γ : Sig} {env : Env} {Q : List D → Env → Prop} {R : KX} : wpBs Γ .nil env Q R = Q [] env := rfl
theorem zdL {a : E} {as : Es} {Γ : Sig} {env : Env} {Q : List D → Env → Prop} {R : KX} : wpBs Γ (.cons a as) env Q R = bor a (fun Q2 => wpE Γ a env Q2 R) env fun d env1 => wpBs Γ as env1 (fun ds env2 => Q (d :: ds) env2) R := rfl
theorem zdM {bs : List Bool} {Γ : Sig} {env : Env} {Q : List D → List Nat → Env → Prop} {R : KX} : wpA Γ .nil bs env Q R = Q [] [] env := rfl
theorem zdN {i : Nat} {as : Es} {bs : List Bool} {Γ : Sig} {env : Env} {Q : List D → List Nat → Env → Prop} {R : KX} : wpA Γ (.cons (.var i) as) (true :: bs) env Q R = get env i fun _ => wpA Γ as bs env (fun ds tk env2 => get env2 i fun d => Q (d :: ds) (i :: tk) (env2.set i none)) R := rfl
theorem zdO {f : String} {fs : Es} {as : Es} {bs : List Bool} {Γ : Sig} {env : Env} {Q : List D → List Nat → Env → Prop} {R : KX} : wpA Γ (.cons (.call f fs) as) (true :: bs) env Q R = wpE Γ (.call f fs) env (fun d env1 => wpA Γ as bs env1 (fun ds tk env2 => Q (d :: ds) (env2.length :: tk) env2) R) R := rfl
theorem zdP {a : E} {as : Es} {bs : List Bool} {Γ : Sig} {env : Env} {Q : List D → List Nat → Env → Prop} {R : KX} : wpA Γ (.cons a as) (false :: bs) env Q R = wpE Γ a env (fun d env1 => wpA Γ as bs env1 (fun ds tk env2 => Q (d.fz :: ds) tk env2) R) R := by cases a <;> rfl
theorem zdQ {a : E} {as : Es} {Γ : Sig} {env : Env} {Q : List D → List Nat → Env → Prop} {R : KX} : wpA Γ (.cons a as) [] env Q R = wpE Γ a env (fun d env1 => wpA Γ as [] env1 (fun ds tk env2 => Q (d.fz :: ds) tk env2) R) R := by cases a <;> rfl
theorem zdR {Γ : Sig} {env : Env} {Q : Option Int → Env → Prop} {R : KX} : wpO Γ .no env Q R = Q none env := rfl
theorem zdS {a : E} {Γ : Sig} {env : Env} {Q : Option Int → Env → Prop} {R : KX} : wpO Γ (.yes a) env Q R = wpE Γ a env (fun d env1 => ∃ i, d = .int i ∧ Q (some i) env1) R := rfl
theorem zdT {k : Bool} {a : E} {Γ : Sig} {env : Env} {Q : KD} {R : KX} : wpBo Γ k (.cons a .nil) env Q R = wpE Γ a env Q R := rfl
theorem zdU {k : Bool} {a b : E} {as : Es} {Γ : Sig} {env : Env} {Q : KD} {R : KX} : wpBo Γ k (.cons a (.cons b as)) env Q R = wpE Γ a env (fun x env1 => truD x fun c => if c = k then wpBo Γ k (.cons b as) env1 Q R else Q x env1) R := rfl
theorem zdV {a : E} {Γ : Sig} {env : Env} {Q : Bool → Env → Prop} {R : KX} : wpT Γ (.nt a) env Q R = wpT Γ a env (fun c env1 => Q (!c) env1) R := rfl
theorem zdW {k : Bool} {as : Es} {Γ : Sig} {env : Env} {Q : Bool → Env → Prop} {R : KX} : wpT Γ (.bo k as) env Q R = wpTo Γ k as env Q R := rfl
theorem zdX {o : CO} {a b : E} {Γ : Sig} {env : Env} {Q : Bool → Env → Prop} {R : KX} : wpT Γ (.cmp o a b) env Q R = bor a (fun Q2 => wpE Γ a env Q2 R) env fun x env1 => bor b (fun Q2 => wpE Γ b env1 Q2 R) env1 fun y env2 => still a x env2 ∧ cmpD o x y fun c => Q c env2 := rfl
theorem zdY {o p : CO} {a b c : E} {Γ : Sig} {env : Env} {Q : Bool → Env → Prop} {R : KX} : wpT Γ (.chn o p a b c) env Q R = wpE Γ a env (fun x env1 => wpE Γ b env1 (fun y env2 => cmpD o x y fun k => if k = true then wpE Γ c env2 (fun z env3 => cmpD p y z fun k2 => Q k2 env3) R else Q false env2) R) R := rfl
theorem zdZ {o p q : CO} {a b c d : E} {Γ : Sig} {env : Env} {Q : Bool → Env → Prop} {R : KX} : wpT Γ (.chn3 o p q a b c d) env Q R = wpE Γ a env (fun x env1 => wpE Γ b env1 (fun y env2 => cmpD o x y fun k => if k = true then wpE Γ c env2 (fun z env3 => cmpD p y z fun k2 => if k2 = true then wpE Γ d env3 (fun u env4 => cmpD q z u fun k3 => Q k3 env4) R else Q false env3) R else Q false env2) R) R := rfl
theorem zea {o p q q2 : CO} {a b c d f : E} {Γ : Sig} {env : Env} {Q : Bool → Env → Prop} {R : KX} : wpT Γ (.chn4 o p q q2 a b c d f) env Q R = wpE Γ a env (fun x env1 => wpE Γ b env1 (fun y env2 => cmpD o x y fun k => if k = true then wpE Γ c env2 (fun z env3 => cmpD p y z fun k2 => if k2 = true then wpE Γ d env3 (fun u env4 => cmpD q z u fun k3 => if k3 = true then wpE Γ f env4 (fun v env5 => cmpD q2 u v fun k4 => Q k4 env5) R else Q false env4) R else Q false env3) R else Q false env2) R) R := rfl
theorem zeb {a : E} {t : String} {Γ : Sig} {env : Env} {Q : Bool → Env → Prop} {R : KX} : wpT Γ (.isi a t) env Q R = bor a (fun Q2 => wpE Γ a env Q2 R) env fun x env1 => ∃ b, isiD x t = some b ∧ Q b env1 := rfl
theorem zec {a : E} {ks : List String} {Γ : Sig} {env : Env} {Q : Bool → Env → Prop} {R : KX} : wpT Γ (.isc a ks) env Q R = bor a (fun Q2 => wpE Γ a env Q2 R) env fun x env1 => ∃ b, isxD x ks = some b ∧ Q b env1 := rfl
theorem zed {f : String} {as : Es} {Γ : Sig} {env : Env} {Q : Bool → Env → Prop} {R : KX} : wpT Γ (.call f as) env Q R = wpA Γ as (Γ.ios f) env (fun ds tk env1 => Γ.sp f ds (fun r outs => outs.length = tk.length ∧ truD r fun b => Q b (putAll tk outs env1)) fun x => R x env1) R := rfl
theorem zee {i : Nat} {Γ : Sig} {env : Env} {Q : Bool → Env → Prop} {R : KX} : wpT Γ (.var i) env Q R = get env i fun d => truD d fun b => Q b env := rfl
theorem zef {b : BI} {as : Es} {Γ : Sig} {env : Env} {Q : Bool → Env → Prop} {R : KX} : wpT Γ (.bi b as) env Q R = wpBs Γ as env (fun ds env1 => stills as ds env1 ∧ biD b ds fun d => truD d fun k => Q k env1) R := rfl
theorem zeg {k : Bool} {a : E} {Γ : Sig} {env : Env} {Q : Bool → Env → Prop} {R : KX} : wpTo Γ k (.cons a .nil) env Q R = wpT Γ a env Q R := rfl
theorem zeh {k : Bool} {a b : E} {as : Es} {Γ : Sig} {env : Env} {Q : Bool → Env → Prop} {R : KX} : wpTo Γ k (.cons a (.cons b as)) env Q R = wpT Γ a env (fun c env1 => if c = k then wpTo Γ k (.cons b as) env1 Q R else Q (!k) env1) R := rfl
theorem zei {Γ : Sig} {env : Env} {Q : Bool → Env → Prop} {R : KX} : wpTs Γ .nil env Q R = Q true env := rfl
theorem zej {a : E} {Γ : Sig} {env : Env} {Q : Bool → Env → Prop} {R : KX} : wpTs Γ (.cons a .nil) env Q R = wpT Γ a env Q R := rfl
theorem zek {a : E} {Γ : Sig} {env : Env} {Q : Bool → Env → Prop} {R : KX} : wpT Γ (.peek a) env Q R = wpT Γ a (fzE env) (fun b _ => Q b env) R := rfl
theorem zel {fl : List Bool} {Γ : Sig} {env : Env} {Q : List D → Env → Prop} {R : KX} : wpDs Γ .nil fl env Q R = Q [] env := rfl
theorem zem {a : E} {as : Es} {bs : List Bool} {Γ : Sig} {env : Env} {Q : List D → Env → Prop} {R : KX} : wpDs Γ (.cons a as) (true :: bs) env Q R = wpE Γ a env (fun d env1 => ∃ xs, seqD d = some xs ∧ wpDs Γ as bs env1 (fun ds env2 => Q (fzL xs ++ ds) env2) R) R := rfl
theorem zen {a : E} {as : Es} {bs : List Bool} {Γ : Sig} {env : Env} {Q : List D → Env → Prop} {R : KX} : wpDs Γ (.cons a as) (false :: bs) env Q R = wpE Γ a env (fun d env1 => wpDs Γ as bs env1 (fun ds env2 => Q (d :: ds) env2) R) R := rfl
theorem zeo {a : E} {as : Es} {Γ : Sig} {env : Env} {Q : List D → Env → Prop} {R : KX} : wpDs Γ (.cons a as) [] env Q R = wpE Γ a env (fun d env1 => wpDs Γ as [] env1 (fun ds env2 => Q (d :: ds) env2) R) R := rfl
theorem zep {a : E} {Γ : Sig} {env : Env} {Q : List D → Env → Prop} {R : KX} : wpI Γ (.ex a) env Q R = wpE Γ a env (fun d env1 => ∃ xs, iterD d = some xs ∧ Q (fzL xs) env1) R := rfl
theorem zeq {a : E} {Γ : Sig} {env : Env} {Q : List D → Env → Prop} {R : KX} : wpI Γ (.rng1 a) env Q R = wpE Γ a env (fun d env1 => ∃ n, d = .int n ∧ -(2 ^ 62) ≤ n ∧ n < 2 ^ 62 ∧ Q (rngD 0 n.toNat 1) env1) R := rfl
theorem zer {a b : E} {Γ : Sig} {env : Env} {Q : List D → Env → Prop} {R : KX} : wpI Γ (.rng2 a b) env Q R = wpE Γ a env (fun d env1 => wpE Γ b env1 (fun e env2 => ∃ i j, d = .int i ∧ e = .int j ∧ (-(2 ^ 62) ≤ i ∧ i < 2 ^ 62 ∧ -(2 ^ 62) ≤ j ∧ j < 2 ^ 62) ∧ Q (rngD i (j - i).toNat 1) env2) R) R := rfl
theorem zes {a b c : E} {Γ : Sig} {env : Env} {Q : List D → Env → Prop} {R : KX} : wpI Γ (.rng3 a b c) env Q R = wpE Γ a env (fun d env1 => wpE Γ b env1 (fun e env2 => wpE Γ c env2 (fun f env3 => ∃ i j s n, d = .int i ∧ e = .int j ∧ f = .int s ∧ L2.RgC i j s n ∧ Q (rngD i n s) env3) R) R) R := rfl
theorem zet {a b : E} {Γ : Sig} {env : Env} {Q : List D → Env → Prop} {R : KX} : wpI Γ (.zip2 a b) env Q R = wpE Γ a env (fun d env1 => wpE Γ b env1 (fun e env2 => ∃ xs ys, lstD d = some xs ∧ lstD e = some ys ∧ Q ((fzL xs).zipWith (fun x y => .tup [x, y]) (fzL ys)) env2) R) R := rfl
theorem zeu {a b c : E} {Γ : Sig} {env : Env} {Q : List D → Env → Prop} {R : KX} : wpI Γ (.zip3 a b c) env Q R = wpE Γ a env (fun d env1 => wpE Γ b env1 (fun e env2 => wpE Γ c env2 (fun f env3 => ∃ xs ys zs, lstD d = some xs ∧ lstD e = some ys ∧ lstD f = some zs ∧ Q ((((fzL xs).zip (fzL ys)).zip (fzL zs)).map fun p => .tup [p.1.1, p.1.2, p.2]) env3) R) R) R := rfl
theorem zev {a : E} {Γ : Sig} {env : Env} {Q : List D → Env → Prop} {R : KX} : wpI Γ (.enum a) env Q R = wpE Γ a env (fun d env1 => ∃ xs, lstD d = some xs ∧ Q ((fzL xs).zipIdx.map fun p => .tup [.int p.2, p.1]) env1) R := rfl
theorem zew {a : E} {Γ : Sig} {env : Env} {Q : List D → Env → Prop} {R : KX} : wpI Γ (.rev a) env Q R = wpE Γ a env (fun d env1 => ∃ xs, lstD d = some xs ∧ Q (fzL xs).reverse env1) R := rfl
theorem zex {k : Int} {a : E} {Γ : Sig} {env : Env} {Q : List D → Env → Prop} {R : KX} : wpI Γ (.enk k a) env Q R = wpE Γ a env (fun d env1 => ∃ xs, lstD d = some xs ∧ Q ((fzL xs).zipIdx.map fun p => .tup [.int (k + (p.2 : Nat)), p.1]) env1) R := rfl
theorem zey {t : T} {e : E} {Γ : Sig} {env : Env} {K : Con} : wpS Γ (.asg t e) env K = wpE Γ e env (fun d env1 => setT Γ.me t d env1 K.nx) K.ex := rfl
theorem zez {is : List Nat} {es : Es} {Γ : Sig} {env : Env} {K : Con} : wpS Γ (.par is es) env K = wpEs Γ es env (fun ds env1 => ds.length = is.length ∧ is.all (fun i => decide (i ∉ Γ.me ∧ i < env1.length)) = true ∧ K.nx (putAll is ds env1)) K.ex := rfl
theorem zeA {i : Nat} {ix e : E} {Γ : Sig} {env : Env} {K : Con} : wpS Γ (.pst i ix e) env K = wpE Γ e env (fun d env1 => get env1 i fun _ => wpE Γ ix env1 (fun k env2 => get env2 i fun x => ∃ xs n j, x = .lst true xs ∧ k = .int n ∧ L2.ixN xs.length n = some j ∧ K.nx (env2.set i (some (.lst true (xs.set j d))))) K.ex) K.ex := rfl
theorem zeB {i : Nat} {ix e : E} {o : Op} {Γ : Sig} {env : Env} {K : Con} : wpS Γ (.pag i ix o e) env K = get env i fun _ => wpE Γ ix env (fun k env1 => get env1 i fun x => ∃ xs n el, x = .lst true xs ∧ k = .int n ∧ L2.atI xs n = some el ∧ flatD el = true ∧ wpE Γ e env1 (fun d env2 => augD o el d fun r => get env2 i fun y => ∃ ys j, y = .lst true ys ∧ L2.ixN ys.length n = some j ∧ K.nx (env2.set i (some (.lst true (ys.set j r))))) K.ex) K.ex := rfl
theorem zeC {i : Nat} {o : Op} {e : E} {Γ : Sig} {env : Env} {K : Con} : wpS Γ (.aug i o e) env K = get env i fun x => flatD x = true ∧ i ∉ Γ.me ∧ wpE Γ e env (fun d env1 => augD o x d fun r => K.nx (env1.set i (some r))) K.ex := rfl
theorem zeD {i : Nat} {e : E} {Γ : Sig} {env : Env} {K : Con} : wpS Γ (.app i e) env K = get env i fun x => (∃ xs, x = .lst true xs) ∧ wpE Γ e env (fun d env1 => get env1 i fun y => ∃ ys, y = .lst true ys ∧ ys.length < PySem.sizeLine ∧ K.nx (env1.set i (some (.lst true (ys ++ [d]))))) K.ex := rfl
theorem zeE {i : Nat} {ks : List Nat} {d d2 : D} {Γ : Sig} {env : Env} {K : Con} : wpS Γ (.pat i ks d d2) env K = get env i fun x => (flatD d = true ∧ flatD d2 = true) ∧ appAt ks (.tup [d, d2]) x fun y => K.nx (env.set i (some y)) := rfl
theorem zeF {i : Nat} {ks : List Nat} {d : D} {Γ : Sig} {env : Env} {K : Con} : wpS Γ (.pap i ks d) env K = get env i fun x => flatD d = true ∧ appAt ks d x fun y => K.nx (env.set i (some y)) := rfl
theorem zeG {i j : Nat} {ks k2 : List Nat} {d : D} {Γ : Sig} {env : Env} {K : Con} : wpS Γ (.fpa j i ks k2 d) env K = get env i fun x => flatD d = true ∧ j ≠ i ∧ j ∉ Γ.me ∧ j < env.length ∧ eachAt ks k2 d x fun y => K.nx ((env.set i (some y)).set j none) := rfl
theorem zeH {i : Nat} {e : E} {Γ : Sig} {env : Env} {K : Con} : wpS Γ (.ins i e) env K = get env i fun x => (∃ xs, x = .lst true xs) ∧ wpE Γ e env (fun d env1 => get env1 i fun y => ∃ ys, y = .lst true ys ∧ ys.length < PySem.sizeLine ∧ K.nx (env1.set i (some (.lst true (d :: ys))))) K.ex := rfl
theorem zeI {i : Nat} {e : E} {Γ : Sig} {env : Env} {K : Con} : wpS Γ (.ext i e) env K = get env i fun x => (∃ xs, x = .lst true xs) ∧ wpE Γ e env (fun d env1 => ∃ zs, d = .lst true zs ∧ get env1 i fun y => ∃ ys, y = .lst true ys ∧ ys.length + zs.length ≤ PySem.sizeLine ∧ K.nx (env1.set i (some (.lst true (ys ++ zs))))) K.ex := rfl
theorem zeJ {i j : Nat} {ix e e2 : E} {Γ : Sig} {env : Env} {K : Con} : wpS Γ (.psa i ix e j e2) env K = wpE Γ e env (fun d env1 => wpE Γ e2 env1 (fun d2 env2 => d.isFz = true ∧ d2.isFz = true ∧ get env2 i fun _ => wpE Γ ix env2 (fun k env3 => get env3 i fun x => ∃ xs n m, x = .lst true xs ∧ k = .int n ∧ L2.ixN xs.length n = some m ∧ j ∉ Γ.me ∧ j < env3.length ∧ K.nx ((env3.set i (some (.lst true (xs.set m d)))).set j (some d2))) K.ex) K.ex) K.ex := rfl
theorem zeK {d : D} {xs : List D} {Q : D → Prop} : appAt [] d (.lst true xs) Q = (xs.length < PySem.sizeLine ∧ Q (.lst true (xs ++ [d]))) := rfl
theorem zeL {k : Nat} {ks : List Nat} {d : D} {xs : List D} {Q : D → Prop} : appAt (k :: ks) d (.lst true xs) Q = ∃ x, xs[k]? = some x ∧ appAt ks d x fun y => Q (.lst true (xs.set k y)) := rfl
theorem zeM {k : Nat} {ks : List Nat} {d : D} {xs : List D} {Q : D → Prop} : appAt (k :: ks) d (.tup xs) Q = ∃ x, xs[k]? = some x ∧ appAt ks d x fun y => Q (.tup (xs.set k y)) := rfl
theorem zeN {ks : List Nat} {d : D} {P : List D → Prop} : appAll ks d [] P = P [] := rfl
theorem zeO {ks : List Nat} {d x : D} {xs : List D} {P : List D → Prop} : appAll ks d (x :: xs) P = appAt ks d x fun y => appAll ks d xs fun ys => P (y :: ys) := rfl
theorem zeP {k2 : List Nat} {d : D} {xs : List D} {Q : D → Prop} : eachAt [] k2 d (.lst true xs) Q = appAll k2 d xs fun ys => Q (.lst true ys) := rfl
theorem zeQ {k : Nat} {ks k2 : List Nat} {d : D} {xs : List D} {Q : D → Prop} : eachAt (k :: ks) k2 d (.lst true xs) Q = ∃ x, xs[k]? = some x ∧ eachAt ks k2 d x fun y => Q (.lst true (xs.set k y)) := rfl
theorem zeR {k : Nat} {ks k2 : List Nat} {d : D} {xs : List D} {Q : D → Prop} : eachAt (k :: ks) k2 d (.tup xs) Q = ∃ x, xs[k]? = some x ∧ eachAt ks k2 d x fun y => Q (.tup (xs.set k y)) := rfl
theorem zeS {e : E} {Γ : Sig} {env : Env} {K : Con} : wpS Γ (.exp e) env K = wpE Γ e env (fun _ env1 => K.nx env1) K.ex := rfl
theorem zeT {c : E} {a b : Ss} {Γ : Sig} {env : Env} {K : Con} : wpS Γ (.ite c a b) env K = wpT Γ c env (fun k env1 => if k = true then wpSs Γ a env1 K else wpSs Γ b env1 K) K.ex := rfl
theorem zeU {t : T} {it : I} {b : Ss} {Γ : Sig} {env : Env} {K : Con} : wpS Γ (.for_ t it b) env K = wpI Γ it env (fun items env1 => (items.foldr (forStep Γ t b K) K.nx) env1) K.ex := rfl
theorem zeV {e : E} {Γ : Sig} {env : Env} {K : Con} : wpS Γ (.ret e) env K = wpE Γ e env K.rt K.ex := rfl
theorem zeW {Γ : Sig} {env : Env} {K : Con} : wpS Γ .rtn env K = K.rt .non env := rfl
theorem zeX {Γ : Sig} {env : Env} {K : Con} : wpS Γ .brk env K = K.bk env := rfl
theorem zeY {Γ : Sig} {env : Env} {K : Con} : wpS Γ .cnt env K = K.ct env := rfl
theorem zeZ {Γ : Sig} {env : Env} {K : Con} : wpS Γ .pas env K = K.nx env := rfl
theorem zfa {Γ : Sig} {env : Env} {K : Con} : wpS Γ .nev env K = False := rfl
theorem zfb {c : String} {e : E} {Γ : Sig} {env : Env} {K : Con} : wpS Γ (.rs0 c e) env K = wpE Γ e env (fun _ env1 => K.ex ⟨c, [], []⟩ env1) K.ex := rfl
theorem zfc {c f : String} {e : E} {Γ : Sig} {env : Env} {K : Con} : wpS Γ (.rs1 c f e) env K = wpE Γ e env (fun d env1 => K.ex ⟨c, [f], [d.fz]⟩ env1) K.ex := rfl
theorem zfd {b : Ss} {hs : Hs} {Γ : Sig} {env : Env} {K : Con} : wpS Γ (.try_ b hs) env K = wpSs Γ b env { K with ex := fun x env1 => wpHs Γ hs x env1 K } := rfl
theorem zfe {x : Exc} {Γ : Sig} {env : Env} {K : Con} : wpHs Γ .nil x env K = K.ex x env := rfl
theorem zff {c : String} {b : Ss} {hs : Hs} {x : Exc} {Γ : Sig} {env : Env} {K : Con} : wpHs Γ (.cons c none b hs) x env K = ∃ k, subX x.cls c = some k ∧ if k = true then wpSs Γ b env { K with ex := fun _ _ => False } else wpHs Γ hs x env K := rfl
theorem zfg {c : String} {i : Nat} {b : Ss} {hs : Hs} {x : Exc} {Γ : Sig} {env : Env} {K : Con} : wpHs Γ (.cons c (some i) b hs) x env K = ∃ k, subX x.cls c = some k ∧ if k = true then (i ∉ Γ.me ∧ i < env.length ∧ wpSs Γ b (env.set i (some (.exc x.cls x.fs x.xs))) { nx := fun e => K.nx (e.set i none), rt := K.rt, bk := fun e => K.bk (e.set i none), ct := fun e => K.ct (e.set i none), ex := fun _ _ => False }) else wpHs Γ hs x env K := rfl
theorem zfh {Γ : Sig} {env : Env} {K : Con} : wpSs Γ .nil env K = K.nx env := rfl
theorem zfi {a : S} {as : Ss} {Γ : Sig} {env : Env} {K : Con} : wpSs Γ (.cons a as) env K = wpS Γ a env { K with nx := fun e => wpSs Γ as e K } := rfl
theorem zfj {i j : Int} {Q : D → Prop} : binD .add (.int i) (.int j) Q = Q (.int (i + j)) := rfl
theorem zfk {i j : Int} {Q : D → Prop} : binD .sub (.int i) (.int j) Q = Q (.int (i - j)) := rfl
theorem zfl {i j : Int} {Q : D → Prop} : binD .mul (.int i) (.int j) Q = (L2.CMulW i j ∧ Q (.int (i * j))) := rfl
theorem zfm {i j : Int} {Q : D → Prop} : binD .fdiv (.int i) (.int j) Q = (L2.CDivW i j ∧ Q (.int (i / j))) := rfl
theorem zfn {i j : Int} {Q : D → Prop} : binD .mod (.int i) (.int j) Q = (0 < j ∧ Q (.int (i % j))) := rfl
theorem zfo {i j : Int} {Q : D → Prop} : binD .pow (.int i) (.int j) Q = (PowOk i j ∧ Q (.int (i ^ j.toNat))) := rfl
theorem zfp {i j : Int} {Q : D → Prop} : binD .shl (.int i) (.int j) Q = (L2.CPow i j ∧ Q (.int (i * 2 ^ j.toNat))) := rfl
theorem zfq {i j : Int} {Q : D → Prop} : binD .shr (.int i) (.int j) Q = (0 ≤ j ∧ Q (.int (i / 2 ^ j.toNat))) := rfl
theorem zfr {o p : Bool} {a b : List D} {Q : D → Prop} : binD .add (.lst o a) (.lst p b) Q = (a.length + b.length ≤ PySem.sizeLine ∧ Q (.lst true (a ++ b))) := rfl
theorem zfs {o : Bool} {a : List D} {k : Int} {Q : D → Prop} : binD .mul (.lst o a) (.int k) Q = (-(2 ^ 63) ≤ k ∧ k < 2 ^ 63 ∧ a.length * k.toNat ≤ PySem.sizeLine ∧ Q (.lst true (repD (fzL a) k.toNat))) := rfl
theorem zft {i j : Int} {Q : D → Prop} : augD .add (.int i) (.int j) Q = Q (.int (i + j)) := rfl
theorem zfu {i j : Int} {Q : D → Prop} : augD .sub (.int i) (.int j) Q = Q (.int (i - j)) := rfl
theorem zfv {i j : Int} {Q : D → Prop} : augD .mul (.int i) (.int j) Q = (L2.CMulW i j ∧ Q (.int (i * j))) := rfl
theorem zfw {i j : Int} {Q : D → Prop} : augD .mod (.int i) (.int j) Q = (0 < j ∧ Q (.int (i % j))) := rfl
theorem zfx {i j : Int} {Q : Bool → Prop} : cmpD .eq (.int i) (.int j) Q = Q (decide (i = j)) := eq_int i j Q
theorem zfy {i j : Int} {Q : Bool → Prop} : cmpD .ne (.int i) (.int j) Q = Q (!decide (i = j)) := eq_int i j fun b => Q (!b)
theorem zfz {i j : Str} {Q : Bool → Prop} : cmpD .eq (.str i) (.str j) Q = Q (decide (i = j)) := rfl
theorem zfA {i j : Str} {Q : Bool → Prop} : cmpD .ne (.str i) (.str j) Q = Q (!decide (i = j)) := rfl
theorem zfB {i j : Bool} {Q : Bool → Prop} : cmpD .eq (.bl i) (.bl j) Q = Q (decide (i = j)) := eq_bl i j Q
theorem zfC {i j : Bool} {Q : Bool → Prop} : cmpD .ne (.bl i) (.bl j) Q = Q (!decide (i = j)) := eq_bl i j fun b => Q (!b)
theorem zfD {o p : Bool} {xs : List Int} {Q : Bool → Prop} : cmpD .eq (.lst o (IL xs)) (.lst p []) Q = Q xs.isEmpty := eq_nil
theorem zfE {o p : Bool} {xs : List Int} {Q : Bool → Prop} : cmpD .ne (.lst o (IL xs)) (.lst p []) Q = Q (!xs.isEmpty) := eq_nil (Q := fun b => Q (!b))
theorem zfF {i j : Int} {Q : Bool → Prop} : cmpD .lt (.int i) (.int j) Q = Q (decide (i < j)) := rfl
theorem zfG {i j : Int} {Q : Bool → Prop} : cmpD .le (.int i) (.int j) Q = Q (decide (i ≤ j)) := rfl
theorem zfH {i j : Int} {Q : Bool → Prop} : cmpD .gt (.int i) (.int j) Q = Q (decide (j < i)) := rfl
theorem zfI {i j : Int} {Q : Bool → Prop} : cmpD .ge (.int i) (.int j) Q = Q (decide (j ≤ i)) := rfl
theorem zfJ {x : D} {Q : Bool → Prop} : cmpD .is_ x .non Q = Q x.isNon := by cases x <;> rfl
theorem zfK {x : D} {Q : Bool → Prop} : cmpD .isnt x .non Q = Q (!x.isNon) := by cases x <;> rfl
theorem zfL {o p : Bool} {xs : List D} {Q : Bool → Prop} : cmpD .eqn (.lst o xs) (.lst p []) Q = Q xs.isEmpty := rfl
theorem zfM {a b : Bool} {Q : Bool → Prop} : cmpD .is_ (.bl a) (.bl b) Q = Q (decide (a = b)) := rfl
theorem zfN {a b : Bool} {Q : Bool → Prop} : cmpD .isnt (.bl a) (.bl b) Q = Q (!decide (a = b)) := rfl
theorem zfO {b : Bool} {Q : Bool → Prop} : truD (.bl b) Q = Q b := propext ⟨fun h => h.2, fun h => ⟨trivial, h⟩⟩
theorem zfP {i : Int} {Q : Bool → Prop} : truD (.int i) Q = Q (i != 0) := propext ⟨fun h => h.2, fun h => ⟨trivial, h⟩⟩
theorem zfQ {o : Bool} {xs : List D} {Q : Bool → Prop} : truD (.lst o xs) Q = Q (!xs.isEmpty) := propext ⟨fun h => h.2, fun h => ⟨trivial, h⟩⟩
theorem zfR {xs : List D} {Q : Bool → Prop} : truD (.tup xs) Q = Q (!xs.isEmpty) := propext ⟨fun h => h.2, fun h => ⟨trivial, h⟩⟩
theorem zfS {o : Bool} {xs : List D} : szD (.lst o xs) = True := rfl
theorem zfT {xs : List D} : szD (.tup xs) = True := rfl
theorem zfU {o : Bool} {xs : List D} {i : Int} : subD (.lst o xs) (.int i) = L2.atI xs i := rfl
theorem zfV {xs : List D} {i : Int} : subD (.tup xs) (.int i) = L2.atI xs i := rfl
theorem zfW {o : Bool} {xs : List D} {lo hi : Option Int} {Q : D → Prop} : slcD (.lst o xs) lo hi Q = Q (.lst true (fzL (cutD xs lo hi))) := rfl
theorem zfX {xs : List D} {lo hi : Option Int} {Q : D → Prop} : slcD (.tup xs) lo hi Q = ((cutD xs lo hi).length ≠ xs.length ∧ Q (.tup (fzL (cutD xs lo hi)))) := rfl
theorem zfY {o : Bool} {xs : List D} : iterD (.lst o xs) = some xs := rfl
theorem zfZ {xs : List D} : iterD (.tup xs) = some xs := rfl
theorem zga {o : Bool} {xs : List D} : lstD (.lst o xs) = some xs := rfl
theorem zgb {o : Bool} {xs : List D} {Q : D → Prop} : biD .len [.lst o xs] Q = Q (.int xs.length) := rfl
theorem zgc {xs : List D} {Q : D → Prop} : biD .len [.tup xs] Q = Q (.int xs.length) := rfl
theorem zgd {i : Int} {Q : D → Prop} : biD .abs [.int i] Q = Q (.int (if i < 0 then -i else i)) := rfl
theorem zge {i j : Int} {Q : D → Prop} : biD .min2 [.int i, .int j] Q = Q (.int (if j < i then j else i)) := rfl
theorem zgf {i j : Int} {Q : D → Prop} : biD .max2 [.int i, .int j] Q = Q (.int (if j > i then j else i)) := rfl
theorem zgg {i j k : Int} {Q : D → Prop} : biD .min3 [.int i, .int j, .int k] Q = Q (.int (let m := if j < i then j else i; if k < m then k else m)) := rfl
theorem zgh {i j k : Int} {Q : D → Prop} : biD .max3 [.int i, .int j, .int k] Q = Q (.int (let m := if j > i then j else i; if k > m then k else m)) := rfl
theorem zgi {i : Int} {Q : D → Prop} : biD .int [.int i] Q = Q (.int i) := rfl
theorem zgj {b : Bool} {Q : D → Prop} : biD .int [.bl b] Q = Q (.int (if b then 1 else 0)) := rfl
theorem zgk {o : Bool} {xs : List D} {Q : D → Prop} : biD .list [.lst o xs] Q = (isFzL xs = true ∧ Q (.lst true xs)) := rfl
theorem zgl {xs : List D} {Q : D → Prop} : biD .list [.tup xs] Q = (isFzL xs = true ∧ Q (.lst true xs)) := rfl
theorem zgm {o : Bool} {xs : List D} {Q : D → Prop} : biD .tuple [.lst o xs] Q = (isFzL xs = true ∧ Q (.tup xs)) := rfl
theorem zgn {i : Int} {Q : D → Prop} : biD .str [.int i] Q = (i.natAbs.log2 < 1920 ∧ Q (.str (toString i))) := rfl
theorem zgo {i : Int} {Q : D → Prop} : biD .bool [.int i] Q = Q (.bl (i != 0)) := rfl
theorem zgp {o : Bool} {xs : List D} {Q : D → Prop} : biD .all [.lst o xs] Q = (∃ bs, blsD xs = some bs ∧ Q (.bl (bs.all id))) := rfl
theorem zgq {o : Bool} {xs : List D} {Q : D → Prop} : biD .any [.lst o xs] Q = (∃ bs, blsD xs = some bs ∧ Q (.bl (bs.any id))) := rfl
theorem zgr {o : Bool} {xs : List D} {Q : D → Prop} : biD .sum [.lst o xs] Q = (∃ ns, intsD xs = some ns ∧ Q (.int ns.sum)) := rfl
theorem zgs  : D.fz .non = .non := rfl
theorem zgt {b : Bool} : D.fz (.bl b) = .bl b := rfl
theorem zgu {i : Int} : D.fz (.int i) = .int i := rfl
theorem zgv {s : Str} : D.fz (.str s) = .str s := rfl
theorem zgw {xs : List D} : D.fz (.tup xs) = .tup (fzL xs) := by rw [D.fz]
theorem zgx {o : Bool} {xs : List D} : D.fz (.lst o xs) = .lst false (fzL xs) := by rw [D.fz]
theorem zgy  : fzL [] = [] := rfl
theorem zgz {x : D} {xs : List D} : fzL (x :: xs) = x.fz :: fzL xs := rfl
theorem zgA {i : Int} : D.isFz (.int i) = true := rfl
theorem zgB {b : Bool} : D.isFz (.bl b) = true := rfl
theorem zgC  : D.isFz .non = true := rfl
theorem zgD {s : Str} : D.isFz (.str s) = true := rfl
theorem zgE {xs : List D} : D.isFz (.lst false xs) = isFzL xs := by simp [D.isFz]
theorem zgF {xs : List D} : D.isFz (.tup xs) = isFzL xs := by simp [D.isFz]
theorem zgG {xs : List D} : D.isFz (.lst true xs) = false := by simp [D.isFz]
theorem zgH {c : String} {fs : List String} {xs : List D} : D.fz (.exc c fs xs) = .exc c fs (fzL xs) := by rw [D.fz]
theorem zgI {o : Bool} {ks : List L2.Key} {xs : List D} : D.fz (.dct o ks xs) = .dct false ks (fzL xs) := by rw [D.fz]
theorem zgJ {c : String} {fs : List String} {xs : List D} : D.isFz (.exc c fs xs) = isFzL xs := by simp [D.isFz]
theorem zgK {ks : List L2.Key} {xs : List D} : D.isFz (.dct false ks xs) = isFzL xs := by simp [D.isFz]
theorem zgL {ks : List L2.Key} {xs : List D} : D.isFz (.dct true ks xs) = false := by simp [D.isFz]
theorem zgM {o : Bool} {ks : List L2.Key} {xs : List D} {Q : Bool → Prop} : truD (.dct o ks xs) Q = Q (!xs.isEmpty) := propext ⟨fun h => h.2, fun h => ⟨trivial, h⟩⟩
theorem zgN {c : String} {fs : List String} {xs : List D} {ks : List String} : isxD (.exc c fs xs) ks = subXs c ks := rfl
theorem zgO  : isFzL [] = true := rfl
theorem zgP {x : D} {xs : List D} : isFzL (x :: xs) = (x.isFz && isFzL xs) := rfl
theorem zgQ {env : Env} : outsOf env [] = some [] := rfl
theorem zgR {d : D} {env : Env} {is : List Nat} : outsOf (some d :: env) (0 :: is) = (outsOf (some d :: env) is).map (d :: ·) := rfl
theorem zgS {o : Option D} {d : D} {env : Env} {is : List Nat} : outsOf (o :: some d :: env) (1 :: is) = (outsOf (o :: some d :: env) is).map (d :: ·) := rfl
theorem zgT  : ((0 : Nat) : Int) = 0 := rfl
theorem zgU  : ((1 : Nat) : Int) = 1 := rfl
theorem zgV  : ((2 : Nat) : Int) = 2 := rfl
theorem zgW  : ((3 : Nat) : Int) = 3 := rfl
theorem zgX  : ((4 : Nat) : Int) = 4 := rfl
theorem zgY  : ((5 : Nat) : Int) = 5 := rfl
theorem zgZ  : ((6 : Nat) : Int) = 6 := rfl
theorem zha  : ((7 : Nat) : Int) = 7 := rfl
theorem zhb  : ((8 : Nat) : Int) = 8 := rfl
theorem zhc  : ((9 : Nat) : Int) = 9 := rfl
theorem zhd  : ((10 : Nat) : Int) = 10 := rfl
theorem zhe  : ((11 : Nat) : Int) = 11 := rfl
theorem zhf  : ((12 : Nat) : Int) = 12 := rfl
theorem zhg  : (0 < PySem.sizeLine) = True := eq_true (Nat.le_of_ble_eq_true rfl)
theorem zhh  : (1 < PySem.sizeLine) = True := eq_true (Nat.le_of_ble_eq_true rfl)
theorem zhi  : (2 < PySem.sizeLine) = True := eq_true (Nat.le_of_ble_eq_true rfl)
theorem zhj  : (3 < PySem.sizeLine) = True := eq_true (Nat.le_of_ble_eq_true rfl)
theorem zhk  : (4 < PySem.sizeLine) = True := eq_true (Nat.le_of_ble_eq_true rfl)
theorem zhl  : (5 < PySem.sizeLine) = True := eq_true (Nat.le_of_ble_eq_true rfl)
theorem zhm  : (6 < PySem.sizeLine) = True := eq_true (Nat.le_of_ble_eq_true rfl)
theorem zhn  : (7 < PySem.sizeLine) = True := eq_true (Nat.le_of_ble_eq_true rfl)
theorem zho  : (8 < PySem.sizeLine) = True := eq_true (Nat.le_of_ble_eq_true rfl)
theorem zhp  : (9 < PySem.sizeLine) = True := eq_true (Nat.le_of_ble_eq_true rfl)
theorem zhq  : (10 < PySem.sizeLine) = True := eq_true (Nat.le_of_ble_eq_true rfl)
theorem zhr  : (11 < PySem.sizeLine) = True := eq_true (Nat.le_of_ble_eq_true rfl)
theorem zhs  : (12 < PySem.sizeLine) = True := eq_true (Nat.le_of_ble_eq_true rfl)
theorem zht  : (0 ≤ PySem.sizeLine) = True := eq_true (Nat.le_of_ble_eq_true rfl)
theorem zhu  : (1 ≤ PySem.sizeLine) = True := eq_true (Nat.le_of_ble_eq_true rfl)
theorem zhv  : (2 ≤ PySem.sizeLine) = True := eq_true (Nat.le_of_ble_eq_true rfl)
theorem zhw  : (3 ≤ PySem.sizeLine) = True := eq_true (Nat.le_of_ble_eq_true rfl)
theorem zhx  : (4 ≤ PySem.sizeLine) = True := eq_true (Nat.le_of_ble_eq_true rfl)
theorem zhy  : (5 ≤ PySem.sizeLine) = True := eq_true (Nat.le_of_ble_eq_true rfl)
theorem zhz  : (6 ≤ PySem.sizeLine) = True := eq_true (Nat.le_of_ble_eq_true rfl)
theorem zhA  : (7 ≤ PySem.sizeLine) = True := eq_true (Nat.le_of_ble_eq_true rfl)
theorem zhB  : (8 ≤ PySem.sizeLine) = True := eq_true (Nat.le_of_ble_eq_true rfl)
theorem zhC  : (9 ≤ PySem.sizeLine) = True := eq_true (Nat.le_of_ble_eq_true rfl)
theorem zhD  : (10 ≤ PySem.sizeLine) = True := eq_true (Nat.le_of_ble_eq_true rfl)
theorem zhE  : (11 ≤ PySem.sizeLine) = True := eq_true (Nat.le_of_ble_eq_true rfl)
theorem zhF  : (12 ≤ PySem.sizeLine) = True := eq_true (Nat.le_of_ble_eq_true rfl)
theorem zhG  : isiD .non "int" = some false := by show L2.kitB _ _ = _; decide +kernel
theorem zhH  : isiD .non "bool" = some false := by show L2.kitB _ _ = _; decide +kernel
theorem zhI  : isiD .non "str" = some false := by show L2.kitB _ _ = _; decide +kernel
theorem zhJ  : isiD .non "list" = some false := by show L2.kitB _ _ = _; decide +kernel
theorem zhK  : isiD .non "tuple" = some false := by show L2.kitB _ _ = _; decide +kernel
theorem zhL  : isiD .non "dict" = some false := by show L2.kitB _ _ = _; decide +kernel
theorem zhM {b : Bool} : isiD (.bl b) "int" = some true := by show L2.kitB _ _ = _; decide +kernel
theorem zhN {b : Bool} : isiD (.bl b) "bool" = some true := by show L2.kitB _ _ = _; decide +kernel
theorem zhO {b : Bool} : isiD (.bl b) "str" = some false := by show L2.kitB _ _ = _; decide +kernel
theorem zhP {b : Bool} : isiD (.bl b) "list" = some false := by show L2.kitB _ _ = _; decide +kernel
theorem zhQ {b : Bool} : isiD (.bl b) "tuple" = some false := by show L2.kitB _ _ = _; decide +kernel
theorem zhR {b : Bool} : isiD (.bl b) "dict" = some false := by show L2.kitB _ _ = _; decide +kernel
theorem zhS {i : Int} : isiD (.int i) "int" = some true := by show L2.kitB _ _ = _; decide +kernel
theorem zhT {i : Int} : isiD (.int i) "bool" = some false := by show L2.kitB _ _ = _; decide +kernel
theorem zhU {i : Int} : isiD (.int i) "str" = some false := by show L2.kitB _ _ = _; decide +kernel
theorem zhV {i : Int} : isiD (.int i) "list" = some false := by show L2.kitB _ _ = _; decide +kernel
theorem zhW {i : Int} : isiD (.int i) "tuple" = some false := by show L2.kitB _ _ = _; decide +kernel
theorem zhX {i : Int} : isiD (.int i) "dict" = some false := by show L2.kitB _ _ = _; decide +kernel
theorem zhY {s : Str} : isiD (.str s) "int" = some false := by show L2.kitB _ _ = _; decide +kernel
theorem zhZ {s : Str} : isiD (.str s) "bool" = some false := by show L2.kitB _ _ = _; decide +kernel
theorem zia {s : Str} : isiD (.str s) "str" = some true := by show L2.kitB _ _ = _; decide +kernel
theorem zib {s : Str} : isiD (.str s) "list" = some false := by show L2.kitB _ _ = _; decide +kernel
theorem zic {s : Str} : isiD (.str s) "tuple" = some false := by show L2.kitB _ _ = _; decide +kernel
theorem zid {s : Str} : isiD (.str s) "dict" = some false := by show L2.kitB _ _ = _; decide +kernel
theorem zie {xs : List D} : isiD (.tup xs) "int" = some false := by show L2.kitB _ _ = _; decide +kernel
theorem zif {xs : List D} : isiD (.tup xs) "bool" = some false := by show L2.kitB _ _ = _; decide +kernel
theorem zig {xs : List D} : isiD (.tup xs) "str" = some false := by show L2.kitB _ _ = _; decide +kernel
theorem zih {xs : List D} : isiD (.tup xs) "list" = some false := by show L2.kitB _ _ = _; decide +kernel
theorem zii {xs : List D} : isiD (.tup xs) "tuple" = some true := by show L2.kitB _ _ = _; decide +kernel
theorem zij {xs : List D} : isiD (.tup xs) "dict" = some false := by show L2.kitB _ _ = _; decide +kernel
theorem zik {o : Bool} {xs : List D} : isiD (.lst o xs) "int" = some false := by show L2.kitB _ _ = _; decide +kernel
theorem zil {o : Bool} {xs : List D} : isiD (.lst o xs) "bool" = some false := by show L2.kitB _ _ = _; decide +kernel
theorem zim {o : Bool} {xs : List D} : isiD (.lst o xs) "str" = some false := by show L2.kitB _ _ = _; decide +kernel
theorem zin {o : Bool} {xs : List D} : isiD (.lst o xs) "list" = some true := by show L2.kitB _ _ = _; decide +kernel
theorem zio {o : Bool} {xs : List D} : isiD (.lst o xs) "tuple" = some false := by show L2.kitB _ _ = _; decide +kernel
theorem zipz {o : Bool} {xs : List D} : isiD (.lst o xs) "dict" = some false := by show L2.kitB _ _ = _; decide +kernel
theorem ziq {o : Bool} {ks : List L2.Key} {xs : List D} : isiD (.dct o ks xs) "int" = some false := by show L2.kitB _ _ = _; decide +kernel
theorem zir {o : Bool} {ks : List L2.Key} {xs : List D} : isiD (.dct o ks xs) "bool" = some false := by show L2.kitB _ _ = _; decide +kernel
theorem zis {o : Bool} {ks : List L2.Key} {xs : List D} : isiD (.dct o ks xs) "str" = some false := by show L2.kitB _ _ = _; decide +kernel
theorem zit {o : Bool} {ks : List L2.Key} {xs : List D} : isiD (.dct o ks xs) "list" = some false := by show L2.kitB _ _ = _; decide +kernel
theorem ziu {o : Bool} {ks : List L2.Key} {xs : List D} : isiD (.dct o ks xs) "tuple" = some false := by show L2.kitB _ _ = _; decide +kernel
theorem ziv {o : Bool} {ks : List L2.Key} {xs : List D} : isiD (.dct o ks xs) "dict" = some true := by show L2.kitB _ _ = _; decide +kernel
theorem ziw {α : Type} {x0 : α} {xs : List α} : L2.atI (x0 :: xs) 0 = some x0 := by simp only [L2.atI, L2.ixN, List.length_cons]; rw [if_pos (by decide), if_pos (by omega)]; rfl
theorem zix {α : Type} {x0 x1 : α} {xs : List α} : L2.atI (x0 :: x1 :: xs) 1 = some x1 := by simp only [L2.atI, L2.ixN, List.length_cons]; rw [if_pos (by decide), if_pos (by omega)]; rfl
theorem ziy {α : Type} {x0 x1 x2 : α} {xs : List α} : L2.atI (x0 :: x1 :: x2 :: xs) 2 = some x2 := by simp only [L2.atI, L2.ixN, List.length_cons]; rw [if_pos (by decide), if_pos (by omega)]; rfl
theorem ziz {α : Type} {x0 x1 x2 x3 : α} {xs : List α} : L2.atI (x0 :: x1 :: x2 :: x3 :: xs) 3 = some x3 := by simp only [L2.atI, L2.ixN, List.length_cons]; rw [if_pos (by decide), if_pos (by omega)]; rfl
theorem ziA {α : Type} {x0 x1 x2 x3 x4 : α} {xs : List α} : L2.atI (x0 :: x1 :: x2 :: x3 :: x4 :: xs) 4 = some x4 := by simp only [L2.atI, L2.ixN, List.length_cons]; rw [if_pos (by decide), if_pos (by omega)]; rfl
theorem ziB {α : Type} {x0 x1 x2 x3 x4 x5 : α} {xs : List α} : L2.atI (x0 :: x1 :: x2 :: x3 :: x4 :: x5 :: xs) 5 = some x5 := by simp only [L2.atI, L2.ixN, List.length_cons]; rw [if_pos (by decide), if_pos (by omega)]; rfl
theorem ziC {α : Type} {x0 x1 x2 x3 x4 x5 x6 : α} {xs : List α} : L2.atI (x0 :: x1 :: x2 :: x3 :: x4 :: x5 :: x6 :: xs) 6 = some x6 := by simp only [L2.atI, L2.ixN, List.length_cons]; rw [if_pos (by decide), if_pos (by omega)]; rfl
theorem ziD {α : Type} {x0 x1 x2 x3 x4 x5 x6 x7 : α} {xs : List α} : L2.atI (x0 :: x1 :: x2 :: x3 :: x4 :: x5 :: x6 :: x7 :: xs) 7 = some x7 := by simp only [L2.atI, L2.ixN, List.length_cons]; rw [if_pos (by decide), if_pos (by omega)]; rfl
theorem ziE {α : Type} {x0 x1 x2 x3 x4 x5 x6 x7 x8 : α} {xs : List α} : L2.atI (x0 :: x1 :: x2 :: x3 :: x4 :: x5 :: x6 :: x7 :: x8 :: xs) 8 = some x8 := by simp only [L2.atI, L2.ixN, List.length_cons]; rw [if_pos (by decide), if_pos (by omega)]; rfl
theorem ziF  : L2.ixN 1 0 = some 0 := rfl
theorem ziG  : L2.ixN 2 0 = some 0 := rfl
theorem ziH  : L2.ixN 2 1 = some 1 := rfl
theorem ziI  : L2.ixN 3 0 = some 0 := rfl
theorem ziJ  : L2.ixN 3 1 = some 1 := rfl
theorem ziK  : L2.ixN 3 2 = some 2 := rfl
theorem ziL  : L2.ixN 4 0 = some 0 := rfl
theorem ziM  : L2.ixN 4 1 = some 1 := rfl
theorem ziN  : L2.ixN 4 2 = some 2 := rfl
theorem ziO  : L2.ixN 4 3 = some 3 := rfl
theorem ziP  : L2.ixN 5 0 = some 0 := rfl
theorem ziQ  : L2.ixN 5 1 = some 1 := rfl
theorem ziR  : L2.ixN 5 2 = some 2 := rfl
theorem ziS  : L2.ixN 5 3 = some 3 := rfl
theorem ziT  : L2.ixN 5 4 = some 4 := rfl
theorem ziU  : L2.ixN 6 0 = some 0 := rfl
theorem ziV  : L2.ixN 6 1 = some 1 := rfl
theorem ziW  : L2.ixN 6 2 = some 2 := rfl
theorem ziX  : L2.ixN 6 3 = some 3 := rfl
theorem ziY  : L2.ixN 6 4 = some 4 := rfl
theorem ziZ  : L2.ixN 6 5 = some 5 := rfl
theorem zja  : L2.ixN 7 0 = some 0 := rfl
theorem zjb  : L2.ixN 7 1 = some 1 := rfl
theorem zjc  : L2.ixN 7 2 = some 2 := rfl
theorem zjd  : L2.ixN 7 3 = some 3 := rfl
theorem zje  : L2.ixN 7 4 = some 4 := rfl
theorem zjf  : L2.ixN 7 5 = some 5 := rfl
theorem zjg  : L2.ixN 7 6 = some 6 := rfl
theorem zjh  : L2.ixN 8 0 = some 0 := rfl
theorem zji  : L2.ixN 8 1 = some 1 := rfl
theorem zjj  : L2.ixN 8 2 = some 2 := rfl
theorem zjk  : L2.ixN 8 3 = some 3 := rfl
theorem zjl  : L2.ixN 8 4 = some 4 := rfl
theorem zjm  : L2.ixN 8 5 = some 5 := rfl
theorem zjn  : L2.ixN 8 6 = some 6 := rfl
theorem zjo  : L2.ixN 8 7 = some 7 := rfl
end DP

/-! DpEnd: words for a law's own text. -/
namespace DP
open PySem (Addr Value Shared Str Stmt Scope World Program mainGlobals)
open PySem.W (Frag)
open L2
def mkSC (N : List String) (gl : List (String × D)) (kws : List (String × Nat × List String)) (fns : List (String × Nat)) (cl : List String) (sc : Scope) : SC := { N := N.map Str.ofString, sc := sc, st := sc, gl := gl, kws := kws, fns := fns, hot := false, cls := cl }
def dokB (L : List Ent) (gl : List (String × D)) (kws : List (String × Nat × List String)) (fns : List (String × Nat)) (cl : List String) (fd : FD) (ios : List Bool) (st : Stmt) : Bool :=
  C8.scC ((fd.ps ++ fd.loc).map Str.ofString) (fd.ps.map Str.ofString) (defScope st) && decide (ios.length ≤ fd.ps.length) && lookOk L (mkSC (fd.ps ++ fd.loc) gl kws fns cl (defScope st)) && chkSs (mkSC (fd.ps ++ fd.loc) gl kws fns cl (defScope st)) fd.body (defBody st)
theorem dok_by {L : List Ent} {gl : List (String × D)} {kws : List (String × Nat × List String)} {fns : List (String × Nat)} {cl : List String} {fd : FD} {ios : List Bool} {st : Stmt} (h : dokB L gl kws fns cl fd ios st = true) :
    DefOk L (mkSC (fd.ps ++ fd.loc) gl kws fns cl (defScope st)) fd ios (fd.ps.map Str.ofString) (defScope st) (defBody st) := by
  unfold dokB at h
  simp only [Bool.and_eq_true, decide_eq_true_eq] at h
  obtain ⟨⟨⟨h1, h2⟩, h3⟩, h4⟩ := h
  exact ⟨C8.fnScope_by h1, rfl, rfl, ⟨(List.length_map _).symm, by simp [mkSC], h2⟩, h3, h4, rfl⟩
/-- what a name is bound to -/
theorem gl_of [CT] {K : Frag} {h : PySem.Heap} {mg : Str → Option Value} {x : Str} {u : Value} {v : V} {d : D} (X : K.In h) (G : h.Ns mainGlobals mg) (e : PySem.W.nsIn K mainGlobals x = some (some u)) (r : RelV v u) (q : ∀ F, Rep F d v []) : ∃ u v, mg x = some u ∧ RelV v u ∧ ∀ F, Rep F d v [] := ⟨u, v, PySem.W.mg_of X G e, r, q⟩
theorem at_mk {K : Frag} {nm : Str} {st : Stmt} {f : Addr} {oc : Value} {od : Option Addr} {kV doc pm : Value} {an : Option Addr} {cdv ct : Value} {osl : Array (Option Value)} (a : PySem.W.nsIn K mainGlobals nm = some (some (.ref f)))
    (l : K.lookup f = some ⟨oc, od, .func (PySem.W.fnOf nm nm (defArgs st) (defBody st) (defScope st) .none kV doc pm an cdv ct), osl⟩) (c : PySem.W.codeIn K cdv nm = true) (k : PySem.W.keepIn K (.ref f) = true) : AtK K nm st := ⟨f, oc, od, kV, doc, pm, an, cdv, ct, osl, a, l, c, k⟩
/-- nothing of the module hides a built-in's name -/
def NoB (K : Frag) : Prop := ∀ b ∈ bnames, PySem.W.nsIn K mainGlobals (Str.ofString b) = some none
/-! ### the classes of errors -/
def addrOf (K : Frag) (s : String) : Option Addr := match PySem.W.nsIn K mainGlobals (Str.ofString s) with
  | some (some (.ref C)) => some C
  | _ => none
@[reducible] def ctOf (K : Frag) (cl : List String) : CT := ⟨fun s => if cl.contains s = true then addrOf K s else none⟩
def oexB (K : Frag) (C : Addr) : Bool := match K.lookup C with
  | some ⟨.type "type", _, .cls cd, sl⟩ => (match cd.mro, sl.toList with
    | .ref C' :: bm, [_, _, _, _, some (.builtin n), _] => C' == C && n == "ValueError.__new__" && !cd.hasDel && cd.hasDict && PySem.HandSPX.refsVE bm
    | _, _ => false)
  | _ => false
def excB (K : Frag) (c : String) (C : Addr) : Bool :=
  PySem.W.keepIn K (.ref C) && (PySem.W.clsIn K C).isSome && decide (PySem.W.findIn K (.ref C) "__getattribute__" = some (some (.builtin "BaseException.__getattribute__"))) && decide (PySem.W.findIn K (.ref C) "__getattr__" = some none) &&
  decide (PySem.W.subIn K (.ref C) (.type "BaseException") = some true) && PySem.W.hasDictIn K C && decide (PySem.W.findIn K (.ref C) "__class__" = some (some (.builtin "object.__class__"))) &&
  decide (PySem.W.specialIn K (.builtin "object.__class__") "__get__" = some (some (.builtin "getset_descriptor.__get__"))) && decide (PySem.W.takesIn K (.builtin "object.__class__") = some true) && decide (PySem.W.mroIn K C (.type "object") = some true) &&
  decide (PySem.W.typeIn K (.ref C) = some (.type "type")) && decide (PySem.W.kitOne K (.ref C) (.type "ValueError") = some true) && (match fldTab.lookup c with
    | none => PySem.W.excIn K C bmVE "ValueError.__new__"
    | some f => oexB K C && decide (PySem.W.findIn K (.ref C) "__setattr__" = some (some (.builtin "object.__setattr__"))) && decide (PySem.W.findIn K (.ref C) (Str.ofString f) = some none))
def bscB (K : Frag) (L : Addr) : Bool := decide (PySem.W.typeIn K (.ref L) = some (.type "type")) && PySem.W.readsIn K L (.type "type") && decide (PySem.W.specialIn K (.ref L) "__getattribute__" = some (some (.builtin "type.__getattribute__"))) &&
  (match PySem.W.findCls K (.ref L) (.type "type") "__init__" with | some (.val (.builtin "ValueError.__init__")) => true | _ => false)
def clsB (K : Frag) (cl : List String) : Bool := (cl.all fun c => match addrOf K c with | some C => excB K c C && (excTab.lookup c).isSome | none => false) &&
  (cl.all fun c => cl.all fun k => match addrOf K c, addrOf K k with | some C, some D => decide (PySem.W.kitOne K (.ref C) (.ref D) = subX c k) && decide (PySem.W.exmOne K (.ref C) (.ref D) = subX c k) | _, _ => false) &&
  (if cl.isEmpty = true then true else match addrOf K "LockError" with | some L => bscB K L | none => false)
theorem oexB_ok {K : Frag} {C : Addr} (h : oexB K C = true) : ∃ nm q N bs bm sn sub ab col dd k0 k1 k2 k3 k5, K.lookup C = some (PySem.excClassObj nm q C N bs bm true sn sub ab col dd k0 k1 k2 k3 k5 "ValueError.__new__") ∧ PySem.HandSPX.refsVE bm = true := by
  unfold oexB at h
  split at h
  · rename_i dd cd sl ho
    split at h
    · rename_i C' bm k0 k1 k2 k3 n k5 hm hs
      simp only [Bool.and_eq_true, beq_iff_eq, Bool.not_eq_true'] at h
      obtain ⟨⟨⟨⟨rfl, rfl⟩, hdel⟩, hd⟩, hr⟩ := h
      obtain ⟨nm, bs, mro, ns, qn, hdc, sn, sub, ab, col, del⟩ := cd
      dsimp only at hm hdel hd
      subst hm hdel hd
      have hsl : sl = #[k0, k1, k2, k3, some (.builtin "ValueError.__new__"), k5] := by
        obtain ⟨l⟩ := sl
        simp only at hs
        rw [hs]
      subst hsl
      exact ⟨nm, qn, ns, bs, bm, sn, sub, ab, col, dd, k0, k1, k2, k3, k5, ho, hr⟩
    · cases h
  · cases h
theorem bscB_ok {K : Frag} {L : Addr} (h : bscB K L = true) : BsC K L := by
  unfold bscB at h
  simp only [Bool.and_eq_true, decide_eq_true_eq] at h
  obtain ⟨⟨⟨h1, h2⟩, h3⟩, h4⟩ := h
  refine ⟨h1, h2, h3, ?_⟩
  split at h4
  · assumption
  · cases h4
/-- the __init__ of a class -/
def clsInit : Stmt → Stmt
  | .ClassDef _ _ _ (st :: _) _ _ _ _ _ _ _ => st
  | st => st
/-- where it stands -/
structure AtI (K : Frag) (nm f : String) (st : Stmt) : Prop where
  ex : ∃ (C fI : Addr) (qual : Str) (oc : Value) (od : Option Addr) (kV doc pm : Value) (an : Option Addr) (cdv ct : Value) (osl : Array (Option Value)), PySem.W.nsIn K mainGlobals (Str.ofString nm) = some (some (.ref C)) ∧ PySem.W.findIn K (.ref C) "__init__" = some (some (.ref fI)) ∧ PySem.W.typeIn K (.ref fI) = some (.type "function") ∧
    K.lookup fI = some ⟨oc, od, .func (PySem.W.fnOf "__init__" qual (defArgs st) (defBody st) (defScope st) .none kV doc pm an cdv ct), osl⟩ ∧ PySem.W.codeIn K cdv qual = true ∧ PySem.W.keepIn K (.ref fI) = true
  tx : initB "LockError" f st = true ∧ C8.scC [Str.ofString "self", Str.ofString f] [Str.ofString "self", Str.ofString f] (defScope st) = true ∧ (Str.ofString f == ("__debug__" : Str)) = false ∧ (Str.ofString f == ("__classdict__" : Str)) = false
  bp : ∀ (kV doc pm : Value) (an : Option Addr) (cdv ct : Value) (us : List Value) (qual : Str), us.length = 2 → PySem.bindArgs (PySem.W.fnOf "__init__" qual (defArgs st) (defBody st) (defScope st) .none kV doc pm an cdv ct) ⟨us, []⟩ = pure ([Str.ofString "self", Str.ofString f].zip us)
theorem ai_mk {K : Frag} {nm f : String} {st : Stmt} {C fI : Addr} {qual : Str} {oc : Value} {od : Option Addr} {kV doc pm : Value} {an : Option Addr} {cdv ct : Value} {osl : Array (Option Value)} (a : PySem.W.nsIn K mainGlobals (Str.ofString nm) = some (some (.ref C))) (i : PySem.W.findIn K (.ref C) "__init__" = some (some (.ref fI))) (t : PySem.W.typeIn K (.ref fI) = some (.type "function"))
    (l : K.lookup fI = some ⟨oc, od, .func (PySem.W.fnOf "__init__" qual (defArgs st) (defBody st) (defScope st) .none kV doc pm an cdv ct), osl⟩) (c : PySem.W.codeIn K cdv qual = true) (k : PySem.W.keepIn K (.ref fI) = true) (tx : initB "LockError" f st = true ∧ C8.scC [Str.ofString "self", Str.ofString f] [Str.ofString "self", Str.ofString f] (defScope st) = true ∧ (Str.ofString f == ("__debug__" : Str)) = false ∧ (Str.ofString f == ("__classdict__" : Str)) = false)
    (bp : ∀ (kV doc pm : Value) (an : Option Addr) (cdv ct : Value) (us : List Value) (qual : Str), us.length = 2 → PySem.bindArgs (PySem.W.fnOf "__init__" qual (defArgs st) (defBody st) (defScope st) .none kV doc pm an cdv ct) ⟨us, []⟩ = pure ([Str.ofString "self", Str.ofString f].zip us)) : AtI K nm f st :=
  ⟨⟨C, fI, qual, oc, od, kV, doc, pm, an, cdv, ct, osl, a, i, t, l, c, k⟩, tx, bp⟩
theorem xw_of {P : Program} {w : World} {K : Frag} {mg : Str → Option Value} {base h : PySem.Heap} {cl : List String} (X : K.In h) (G : h.Ns mainGlobals mg) (hb : clsB K cl = true) (hi : ∀ c ∈ cl, ∀ f, fldTab.lookup c = some f → ∃ st, AtI K c f st) : @Xw (ctOf K cl) cl P w K mg base := by
  unfold clsB at hb
  simp only [Bool.and_eq_true, List.all_eq_true] at hb
  obtain ⟨⟨h1, h2⟩, h3⟩ := hb
  have cat : ∀ {c : String} {C : Addr}, (ctOf K cl).cat c = some C → c ∈ cl ∧ addrOf K c = some C := fun {c C} e => by
    have e' : (if cl.contains c = true then addrOf K c else none) = some C := e
    by_cases z : cl.contains c = true
    · rw [if_pos z] at e'
      exact ⟨by simpa using z, e'⟩
    · rw [if_neg z] at e'; cases e'
  have gC : ∀ {c : String} {C : Addr}, addrOf K c = some C → PySem.W.nsIn K mainGlobals (Str.ofString c) = some (some (.ref C)) := fun {c C} e => by
    unfold addrOf at e
    split at e
    · rename_i q; cases e; exact q
    · cases e
  refine @Xw.mk (ctOf K cl) cl P w K mg base (fun k hk => ?_) (fun c C e => ?_) (fun c C e => ?_) (fun c C k D e1 e2 => ?_)
  · have q := h1 k hk
    split at q
    · rename_i C e
      refine ⟨C, ?_⟩
      show (if cl.contains k = true then addrOf K k else none) = some C
      rw [if_pos (by simpa using hk)]; exact e
    · cases q
  · obtain ⟨m, e⟩ := cat e
    have q := h1 c m
    rw [e] at q
    simp only [Bool.and_eq_true] at q
    exact q.2
  · obtain ⟨m, e⟩ := cat e
    have q := h1 c m
    rw [e] at q
    simp only [Bool.and_eq_true] at q
    have q := q.1
    unfold excB at q
    simp only [Bool.and_eq_true, decide_eq_true_eq] at q
    obtain ⟨⟨⟨⟨⟨⟨⟨⟨⟨⟨⟨⟨a1, a2⟩, a3⟩, a4⟩, a5⟩, a6⟩, a7⟩, a8⟩, a9⟩, a10⟩, a11⟩, a12⟩, a13⟩ := q
    refine ⟨PySem.W.mg_of X G (gC e), a1, ⟨a2, a3, a4, a5, a6, a7, a8, a9, a10⟩, a11, a12, ?_⟩
    cases hf : fldTab.lookup c with
    | none => rw [hf] at a13; exact a13
    | some f =>
      rw [hf] at a13
      simp only [Bool.and_eq_true, decide_eq_true_eq] at a13
      obtain ⟨⟨b1, b2⟩, b3⟩ := a13
      obtain ⟨st, at_⟩ := hi c m f hf
      obtain ⟨C', fI, qual, oc, od, kV, doc, pm, an, cdv, ct, osl, c1, c2, c3, c4, c5, c6⟩ := at_.ex
      rw [gC e] at c1
      cases c1
      obtain ⟨t1, t2, t3, t4⟩ := at_.tx
      have hne : ¬ (cl.isEmpty = true) := fun z => by
        rw [List.isEmpty_iff] at z; rw [z] at m; cases m
      rw [if_neg hne] at h3
      split at h3
      · rename_i L eL
        have B := bscB_ok h3
        have FF : Fun K "__init__" qual st fI _ := ⟨⟨oc, od, kV, doc, pm, an, cdv, ct, osl, rfl, c4, c5⟩, c6⟩
        refine ⟨fI, _, ⟨⟨oexB_ok b1, b2, a5, a11, a1⟩, b3, c2, c3⟩, init_ok FF (C8.fnScope_by t2) t1 B (PySem.W.mg_of X G (gC eL)) (by decide +kernel) t3 t4, ?_⟩
        exact FF.binds fun kV doc pm an cdv ct us hl => at_.bp kV doc pm an cdv ct us qual hl
      · cases h3
  · obtain ⟨m1, e1⟩ := cat e1
    obtain ⟨m2, e2⟩ := cat e2
    have q := h2 c m1 k m2
    rw [e1, e2] at q
    simp only [Bool.and_eq_true, decide_eq_true_eq] at q
    exact q
/-- the beginning of the chain -/
theorem wd_nil [CT] {P : Program} {w : World} {K : Frag} {mg : Str → Option Value} {base h : PySem.Heap} {gl : List (String × D)} {cl : List String} (X : K.In h) (G : h.Ns mainGlobals mg) (nb : NoB K) (hb : K.In base) (xw : Xw cl P w K mg base) (hg : ∀ p ∈ gl, ∃ u v, mg (Str.ofString p.1) = some u ∧ RelV v u ∧ ∀ F, Rep F p.2 v []) : Wd [] gl cl P w K mg base 2 :=
  ⟨fun e he => (nomatch he), fun b hb => PySem.W.mg_none_of X G (nb b hb), hg, xw⟩
end DP

namespace DP
def f_length_of : FD := { ps := ["turns"], loc := ["turn"], body := .cons (.ret (.bi .sum (.cons (.lc (.bi .abs (.cons (.var 1) (.nil))) (.nm 1) (.ex (.var 0)) (.nil) [1]) (.nil)))) (.nil) }
def f_wheel_reaches_b1 : Ss := .cons (.aug 2 .add (.var 3)) (.cons (.app 1 (.var 2)) (.nil))
def f_wheel_reaches : FD := { ps := ["lock"], loc := ["found", "reach", "play"], body := .cons (.par [1, 2] (.cons (.lst (.nil)) (.cons (.con (.int 0)) (.nil)))) (.cons (.for_ (.nm 3) (.ex (.sub (.var 0) (.con (.int 1)))) (f_wheel_reaches_b1)) (.cons (.ret (.mov 1)) (.nil))) }
def f_stops_ahead_b1 : Ss := .cons (.app 8 (.bin .add (.var 3) (.sub (.var 7) (.var 2)))) (.cons (.asg (.nm 4) (.con (.bl false))) (.nil))
def f_stops_ahead_b2 : Ss := .cons (.aug 3 .add (.var 10)) (.cons (.aug 2 .sub (.con (.int 1))) (.cons (.ite (.cmp .gt (.var 10) (.con (.int 0))) (f_stops_ahead_b1) (.nil)) (.nil)))
def f_stops_ahead_b3 : Ss := .cons (.app 8 (.var 3)) (.cons (.asg (.nm 4) (.con (.bl true))) (.nil))
def f_stops_ahead_b4 : Ss := .cons (.aug 10 .add (.bin .mul (.bin .fdiv (.bin .sub (.var 9) (.var 10)) (.var 5)) (.var 5))) (.cons (.aug 3 .add (.var 10)) (.cons (.aug 2 .sub (.con (.int 1))) (.cons (.ite (.cmp .lt (.var 10) (.var 9)) (f_stops_ahead_b3) (.nil)) (.nil))))
def f_stops_ahead_b5 : Ss := .cons (.par [9, 10] (.cons (.sub (.var 6) (.var 2)) (.cons (.bin .mod (.bin .sub (.sub (.var 1) (.bin .sub (.var 2) (.con (.int 1)))) (.sub (.var 1) (.var 2))) (.var 5)) (.nil)))) (.cons (.ite (.var 4) (f_stops_ahead_b2) (f_stops_ahead_b4)) (.nil))
def f_stops_ahead : FD := { ps := ["lock", "gates", "index", "place", "is_low"], loc := ["ring", "plays", "reaches", "stops", "play", "gap"], body := .cons (.asg (.tp (.cons (.nm 5) (.cons (.nm 6) (.nil)))) (.var 0)) (.cons (.par [7, 8] (.cons (.call "wheel_reaches" (.cons (.var 0) (.nil))) (.cons (.lst (.nil)) (.nil)))) (.cons (.whl (.cmp .gt (.var 2) (.con (.int 0))) (f_stops_ahead_b5)) (.cons (.ret (.mov 8)) (.nil)))) }
def f_dialings_b1 : Ss := .cons (.ret (.mov 5)) (.nil)
def f_dialings_r1 : Ss := .cons (.ite (.cmp .ne (.bin .mod (.bin .sub (.var 7) (.sub (.var 2) (.var 6))) (.var 3)) (.con (.int 0))) (f_dialings_b1) (.nil)) (.cons (.aug 6 .sub (.con (.int 1))) (.nil))
def f_dialings_b2 : Ss := .cons (.app 5 (.dsp [false, true] (.cons (.var 9) (.cons (.call "stops_ahead" (.cons (.var 0) (.cons (.var 2) (.cons (.var 6) (.cons (.var 9) (.cons (.con (.bl true)) (.nil))))))) (.nil))))) (.nil)
def f_dialings_r2 : Ss := .cons (.ite (.bo false (.cons (.cmp .is_ (.var 10) (.con (.non))) (.cons (.cmp .ge (.var 9) (.var 10)) (.nil)))) (f_dialings_b2) (.nil)) (f_dialings_r1)
def f_dialings_b3 : Ss := .cons (.app 5 (.dsp [false, true] (.cons (.bin .add (.var 8) (.sub (.var 4) (.var 6))) (.cons (.call "stops_ahead" (.cons (.var 0) (.cons (.var 2) (.cons (.var 6) (.cons (.var 8) (.cons (.con (.bl false)) (.nil))))))) (.nil))))) (.nil)
def f_dialings_r3 : Ss := .cons (.ite (.bo false (.cons (.cmp .is_ (.var 10) (.con (.non))) (.cons (.cmp .le (.bin .sub (.var 8) (.var 10)) (.sub (.sub (.var 0) (.con (.int 1))) (.bin .add (.var 6) (.con (.int 1))))) (.nil)))) (f_dialings_b3) (.nil)) (f_dialings_r2)
def f_dialings_b4 : Ss := .cons (.asg (.nm 7) (.sub (.sub (.var 1) (.con (.int 1))) (.var 6))) (.cons (.asg (.nm 8) (.bin .add (.bin .add (.var 7) (.bin .mod (.bin .sub (.bin .sub (.sub (.var 2) (.var 6)) (.var 7)) (.con (.int 1))) (.var 3))) (.con (.int 1)))) (.cons (.asg (.nm 9) (.bin .sub (.bin .sub (.var 7) (.bin .mod (.bin .sub (.bin .sub (.var 7) (.sub (.var 2) (.var 6))) (.con (.int 1))) (.var 3))) (.con (.int 1)))) (.cons (.asg (.nm 10) (.ife (.cmp .lt (.bin .add (.var 6) (.con (.int 1))) (.bi .len (.cons (.var 4) (.nil)))) (.sub (.sub (.var 1) (.con (.int 1))) (.bin .add (.var 6) (.con (.int 1)))) (.con (.non)))) (f_dialings_r3))))
def f_dialings : FD := { ps := ["lock", "state", "gates"], loc := ["ring", "reaches", "found", "index", "place", "above", "below", "behind"], body := .cons (.par [3, 4] (.cons (.sub (.var 0) (.con (.int 0))) (.cons (.call "wheel_reaches" (.cons (.var 0) (.nil))) (.nil)))) (.cons (.par [5, 6] (.cons (.lst (.nil)) (.cons (.bin .sub (.bi .len (.cons (.var 4) (.nil))) (.con (.int 1))) (.nil)))) (.cons (.whl (.cmp .ge (.var 6) (.con (.int 0))) (f_dialings_b4)) (.cons (.ret (.dsp [true, false] (.cons (.var 5) (.cons (.lst (.nil)) (.nil))))) (.nil)))) }
def f_turns_to_b1 : Ss := .cons (.app 2 (.bin .sub (.var 3) (.var 0))) (.nil)
def f_turns_to_b2 : Ss := .cons (.ite (.cmp .ne (.var 3) (.var 0)) (f_turns_to_b1) (.nil)) (.cons (.asg (.nm 0) (.var 3)) (.nil))
def f_turns_to : FD := { ps := ["dial", "stops"], loc := ["found", "stop"], body := .cons (.asg (.nm 2) (.lst (.nil))) (.cons (.for_ (.nm 3) (.ex (.var 1)) (f_turns_to_b2)) (.cons (.ret (.mov 2)) (.nil))) }
def f_best_turns : FD := { ps := ["dial", "lists"], loc := ["found", "stops", "ways", "turns"], body := .cons (.asg (.nm 2) (.lc (.call "turns_to" (.cons (.var 0) (.cons (.var 3) (.nil)))) (.nm 3) (.ex (.var 1)) (.nil) [3])) (.cons (.asg (.nm 4) (.lc (.call "length_of" (.cons (.var 5) (.nil))) (.nm 5) (.ex (.var 2)) (.nil) [5])) (.cons (.ret (.sub (.var 2) (.idx 4 (.bi .minL (.cons (.var 4) (.nil)))))) (.nil))) }
def f_is_integer : FD := { ps := ["value"], loc := [], body := .cons (.ret (.bo true (.cons (.isi (.var 0) "int") (.cons (.nt (.isi (.var 0) "bool")) (.nil))))) (.nil) }
def f_is_at_least : FD := { ps := ["value", "least"], loc := [], body := .cons (.ret (.bo true (.cons (.call "is_integer" (.cons (.var 0) (.nil))) (.cons (.cmp .ge (.var 0) (.var 1)) (.nil))))) (.nil) }
def f_lock_fault_b1 : Ss := .cons (.ret (.tup (.cons (.con (.int 1)) (.nil)))) (.nil)
def f_lock_fault_b2 : Ss := .cons (.ret (.tup (.cons (.con (.int 0)) (.nil)))) (.nil)
def f_lock_fault_b3 : Ss := .cons (.ret (.tup (.cons (.con (.non)) (.nil)))) (.nil)
def f_lock_fault : FD := { ps := ["value"], loc := ["ring", "plays", "play"], body := .cons (.ite (.bo false (.cons (.nt (.isi (.var 0) "tuple")) (.cons (.cmp .ne (.bi .len (.cons (.var 0) (.nil))) (.con (.int 2))) (.nil)))) (f_lock_fault_b3) (.nil)) (.cons (.asg (.tp (.cons (.nm 1) (.cons (.nm 2) (.nil)))) (.var 0)) (.cons (.ite (.nt (.call "is_at_least" (.cons (.var 1) (.cons (.con (.int 2)) (.nil))))) (f_lock_fault_b2) (.nil)) (.cons (.ite (.bo false (.cons (.nt (.isi (.var 2) "list")) (.cons (.nt (.chn .le .le (.con (.int 1)) (.bi .len (.cons (.var 2) (.nil))) (.glo "MOST_WHEELS" (.int 8)))) (.nil)))) (f_lock_fault_b1) (.nil)) (.cons (.ret (.ife (.bi .all (.cons (.lc (.call "is_at_least" (.cons (.var 3) (.cons (.con (.int 0)) (.nil)))) (.nm 3) (.ex (.var 2)) (.nil) [3]) (.nil))) (.tup (.nil)) (.tup (.cons (.con (.int 1)) (.nil))))) (.nil))))) }
def f_require_lock_b1 : Ss := .cons (.nev) (.nil)
def f_require_lock : FD := { ps := ["lock"], loc := ["fault"], body := .cons (.asg (.nm 1) (.call "lock_fault" (.cons (.var 0) (.nil)))) (.cons (.ite (.cmp .ne (.var 1) (.tup (.nil))) (f_require_lock_b1) (.nil)) (.nil)) }
def f_places_right_b1 : Ss := .cons (.ret (.con (.bl false))) (.nil)
def f_places_right_b2 : Ss := .cons (.ite (.bo false (.cons (.nt (.call "is_integer" (.cons (.var 5) (.nil)))) (.cons (.nt (.chn .le .le (.con (.int 0)) (.bin .sub (.var 3) (.var 5)) (.var 4))) (.nil)))) (f_places_right_b1) (.nil)) (.cons (.asg (.nm 3) (.var 5)) (.nil))
def f_places_right_b3 : Ss := .cons (.ret (.con (.bl false))) (.nil)
def f_places_right : FD := { ps := ["plays", "dial", "places"], loc := ["ahead", "play", "place"], body := .cons (.ite (.bo false (.cons (.nt (.isi (.var 2) "list")) (.cons (.cmp .ne (.bi .len (.cons (.var 2) (.nil))) (.bi .len (.cons (.var 0) (.nil)))) (.nil)))) (f_places_right_b3) (.nil)) (.cons (.asg (.nm 3) (.var 1)) (.cons (.for_ (.tp (.cons (.nm 4) (.cons (.nm 5) (.nil)))) (.zip2 (.var 0) (.var 2)) (f_places_right_b2)) (.cons (.ret (.con (.bl true))) (.nil)))) }
def f_state_fault_b1 : Ss := .cons (.ret (.tup (.cons (.con (.int 0)) (.nil)))) (.nil)
def f_state_fault_b2 : Ss := .cons (.ret (.tup (.cons (.con (.non)) (.nil)))) (.nil)
def f_state_fault : FD := { ps := ["lock", "value"], loc := [], body := .cons (.ite (.bo false (.cons (.nt (.isi (.var 1) "tuple")) (.cons (.cmp .ne (.bi .len (.cons (.var 1) (.nil))) (.con (.int 2))) (.nil)))) (f_state_fault_b2) (.nil)) (.cons (.ite (.nt (.call "is_integer" (.cons (.sub (.var 1) (.con (.int 0))) (.nil)))) (f_state_fault_b1) (.nil)) (.cons (.ret (.ife (.call "places_right" (.cons (.sub (.var 0) (.con (.int 1))) (.cons (.sub (.var 1) (.con (.int 0))) (.cons (.sub (.var 1) (.con (.int 1))) (.nil))))) (.tup (.nil)) (.tup (.cons (.con (.int 1)) (.nil))))) (.nil))) }
def f_require_state_b1 : Ss := .cons (.nev) (.nil)
def f_require_state : FD := { ps := ["lock", "state"], loc := ["fault"], body := .cons (.asg (.nm 2) (.call "state_fault" (.cons (.var 0) (.cons (.var 1) (.nil))))) (.cons (.ite (.cmp .ne (.var 2) (.tup (.nil))) (f_require_state_b1) (.nil)) (.nil)) }
def f_gates_fault_b1 : Ss := .cons (.ret (.tup (.cons (.mov 4) (.nil)))) (.nil)
def f_gates_fault_b2 : Ss := .cons (.ite (.bo false (.cons (.nt (.call "is_at_least" (.cons (.var 5) (.cons (.con (.int 0)) (.nil))))) (.cons (.cmp .ge (.var 5) (.var 2)) (.nil)))) (f_gates_fault_b1) (.nil)) (.nil)
def f_gates_fault_b3 : Ss := .cons (.ret (.tup (.cons (.con (.non)) (.nil)))) (.nil)
def f_gates_fault : FD := { ps := ["lock", "value"], loc := ["ring", "plays", "index", "gate"], body := .cons (.asg (.tp (.cons (.nm 2) (.cons (.nm 3) (.nil)))) (.var 0)) (.cons (.ite (.bo false (.cons (.nt (.isi (.var 1) "list")) (.cons (.cmp .ne (.bi .len (.cons (.var 1) (.nil))) (.bi .len (.cons (.var 3) (.nil)))) (.nil)))) (f_gates_fault_b3) (.nil)) (.cons (.for_ (.tp (.cons (.nm 4) (.cons (.nm 5) (.nil)))) (.enum (.var 1)) (f_gates_fault_b2)) (.cons (.ret (.tup (.nil))) (.nil)))) }
def f_require_gates_b1 : Ss := .cons (.nev) (.nil)
def f_require_gates : FD := { ps := ["lock", "gates"], loc := ["fault"], body := .cons (.asg (.nm 2) (.call "gates_fault" (.cons (.var 0) (.cons (.var 1) (.nil))))) (.cons (.ite (.cmp .ne (.var 2) (.tup (.nil))) (f_require_gates_b1) (.nil)) (.nil)) }
def f_require_dialed_b1 : Ss := .cons (.nev) (.nil)
def f_require_dialed_b2 : Ss := .cons (.ite (.cmp .gt (.bin .mod (.bin .sub (.sub (.var 1) (.bin .sub (.var 4) (.con (.int 1)))) (.sub (.var 1) (.var 4))) (.var 2)) (.sub (.var 3) (.var 4))) (f_require_dialed_b1) (.nil)) (.nil)
def f_require_dialed : FD := { ps := ["lock", "gates"], loc := ["ring", "plays", "index"], body := .cons (.asg (.tp (.cons (.nm 2) (.cons (.nm 3) (.nil)))) (.var 0)) (.cons (.for_ (.nm 4) (.rng2 (.con (.int 1)) (.bi .len (.cons (.var 3) (.nil)))) (f_require_dialed_b2)) (.nil)) }
def f_require_dialing : FD := { ps := ["lock", "state", "gates"], loc := [], body := .cons (.exp (.call "require_lock" (.cons (.var 0) (.nil)))) (.cons (.exp (.call "require_state" (.cons (.var 0) (.cons (.var 1) (.nil))))) (.cons (.exp (.call "require_gates" (.cons (.var 0) (.cons (.var 2) (.nil))))) (.cons (.exp (.call "require_dialed" (.cons (.var 0) (.cons (.var 2) (.nil))))) (.nil)))) }
def f_least_way : FD := { ps := ["lock", "state", "gates"], loc := [], body := .cons (.exp (.call "require_dialing" (.cons (.var 0) (.cons (.var 1) (.cons (.var 2) (.nil)))))) (.cons (.ret (.call "length_of" (.cons (.call "best_turns" (.cons (.sub (.var 1) (.con (.int 0))) (.cons (.call "dialings" (.cons (.var 0) (.cons (.var 1) (.cons (.var 2) (.nil))))) (.nil)))) (.nil)))) (.nil)) }
def f__law_tank : FD := { ps := ["script", "at"], loc := ["cell"], body := .cons (.asg (.nm 2) (.ife (.cmp .lt (.var 1) (.bi .len (.cons (.var 0) (.nil)))) (.sub (.var 0) (.var 1)) (.con (.int 0)))) (.cons (.ret (.lst (.cons (.bi .max2 (.cons (.con (.int 0)) (.cons (.bin .sub (.bi .abs (.cons (.var 2) (.nil))) (.bin .pow (.con (.int 10)) (.con (.int 18)))) (.nil)))) (.cons (.bin .add (.bin .mod (.bi .int (.cons (.var 2) (.nil))) (.con (.int 1000000000000000003))) (.bin .mul (.con (.int 104729)) (.bin .add (.var 1) (.con (.int 1))))) (.cons (.con (.int 0)) (.nil)))))) (.nil)) }
def f__law_tap_b1 : Ss := .cons (.asg (.nm 2) (.bin .mod (.bi .int (.cons (.sub (.var 0) (.con (.int 0))) (.nil))) (.var 1))) (.cons (.pst 0 (.con (.int 0)) (.bin .fdiv (.sub (.var 0) (.con (.int 0))) (.var 1))) (.cons (.ret (.mov 2)) (.nil)))
def f__law_tap : FD := { ps := ["tank", "many"], loc := ["drawn", "mixed"], body := .cons (.ite (.cmp .gt (.sub (.var 0) (.con (.int 0))) (.con (.int 0))) (f__law_tap_b1) (.nil)) (.cons (.pst 0 (.con (.int 2)) (.bin .add (.sub (.var 0) (.con (.int 2))) (.con (.int 1)))) (.cons (.asg (.nm 3) (.bin .mod (.bi .int (.cons (.bin .pow (.bin .add (.sub (.var 0) (.con (.int 1))) (.bin .mul (.con (.int 350377)) (.sub (.var 0) (.con (.int 2))))) (.con (.int 3))) (.nil))) (.con (.int 170141183460469231731687303715884105727)))) (.cons (.asg (.nm 3) (.bin .mod (.bi .int (.cons (.bin .pow (.bin .add (.var 3) (.bin .mul (.con (.int 27644437)) (.sub (.var 0) (.con (.int 2))))) (.con (.int 3))) (.nil))) (.bin .add (.bin .pow (.con (.int 10)) (.con (.int 46))) (.con (.int 9))))) (.cons (.ret (.bin .mod (.bi .int (.cons (.bin .fdiv (.var 3) (.con (.int 524288))) (.nil))) (.var 1))) (.nil))))) }
def f__law_box_1_b1 : Ss := .cons (.asg (.nm 6) (.lst (.cons (.con (.int 0)) (.cons (.con (.int 1)) (.cons (.bin .sub (.var 3) (.con (.int 1))) (.cons (.var 3) (.cons (.call "_law_tap" (.cons (.var 0) (.cons (.var 3) (.nil)))) (.cons (.call "_law_tap" (.cons (.var 0) (.cons (.bin .mul (.con (.int 3)) (.var 3)) (.nil)))) (.nil))))))))) (.cons (.asg (.nm 6) (.bin .add (.var 6) (.lst (.cons (.bin .sub (.bin .sub (.var 3) (.con (.int 1))) (.bin .fdiv (.var 3) (.con (.int 10)))) (.cons (.ife (.cmp .lt (.var 3) (.con (.int 1000))) (.call "_law_tap" (.cons (.var 0) (.cons (.bin .pow (.con (.int 10)) (.con (.int 9))) (.nil)))) (.con (.int 1))) (.nil)))))) (.cons (.app 4 (.sub (.var 6) (.call "_law_tap" (.cons (.var 0) (.cons (.con (.int 8)) (.nil)))))) (.nil)))
def f__law_box_1 : FD := { ps := ["tank", "most", "top"], loc := ["ring_here", "plays_here", "turn", "some"], body := .cons (.asg (.nm 3) (.bin .add (.con (.int 2)) (.call "_law_tap" (.cons (.var 0) (.cons (.var 2) (.nil)))))) (.cons (.asg (.nm 4) (.lst (.nil))) (.cons (.for_ (.nm 5) (.rng1 (.bin .add (.con (.int 1)) (.call "_law_tap" (.cons (.var 0) (.cons (.var 1) (.nil)))))) (f__law_box_1_b1)) (.cons (.ret (.tup (.cons (.mov 3) (.cons (.mov 4) (.nil))))) (.nil)))) }
def f__law_pose_b1 : Ss := .cons (.asg (.nm 7) (.lst (.cons (.con (.int 0)) (.cons (.var 6) (.cons (.call "_law_tap" (.cons (.var 0) (.cons (.bin .add (.var 6) (.con (.int 1))) (.nil)))) (.nil)))))) (.cons (.asg (.nm 4) (.bin .sub (.var 4) (.sub (.var 7) (.ife (.cmp .lt (.var 5) (.con (.int 3))) (.var 5) (.call "_law_tap" (.cons (.var 0) (.cons (.con (.int 3)) (.nil)))))))) (.cons (.app 3 (.var 4)) (.nil)))
def f__law_pose : FD := { ps := ["tank", "box", "spin"], loc := ["found", "here", "kind", "play", "some"], body := .cons (.par [3, 4, 5] (.cons (.lst (.nil)) (.cons (.var 2) (.cons (.call "_law_tap" (.cons (.var 0) (.cons (.con (.int 4)) (.nil)))) (.nil))))) (.cons (.for_ (.nm 6) (.ex (.sub (.var 1) (.con (.int 1)))) (f__law_pose_b1)) (.cons (.ret (.tup (.cons (.mov 2) (.cons (.mov 3) (.nil))))) (.nil))) }
def f__law_gates_0_b1 : Ss := .cons (.asg (.nm 6) (.call "_law_tap" (.cons (.var 0) (.cons (.bi .len (.cons (.var 4) (.nil))) (.nil))))) (.cons (.pst 4 (.var 6) (.call "_law_tap" (.cons (.var 0) (.cons (.sub (.var 1) (.con (.int 0))) (.nil))))) (.nil))
def f__law_gates_0 : FD := { ps := ["tank", "box", "kind"], loc := ["pose", "found", "here", "spot"], body := .cons (.asg (.nm 3) (.call "_law_pose" (.cons (.var 0) (.cons (.var 1) (.cons (.call "_law_tap" (.cons (.var 0) (.cons (.bin .mul (.con (.int 3)) (.sub (.var 1) (.con (.int 0)))) (.nil)))) (.nil)))))) (.cons (.asg (.nm 4) (.lc (.bin .mod (.bi .int (.cons (.var 5) (.nil))) (.sub (.var 1) (.con (.int 0)))) (.nm 5) (.ex (.sub (.var 3) (.con (.int 1)))) (.nil) [5])) (.cons (.ite (.cmp .eq (.var 2) (.con (.int 1))) (f__law_gates_0_b1) (.nil)) (.cons (.ret (.ife (.cmp .lt (.var 2) (.con (.int 2))) (.var 4) (.lc (.call "_law_tap" (.cons (.var 0) (.cons (.sub (.var 1) (.con (.int 0))) (.nil)))) (.nm 5) (.ex (.var 4)) (.nil) [5]))) (.nil)))) }
def f__law_can_b1 : Ss := .cons (.ret (.con (.bl false))) (.nil)
def f__law_can_b2 : Ss := .cons (.ite (.cmp .gt (.bin .mod (.bi .int (.cons (.bin .sub (.sub (.var 1) (.bin .sub (.var 2) (.con (.int 1)))) (.sub (.var 1) (.var 2))) (.nil))) (.sub (.var 0) (.con (.int 0)))) (.sub (.sub (.var 0) (.con (.int 1))) (.var 2))) (f__law_can_b1) (.nil)) (.nil)
def f__law_can : FD := { ps := ["box", "marks"], loc := ["spot"], body := .cons (.for_ (.nm 2) (.rng2 (.con (.int 1)) (.bi .len (.cons (.var 1) (.nil)))) (f__law_can_b2)) (.cons (.ret (.con (.bl true))) (.nil)) }
def f_least_turns : FD := { ps := ["lock", "state", "gates"], loc := [], body := .cons (.exp (.call "require_dialing" (.cons (.var 0) (.cons (.var 1) (.cons (.var 2) (.nil)))))) (.cons (.ret (.call "best_turns" (.cons (.sub (.var 1) (.con (.int 0))) (.cons (.call "dialings" (.cons (.var 0) (.cons (.var 1) (.cons (.var 2) (.nil))))) (.nil))))) (.nil)) }
def f__law_behind_2_b1 : Ss := .cons (.asg (.nm 9) (.sub (.var 4) (.var 7))) (.cons (.asg (.nm 9) (.ife (.cmp .gt (.var 5) (.con (.int 0))) (.bi .max2 (.cons (.var 9) (.cons (.bin .sub (.var 6) (.var 8)) (.nil)))) (.bi .min2 (.cons (.var 9) (.cons (.var 6) (.nil)))))) (.cons (.psa 4 (.var 7) (.var 9) 6 (.var 9)) (.nil)))
def f__law_behind_2_b2 : Ss := .cons (.par [3, 6] (.cons (.bin .add (.var 3) (.var 5)) (.cons (.bin .add (.var 3) (.var 5)) (.nil)))) (.cons (.for_ (.tp (.cons (.nm 7) (.cons (.nm 8) (.nil)))) (.enum (.sub (.var 0) (.con (.int 1)))) (f__law_behind_2_b1)) (.nil))
def f__law_behind_2 : FD := { ps := ["box", "pose", "turned"], loc := ["spin", "places_here", "amount", "ahead", "spot", "play", "here"], body := .cons (.par [3, 4] (.cons (.sub (.var 1) (.con (.int 0))) (.cons (.bi .list (.cons (.sub (.var 1) (.con (.int 1))) (.nil))) (.nil)))) (.cons (.for_ (.nm 5) (.ex (.var 2)) (f__law_behind_2_b2)) (.cons (.ret (.tup (.cons (.mov 3) (.cons (.mov 4) (.nil))))) (.nil))) }
def f__law_are_turns_b1 : Ss := .cons (.ret (.con (.bl false))) (.nil)
def f__law_are_turns : FD := { ps := ["thing"], loc := ["one"], body := .cons (.ite (.bo false (.cons (.nt (.isi (.var 0) "list")) (.cons (.cmp .gt (.bi .len (.cons (.var 0) (.nil))) (.con (.int 60))) (.nil)))) (f__law_are_turns_b1) (.nil)) (.cons (.ret (.cmp .eqn (.lc (.var 1) (.nm 1) (.ex (.var 0)) (.cons (.bo false (.cons (.nt (.isi (.var 1) "int")) (.cons (.isi (.var 1) "bool") (.cons (.cmp .eq (.var 1) (.con (.int 0))) (.nil))))) (.nil)) [1]) (.lst (.nil)))) (.nil)) }
def f__law_length : FD := { ps := ["turned"], loc := ["amount"], body := .cons (.ret (.bi .sum (.cons (.lc (.bi .abs (.cons (.var 1) (.nil))) (.nm 1) (.ex (.var 0)) (.nil) [1]) (.nil)))) (.nil) }
def f__law_has : FD := { ps := ["box", "pose", "marks"], loc := ["here"], body := .cons (.ret (.cmp .eq (.lc (.bin .mod (.bi .int (.cons (.var 3) (.nil))) (.sub (.var 0) (.con (.int 0)))) (.nm 3) (.ex (.sub (.var 1) (.con (.int 1)))) (.nil) [3]) (.var 2))) (.nil) }
def f__law_sums_b1 : Ss := .cons (.asg (.nm 2) (.bin .add (.var 2) (.var 3))) (.cons (.app 1 (.var 2)) (.nil))
def f__law_sums : FD := { ps := ["box"], loc := ["found", "total", "play"], body := .cons (.par [1, 2] (.cons (.lst (.nil)) (.cons (.con (.int 0)) (.nil)))) (.cons (.for_ (.nm 3) (.ex (.sub (.var 0) (.con (.int 1)))) (f__law_sums_b1)) (.cons (.ret (.mov 1)) (.nil))) }
def f__law_gaps : FD := { ps := ["box", "marks", "spot"], loc := ["ring_here", "play", "gap", "last", "one"], body := .cons (.par [3, 4] (.cons (.sub (.var 0) (.con (.int 0))) (.cons (.sub (.sub (.var 0) (.con (.int 1))) (.var 2)) (.nil)))) (.cons (.asg (.nm 5) (.bin .mod (.bi .int (.cons (.bin .sub (.sub (.var 1) (.bin .sub (.var 2) (.con (.int 1)))) (.sub (.var 1) (.var 2))) (.nil))) (.var 3))) (.cons (.asg (.nm 6) (.bin .add (.var 5) (.bin .mul (.bin .fdiv (.bin .sub (.var 4) (.var 5)) (.var 3)) (.var 3)))) (.cons (.ret (.lc (.var 7) (.nm 7) (.ex (.sset (.lst (.cons (.var 5) (.cons (.bin .add (.var 5) (.var 3)) (.cons (.bin .sub (.var 6) (.var 3)) (.cons (.var 6) (.nil)))))))) (.cons (.chn .le .le (.var 5) (.var 7) (.var 6)) (.nil)) [7])) (.nil)))) }
def f__law_ahead_0_r1 : Ss := .cons (.par [11, 12] (.cons (.bi .minL (.cons (.var 7) (.nil))) (.cons (.bi .minL (.cons (.var 8) (.nil))) (.nil)))) (.cons (.app 3 (.tup (.cons (.bi .min2 (.cons (.var 11) (.cons (.bin .add (.sub (.var 2) (.var 4)) (.var 12)) (.nil)))) (.cons (.bi .min2 (.cons (.var 12) (.cons (.bin .add (.sub (.var 2) (.var 4)) (.var 11)) (.nil)))) (.nil))))) (.nil))
def f__law_ahead_0_r2 : Ss := .cons (.app 8 (.ife (.cmp .eq (.var 9) (.sub (.sub (.var 0) (.con (.int 1))) (.var 4))) (.var 6) (.var 10))) (.nil)
def f__law_ahead_0_r3 : Ss := .cons (.asg (.nm 10) (.bin .add (.bin .sub (.sub (.var 2) (.var 4)) (.var 9)) (.var 5))) (f__law_ahead_0_r2)
def f__law_ahead_0_b1 : Ss := .cons (.app 7 (.ife (.cmp .eq (.var 9) (.con (.int 0))) (.var 5) (.bin .add (.bin .add (.var 9) (.sub (.var 2) (.bin .sub (.var 4) (.con (.int 1))))) (.var 6)))) (f__law_ahead_0_r3)
def f__law_ahead_0_b2 : Ss := .cons (.asg (.tp (.cons (.nm 5) (.cons (.nm 6) (.nil)))) (.sub (.var 3) (.neg (.con (.int 1))))) (.cons (.par [7, 8] (.cons (.lst (.nil)) (.cons (.lst (.nil)) (.nil)))) (.cons (.for_ (.nm 9) (.ex (.call "_law_gaps" (.cons (.var 0) (.cons (.var 1) (.cons (.var 4) (.nil)))))) (f__law_ahead_0_b1)) (f__law_ahead_0_r1)))
def f__law_ahead_0 : FD := { ps := ["box", "marks", "sums"], loc := ["costs", "spot", "low_cost", "high_cost", "near", "far", "gap", "back", "one", "two"], body := .cons (.asg (.nm 3) (.lst (.cons (.tup (.cons (.con (.int 0)) (.cons (.con (.int 0)) (.nil)))) (.nil)))) (.cons (.for_ (.nm 4) (.rng2 (.con (.int 1)) (.bi .len (.cons (.var 1) (.nil)))) (f__law_ahead_0_b2)) (.cons (.ret (.mov 3)) (.nil))) }
def f__law_due_7_b1 : Ss := .cons (.ret (.bi .minL (.cons (.var 7) (.nil)))) (.nil)
def f__law_due_7_r1 : Ss := .cons (.ite (.cmp .ne (.bin .mod (.bi .int (.cons (.var 10) (.nil))) (.var 4)) (.sub (.var 2) (.var 8))) (f__law_due_7_b1) (.nil)) (.nil)
def f__law_due_7_b2 : Ss := .cons (.app 7 (.bin .add (.bin .sub (.bin .add (.var 12) (.sub (.var 3) (.var 8))) (.sub (.var 1) (.con (.int 0)))) (.sub (.sub (.var 6) (.var 8)) (.con (.int 1))))) (.nil)
def f__law_due_7_r2 : Ss := .cons (.ite (.bo true (.cons (.var 13) (.cons (.cmp .gt (.var 12) (.var 10)) (.nil)))) (f__law_due_7_b2) (.nil)) (.nil)
def f__law_due_7_b3 : Ss := .cons (.app 7 (.bin .add (.bin .sub (.sub (.var 1) (.con (.int 0))) (.var 12)) (.sub (.sub (.var 6) (.var 8)) (.con (.int 0))))) (.nil)
def f__law_due_7_r3 : Ss := .cons (.ite (.bo true (.cons (.var 13) (.cons (.cmp .lt (.var 12) (.var 10)) (.nil)))) (f__law_due_7_b3) (.nil)) (f__law_due_7_r2)
def f__law_due_7_b4 : Ss := .cons (.asg (.nm 12) (.bin .add (.bin .sub (.var 10) (.bin .mod (.bi .int (.cons (.bin .sub (.var 10) (.sub (.var 2) (.var 8))) (.nil))) (.var 4))) (.bin .mul (.var 11) (.var 4)))) (.cons (.asg (.nm 13) (.bo false (.cons (.cmp .eq (.var 8) (.bin .sub (.var 5) (.con (.int 1)))) (.cons (.chn .le .le (.con (.int 0)) (.bin .sub (.var 12) (.sub (.sub (.var 1) (.con (.int 1))) (.bin .add (.var 8) (.con (.int 1))))) (.sub (.sub (.var 0) (.con (.int 1))) (.bin .add (.var 8) (.con (.int 1))))) (.nil))))) (f__law_due_7_r3))
def f__law_due_7_b5 : Ss := .cons (.asg (.nm 10) (.sub (.sub (.var 1) (.con (.int 1))) (.var 8))) (.cons (.for_ (.nm 11) (.ex (.tup (.cons (.neg (.con (.int 2))) (.cons (.neg (.con (.int 1))) (.cons (.con (.int 0)) (.cons (.con (.int 1)) (.cons (.con (.int 2)) (.nil)))))))) (f__law_due_7_b4)) (f__law_due_7_r1))
def f__law_due_7 : FD := { ps := ["box", "pose", "marks"], loc := ["sums", "ring_here", "count", "costs", "found", "spot", "turn", "here", "far", "place", "is_fit"], body := .cons (.par [3, 4, 5] (.cons (.call "_law_sums" (.cons (.var 0) (.nil))) (.cons (.sub (.var 0) (.con (.int 0))) (.cons (.bi .len (.cons (.var 2) (.nil))) (.nil))))) (.cons (.par [6, 7] (.cons (.call "_law_ahead" (.cons (.var 0) (.cons (.var 2) (.cons (.var 3) (.nil))))) (.cons (.lst (.nil)) (.nil)))) (.cons (.for_ (.nm 8) (.ex (.lc (.bin .sub (.bin .sub (.var 5) (.con (.int 1))) (.var 9)) (.nm 9) (.rng1 (.var 5)) (.nil) [9])) (f__law_due_7_b5)) (.cons (.ret (.con (.int 0))) (.nil)))) }
def f__law_right_17_r1 : Ss := .cons (.ret (.cmp .eq (.call "least_way" (.cons (.var 7) (.cons (.var 9) (.cons (.lc (.bin .mul (.var 11) (.var 6)) (.nm 11) (.ex (.var 3)) (.nil) [11]) (.nil))))) (.bin .mul (.var 5) (.var 6)))) (.nil)
def f__law_right_17_r2 : Ss := .cons (.asg (.nm 9) (.tup (.cons (.bin .mul (.sub (.var 2) (.con (.int 0))) (.var 6)) (.cons (.lc (.bin .mul (.var 10) (.var 6)) (.nm 10) (.ex (.sub (.var 2) (.con (.int 1)))) (.nil) [10]) (.nil))))) (f__law_right_17_r1)
def f__law_right_17_r3 : Ss := .cons (.asg (.nm 7) (.tup (.cons (.bin .mul (.sub (.var 1) (.con (.int 0))) (.var 6)) (.cons (.lc (.bin .mul (.var 8) (.var 6)) (.nm 8) (.ex (.sub (.var 1) (.con (.int 1)))) (.nil) [8]) (.nil))))) (f__law_right_17_r2)
def f__law_right_17_r4 : Ss := .cons (.asg (.nm 6) (.bin .add (.con (.int 2)) (.call "_law_tap" (.cons (.var 0) (.cons (.con (.int 9)) (.nil)))))) (f__law_right_17_r3)
def f__law_right_17_b1 : Ss := .cons (.ret (.con (.bl false))) (.nil)
def f__law_right_17_r5 : Ss := .cons (.ite (.nt (.call "_law_has" (.cons (.var 1) (.cons (.call "_law_behind" (.cons (.var 1) (.cons (.var 2) (.cons (.var 4) (.nil))))) (.cons (.var 3) (.nil)))))) (f__law_right_17_b1) (.nil)) (f__law_right_17_r4)
def f__law_right_17_b2 : Ss := .cons (.ret (.con (.bl false))) (.nil)
def f__law_right_17_r6 : Ss := .cons (.ite (.bo false (.cons (.cmp .ne (.bi .repr (.cons (.call "least_way" (.cons (.var 1) (.cons (.var 2) (.cons (.var 3) (.nil))))) (.nil))) (.bi .repr (.cons (.var 5) (.nil)))) (.cons (.nt (.call "_law_are_turns" (.cons (.var 4) (.nil)))) (.cons (.cmp .ne (.call "_law_length" (.cons (.var 4) (.nil))) (.var 5)) (.nil))))) (f__law_right_17_b2) (.nil)) (f__law_right_17_r5)
def f__law_right_17 : FD := { ps := ["tank", "box", "pose", "marks"], loc := ["told", "due", "times", "other", "play", "there", "here", "mark"], body := .cons (.par [4, 5] (.cons (.call "least_turns" (.cons (.var 1) (.cons (.var 2) (.cons (.var 3) (.nil))))) (.cons (.call "_law_due" (.cons (.var 1) (.cons (.var 2) (.cons (.var 3) (.nil))))) (.nil)))) (f__law_right_17_r6) }
def f_law_28_r1 : Ss := .cons (.ret (.cmp .eq (.call "least_way" (.cons (.tup (.cons (.bin .pow (.con (.int 10)) (.con (.int 29))) (.cons (.bin .mul (.lst (.cons (.bin .pow (.con (.int 10)) (.con (.int 28))) (.nil))) (.con (.int 8))) (.nil)))) (.cons (.tup (.cons (.con (.int 0)) (.cons (.bin .mul (.lst (.cons (.con (.int 0)) (.nil))) (.con (.int 8))) (.nil)))) (.cons (.bin .mul (.lst (.cons (.bin .sub (.bin .pow (.con (.int 10)) (.con (.int 29))) (.con (.int 1))) (.nil))) (.con (.int 8))) (.nil))))) (.con (.int 1)))) (.nil)
def f_law_28_b1 : Ss := .cons (.ret (.con (.bl false))) (.nil)
def f_law_28_r2 : Ss := .cons (.ite (.bo true (.cons (.call "_law_can" (.cons (.var 4) (.cons (.var 6) (.nil)))) (.cons (.nt (.call "_law_right" (.cons (.var 2) (.cons (.var 4) (.cons (.var 5) (.cons (.var 6) (.nil))))))) (.nil)))) (f_law_28_b1) (.nil)) (.nil)
def f_law_28_b2 : Ss := .cons (.asg (.nm 8) (.call "_law_tap" (.cons (.var 2) (.cons (.bin .add (.bi .len (.cons (.var 6) (.nil))) (.con (.int 1))) (.nil))))) (.cons (.asg (.nm 6) (.bin .add (.slc (.var 6) .no (.yes (.var 8))) (.slc (.lc (.bin .mod (.bi .int (.cons (.var 7) (.nil))) (.sub (.var 4) (.con (.int 0)))) (.nm 7) (.ex (.sub (.var 5) (.con (.int 1)))) (.nil) [7]) (.yes (.var 8)) .no))) (.nil))
def f_law_28_r3 : Ss := .cons (.ite (.cmp .gt (.bin .mod (.var 3) (.con (.int 4))) (.con (.int 1))) (f_law_28_b2) (.nil)) (f_law_28_r2)
def f_law_28_b3 : Ss := .cons (.asg (.nm 6) (.call "_law_gates" (.cons (.var 2) (.cons (.var 4) (.cons (.con (.int 0)) (.nil)))))) (.nil)
def f_law_28_r4 : Ss := .cons (.ite (.cmp .gt (.bin .mod (.var 3) (.con (.int 4))) (.con (.int 0))) (f_law_28_b3) (.nil)) (f_law_28_r3)
def f_law_28_b4 : Ss := .cons (.asg (.nm 4) (.call "_law_box" (.cons (.var 2) (.cons (.con (.int 8)) (.cons (.sub (.lst (.cons (.bin .pow (.con (.int 10)) (.con (.int 27))) (.cons (.con (.int 98)) (.cons (.con (.int 9)) (.nil))))) (.bin .mod (.bi .int (.cons (.var 3) (.nil))) (.con (.int 3)))) (.nil)))))) (.cons (.asg (.nm 5) (.call "_law_pose" (.cons (.var 2) (.cons (.var 4) (.cons (.bin .sub (.call "_law_tap" (.cons (.var 2) (.cons (.bin .pow (.con (.int 10)) (.con (.int 27))) (.nil)))) (.bin .mul (.con (.int 5)) (.bin .pow (.con (.int 10)) (.con (.int 26))))) (.nil)))))) (.cons (.asg (.nm 6) (.lc (.bin .mod (.bi .int (.cons (.var 7) (.nil))) (.sub (.var 4) (.con (.int 0)))) (.nm 7) (.ex (.sub (.var 5) (.con (.int 1)))) (.nil) [7])) (f_law_28_r4)))
def f_law_28_b5 : Ss := .cons (.asg (.nm 2) (.call "_law_tank" (.cons (.var 0) (.cons (.var 1) (.nil))))) (.cons (.for_ (.nm 3) (.rng1 (.con (.int 8))) (f_law_28_b4)) (.nil))
def f_law_28 : FD := { ps := ["script"], loc := ["at", "tank", "turn", "box", "pose", "marks", "here", "count"], body := .cons (.for_ (.nm 1) (.rng1 (.bi .max2 (.cons (.con (.int 1)) (.cons (.bi .min2 (.cons (.con (.int 3)) (.cons (.bi .len (.cons (.var 0) (.nil))) (.nil)))) (.nil))))) (f_law_28_b5)) (f_law_28_r1) }
end DP
namespace DP
open PySem (sizeLine Str)
local macro_rules | `(tactic| simp! only [$xs,*]) => `(tactic| (try simp only [$xs,*, IL_len, zaa, zab, zac, zad, zae, zaf, zag, zah, zai, zaj, zak, zal, zam, zan, zao, zap, zaq, zar, zas, zat, zau, zav, zaw, zax, zay, zaz, zaA, zaB, zaC, zaD, zaE, zaF, zaG, zaH, zaI, zaJ, zaK, zaL, zaM, zaN, zaO, zaP, zaQ, zaR, zaS, zaT, zaU, zaV, zaW, zaX, zaY, zaZ, zba, zbb, zbc, zbd, zbe, zbf, zbg, zbh, zbi, zbj, zbk, zbl, zbm, zbn, zbo, zbp, zbq, zbr, zbs, zbt, zbu, zbv, zbw, zbx, zby, zbz, zbA, zbB, zbC, zbD, zbE, zbF, zbG, zbH, zbI, zbJ, zbK, zbL, zbM, zbN, zbO, zbP, zbQ, zbR, zbS, zbT, zbU, zbV, zbW, zbX, zbY, zbZ, zca, zcb, zcc, zcd, zce, zcf, zcg, zch, zci, zcj, zck, zcl, zcm, zcn, zco, zcp, zcq, zcr, zcs, zct, zcu, zcv, zcw, zcx, zcy, zcz, zcA, zcB, zcC, zcD, zcE, zcF, zcG, zcH, zcI, zcJ, zcK, zcL, zcM, zcN, zcO, zcP, zcQ, zcR, zcS, zcT, zcU, zcV, zcW, zcX, zcY, zcZ, zda, zdb, zdc, zdd, zde, zdf, zdg, zdh, zdi, zdj, zdk, zdl, zdm, zdn, zdo, zdp, zdq, zdr, zds, zdt, zdu, zdv, zdw, zdx, zdy, zdz, zdA, zdB, zdC, zdD, zdE, zdF, zdG, zdH, zdI, zdJ, zdK, zdL, zdM, zdN, zdO, zdP, zdQ, zdR, zdS, zdT, zdU, zdV, zdW, zdX, zdY, zdZ, zea, zeb, zec, zed, zee, zef, zeg, zeh, zei, zej, zek, zel, zem, zen, zeo, zep, zeq, zer, zes, zet, zeu, zev, zew, zex, zey, zez, zeA, zeB, zeC, zeD, zeE, zeF, zeG, zeH, zeI, zeJ, zeK, zeL, zeM, zeN, zeO, zeP, zeQ, zeR, zeS, zeT, zeU, zeV, zeW, zeX, zeY, zeZ, zfa, zfb, zfc, zfd, zfe, zff, zfg, zfh, zfi, zfj, zfk, zfl, zfm, zfn, zfo, zfp, zfq, zfr, zfs, zft, zfu, zfv, zfw, zfx, zfy, zfz, zfA, zfB, zfC, zfD, zfE, zfF, zfG, zfH, zfI, zfJ, zfK, zfL, zfM, zfN, zfO, zfP, zfQ, zfR, zfS, zfT, zfU, zfV, zfW, zfX, zfY, zfZ, zga, zgb, zgc, zgd, zge, zgf, zgg, zgh, zgi, zgj, zgk, zgl, zgm, zgn, zgo, zgp, zgq, zgr, zgs, zgt, zgu, zgv, zgw, zgx, zgy, zgz, zgA, zgB, zgC, zgD, zgE, zgF, zgG, zgH, zgI, zgJ, zgK, zgL, zgM, zgN, zgO, zgP, zgQ, zgR, zgS, zgT, zgU, zgV, zgW, zgX, zgY, zgZ, zha, zhb, zhc, zhd, zhe, zhf, zhg, zhh, zhi, zhj, zhk, zhl, zhm, zhn, zho, zhp, zhq, zhr, zhs, zht, zhu, zhv, zhw, zhx, zhy, zhz, zhA, zhB, zhC, zhD, zhE, zhF, zhG, zhH, zhI, zhJ, zhK, zhL, zhM, zhN, zhO, zhP, zhQ, zhR, zhS, zhT, zhU, zhV, zhW, zhX, zhY, zhZ, zia, zib, zic, zid, zie, zif, zig, zih, zii, zij, zik, zil, zim, zin, zio, zipz, ziq, zir, zis, zit, ziu, ziv, ziw, zix, ziy, ziz, ziA, ziB, ziC, ziD, ziE, ziF, ziG, ziH, ziI, ziJ, ziK, ziL, ziM, ziN, ziO, ziP, ziQ, ziR, ziS, ziT, ziU, ziV, ziW, ziX, ziY, ziZ, zja, zjb, zjc, zjd, zje, zjf, zjg, zjh, zji, zjj, zjk, zjl, zjm, zjn, zjo, Bool.not_eq_true', decide_eq_false_iff_not, ite_not, Bool.false_eq_true, Int.reduceEq, wipeE, backE, IL_fz, IL_isFz, fz_fz, fzL_fzL, List.set_nil, List.set_cons_zero, List.set_cons_succ, List.getElem?_cons_zero, List.getElem?_cons_succ, List.length_cons, List.length_nil, and_true, true_and, Bool.and_true, Bool.true_and, Bool.not_true, Bool.not_false, Bool.not_not, if_true, if_false, ite_true, ite_false, Option.map_some, Option.map_none, Option.some.injEq, exists_eq_left, exists_eq_left', D.int.injEq, D.lst.injEq, D.bl.injEq, D.str.injEq, D.tup.injEq, List.cons_append, List.nil_append, List.not_mem_nil, not_false_eq_true, Bool.false_eq_true, List.all_cons, List.all_nil, reduceIte, reduceCtorEq, List.isEmpty_cons, List.isEmpty_nil, eq_self, decide_true, decide_false, Bool.if_true_left, exists_eq, exists_eq', decide_eq_true_eq, Int.reduceToNat, Int.reducePow, Int.reduceNeg, Int.reduceLT, Int.reduceLE, Int.reduceSub, Int.reduceAdd, and_false, false_and, List.mem_cons, or_false, false_or, exists_and_left, Nat.zero_add, ne_eq, not_true_eq_false, Nat.reduceAdd, Nat.reduceLT, Nat.reduceEqDiff, Nat.reduceLeDiff]))
/-- the frame of a def's start -/
theorem wpF_eq {Γ : Sig} {f : FD} {ds : List D} {Q : D → List D → Prop} {R : Exc → Prop} : wpF Γ f ds Q R = wpSs Γ f.body (startE f ds) { nx := fun env => ∃ o, outsOf env Γ.me = some o ∧ Q .non o, rt := fun d env => ∃ o, outsOf env Γ.me = some o ∧ Q d o, bk := fun _ => False, ct := fun _ => False, ex := fun x _ => R x } := rfl
def isInt : D → Bool
  | .int _ => true
  | _ => false
def sp_is_integer : FSpec := fun ds Q _ => ∃ x, ds = [x] ∧ szD x ∧ Q (.bl (isInt x)) []
theorem w_is_integer {Γ : Sig} (hm : Γ.me = []) (ds : List D) (Q : D → List D → Prop) (R : Exc → Prop) (h : sp_is_integer ds Q R) : wpF Γ f_is_integer ds Q R := by
  obtain ⟨x, rfl, hz, q⟩ := h
  cases x <;> first | exact hz.elim | (simp! only [wpF_eq, f_is_integer, startE, hm, List.map_cons, List.map_nil]; simpa [isInt] using q)
/-- turns: not 0, at most 60 -/
def Turns (ts : List Int) : Prop := ts.length ≤ 60 ∧ ∀ t ∈ ts, t ≠ 0
theorem enum_IL (ts : List Int) (k : Nat) : ((IL ts).zipIdx k).map (fun p => D.tup [.int p.2, p.1]) = (ts.zipIdx k).map fun p => D.tup [.int p.2, .int p.1] := by
  unfold IL
  rw [List.zipIdx_map, List.map_map]
  rfl
def sp_is_at_least : FSpec := fun ds Q _ => ∃ i j, ds = [.int i, .int j] ∧ Q (.bl (decide (j ≤ i))) []
theorem w_is_at_least {Γ : Sig} (hm : Γ.me = []) (H1 : Has Γ "is_integer" [] sp_is_integer) (ds : List D) (Q : D → List D → Prop) (R : Exc → Prop) (h : sp_is_at_least ds Q R) : wpF Γ f_is_at_least ds Q R := by
  obtain ⟨i, j, rfl, q⟩ := h
  simp! only [wpF_eq, f_is_at_least, startE, hm, H1.sp, H1.io, List.map_cons, List.map_nil]
  refine ⟨_, rfl, trivial, rfl, ?_⟩
  simp only [isInt]
  simp! only [hm]
  exact q
/-- the place of a wheel that the dial has taken to d -/
def heldP (p d r : Int) : Int := min (max p (d - r)) d
def Stk (b : Int) (x : D) : Prop := ∃ d m n, x = .lst true [.int d, .int m, .int n] ∧ 0 ≤ d ∧ 0 ≤ m ∧ m < 2 ^ 127 ∧ 0 ≤ n ∧ n ≤ b
theorem Stk.mono {b c : Int} {x : D} (h : Stk b x) (l : b ≤ c) : Stk c x := by
  obtain ⟨d, m, n, rfl, h1, h2, h3, h4, h5⟩ := h
  exact ⟨d, m, n, rfl, h1, h2, h3, h4, by omega⟩
theorem sum_le {ts : List Int} {B : Nat} (h : ∀ t ∈ ts, t.natAbs ≤ B) : (ts.map Int.natAbs).sum ≤ ts.length * B := by
  induction ts with
  | nil => simp
  | cons t ts ih =>
    have h1 := h t List.mem_cons_self
    have h2 := ih fun z hz => h z (List.mem_cons_of_mem _ hz)
    simp only [List.map_cons, List.sum_cons, List.length_cons, Nat.add_mul]
    omega
theorem bls_map (bs : List Bool) : blsD (bs.map .bl) = some bs := by
  induction bs with
  | nil => rfl
  | cons b bs ih => simp only [List.map_cons, blsD, ih, Option.map_some]
theorem ints_map (ns : List Int) : intsD (IL ns) = some ns := by
  induction ns with
  | nil => rfl
  | cons n ns ih =>
    show (intsD (IL ns)).map (n :: ·) = _
    rw [ih]; rfl
def LockD (r : Int) (ps : List Int) : D := .tup [.int r, .lst false (IL ps)]
def LockOk (r : Int) (ps : List Int) : Prop := 2 ≤ r ∧ 1 ≤ ps.length ∧ ps.length ≤ 8 ∧ ∀ p ∈ ps, 0 ≤ p
def sp_lock_fault : FSpec := fun ds Q _ => ∃ r ps, ds = [LockD r ps] ∧ LockOk r ps ∧ Q (.tup []) []
theorem w_lock_fault {Γ : Sig} (hm : Γ.me = []) (H1 : Has Γ "is_at_least" [] sp_is_at_least) (ds : List D) (Q : D → List D → Prop) (R : Exc → Prop) (h : sp_lock_fault ds Q R) : wpF Γ f_lock_fault ds Q R := by
  obtain ⟨r, ps, rfl, ⟨h1, h2, h3, h4⟩, q⟩ := h
  simp! only [wpF_eq, LockD, f_lock_fault, f_lock_fault_b1, f_lock_fault_b2, f_lock_fault_b3, startE, hm, H1.sp, H1.io, List.map_cons, List.map_nil]
  refine ⟨_, _, rfl, rfl, ?_⟩
  simp! only [h1, hm]
  rw [if_pos (by omega), if_pos (by omega)]
  refine lcD (fun items acc e => ∃ (l : List Int) (n : Nat) (a : Option D), items = IL l ∧ (∀ p ∈ l, 0 ≤ p) ∧ acc = (List.replicate n true).map .bl ∧ e = [some (.tup [.int r, .lst false (IL ps)]), some (.int r), some (.lst false (IL ps)), a] ∧ n + l.length = ps.length) ⟨ps, 0, _, rfl, h4, rfl, rfl, by omega⟩ ?_ ?_
  · rintro a e ⟨l, n, u, hi, _, rfl, rfl, _⟩
    refine ⟨_, bls_map _, ?_⟩
    rw [show (List.replicate n true).all id = true from by simp]
    exact q
  · rintro x xs a e k ⟨l, n, u, hi, hp, rfl, rfl, hn⟩ hk
    cases l with
    | nil => simp [IL] at hi
    | cons p l =>
      simp only [IL_cons, List.cons.injEq] at hi
      obtain ⟨rfl, rfl⟩ := hi
      simp only [List.length_cons] at hn
      simp! only [lcStep, hm, H1.sp, H1.io]
      refine ⟨_, _, rfl, rfl, ?_⟩
      simp! only [hp p List.mem_cons_self, hm]
      refine ⟨by simp only [List.length_map, List.length_replicate]; exact Nat.lt_of_lt_of_le (by omega) (Nat.le_of_ble_eq_true (rfl : Nat.ble 8 sizeLine = true)), hk _ _ ⟨l, n + 1, _, rfl, fun z hz => hp z (List.mem_cons_of_mem _ hz), ?_, rfl, by omega⟩⟩
      rw [List.replicate_succ', List.map_append]; rfl
def sp_require_lock : FSpec := fun ds Q _ => ∃ r ps, ds = [LockD r ps] ∧ LockOk r ps ∧ Q .non []
theorem w_require_lock {Γ : Sig} (hm : Γ.me = []) (H1 : Has Γ "lock_fault" [] sp_lock_fault) (ds : List D) (Q : D → List D → Prop) (R : Exc → Prop) (h : sp_require_lock ds Q R) : wpF Γ f_require_lock ds Q R := by
  obtain ⟨r, ps, rfl, ht, q⟩ := h
  simp! only [wpF_eq, LockD, f_require_lock, f_require_lock_b1, startE, hm, H1.sp, H1.io, List.map_cons, List.map_nil]
  refine ⟨_, ps, rfl, ht, rfl, ?_⟩
  refine cmp_nsame rfl rfl ?_
  simp! only [hm]
  exact q
/-- the wheels behind the dial at d -/
def Chain : Int → List Int → List Int → Prop
  | _, [], [] => True
  | d, q :: qs, p :: ps => 0 ≤ d - p ∧ d - p ≤ q ∧ Chain p qs ps
  | _, _, _ => False
def sp_places_right : FSpec := fun ds Q _ => ∃ d qs ps, ds = [.lst false (IL qs), .int d, .lst false (IL ps)] ∧ Chain d qs ps ∧ Q (.bl true) []
theorem Chain.len : ∀ {qs ps : List Int} {d : Int}, Chain d qs ps → ps.length = qs.length
  | [], [], _, _ => rfl
  | q :: qs, p :: ps, _, h => by rw [List.length_cons, List.length_cons, Chain.len h.2.2]
  | [], _ :: _, _, h => h.elim
  | _ :: _, [], _, h => h.elim
def zipD (qs ps : List Int) : List D := (IL qs).zipWith (fun x y => .tup [x, y]) (IL ps)
theorem w_places_right {Γ : Sig} (hm : Γ.me = []) (H1 : Has Γ "is_integer" [] sp_is_integer) (ds : List D) (Q : D → List D → Prop) (R : Exc → Prop) (h : sp_places_right ds Q R) : wpF Γ f_places_right ds Q R := by
  obtain ⟨d, qs, ps, rfl, hc, q⟩ := h
  have hl := hc.len
  simp! only [wpF_eq, f_places_right, f_places_right_b2, startE, hm, H1.sp, H1.io, List.map_cons, List.map_nil, IL_len, hl]
  refine forDK (fun items e => ∃ (l1 l2 : List Int) (a : Int) (u v : Option D), items = zipD l1 l2 ∧ Chain a l1 l2 ∧ e = [some (.lst false (IL qs)), some (.int d), some (.lst false (IL ps)), some (.int a), u, v]) ⟨qs, ps, d, none, none, rfl, hc, rfl⟩ ?_ ?_
  · rintro e ⟨l1, l2, a, u, v, hi, _, rfl⟩
    exact q
  · rintro x xs e k bk ⟨l1, l2, a, u, v, hi, hch, rfl⟩ hk _
    cases l1 with
    | nil => cases l2 <;> cases hi
    | cons q1 l1 =>
      cases l2 with
      | nil => cases hi
      | cons p1 l2 =>
        obtain ⟨rfl, rfl⟩ := List.cons.inj hi
        obtain ⟨c1, c2, c3⟩ := hch
        simp! only [f_places_right_b2, f_places_right_b1, hm, H1.sp, H1.io]
        refine ⟨_, rfl, trivial, rfl, ?_⟩
        simp! only [isInt, c1, c2, hm]
        exact hk _ ⟨l1, l2, p1, _, _, rfl, c3, rfl⟩
def StateD (d : Int) (ps : List Int) : D := .tup [.int d, .lst false (IL ps)]
def sp_state_fault : FSpec := fun ds Q _ => ∃ r qs d ps, ds = [LockD r qs, StateD d ps] ∧ Chain d qs ps ∧ Q (.tup []) []
theorem w_state_fault {Γ : Sig} (hm : Γ.me = []) (H1 : Has Γ "is_integer" [] sp_is_integer) (H2 : Has Γ "places_right" [] sp_places_right) (ds : List D) (Q : D → List D → Prop) (R : Exc → Prop) (h : sp_state_fault ds Q R) : wpF Γ f_state_fault ds Q R := by
  obtain ⟨r, qs, d, ps, rfl, hc, q⟩ := h
  simp! only [wpF_eq, LockD, StateD, f_state_fault, f_state_fault_b1, f_state_fault_b2, startE, hm, H1.sp, H1.io, H2.sp, H2.io, List.map_cons, List.map_nil]
  refine ⟨_, rfl, trivial, rfl, ?_⟩
  simp! only [isInt, hm, H2.sp, H2.io]
  refine ⟨_, _, _, rfl, hc, rfl, ?_⟩
  simp! only [hm]
  exact q
def sp_require_state : FSpec := fun ds Q _ => ∃ r qs d ps, ds = [LockD r qs, StateD d ps] ∧ Chain d qs ps ∧ Q .non []
theorem w_require_state {Γ : Sig} (hm : Γ.me = []) (H1 : Has Γ "state_fault" [] sp_state_fault) (ds : List D) (Q : D → List D → Prop) (R : Exc → Prop) (h : sp_require_state ds Q R) : wpF Γ f_require_state ds Q R := by
  obtain ⟨r, qs, d, ps, rfl, ht, q⟩ := h
  simp! only [wpF_eq, LockD, StateD, f_require_state, f_require_state_b1, startE, hm, H1.sp, H1.io, List.map_cons, List.map_nil]
  refine ⟨_, qs, _, ps, rfl, ht, rfl, ?_⟩
  refine cmp_nsame rfl rfl ?_
  simp! only [hm]
  exact q
/-- the reaches of the wheels -/
def sumsS : Int → List Int → List Int
  | _, [] => []
  | a, p :: ps => (a + p) :: sumsS (a + p) ps
theorem sumsS_len : ∀ (ps : List Int) (a : Int), (sumsS a ps).length = ps.length
  | [], _ => rfl
  | p :: ps, a => by simp only [sumsS, List.length_cons, sumsS_len ps]
theorem sumsS_snoc : ∀ (ps : List Int) (a p : Int), sumsS a (ps ++ [p]) = sumsS a ps ++ [a + ps.sum + p]
  | [], a, p => by simp [sumsS]
  | x :: ps, a, p => by simp only [List.cons_append, sumsS, sumsS_snoc ps, List.sum_cons]; congr 3; omega
def sp_wheel_reaches : FSpec := fun ds Q _ => ∃ r ps, ds = [LockD r ps] ∧ ps.length ≤ 8 ∧ Q (.lst true (IL (sumsS 0 ps))) []
theorem w_wheel_reaches {Γ : Sig} (hm : Γ.me = []) (ds : List D) (Q : D → List D → Prop) (R : Exc → Prop) (h : sp_wheel_reaches ds Q R) : wpF Γ f_wheel_reaches ds Q R := by
  obtain ⟨r, ps, rfl, hl, q⟩ := h
  simp! only [wpF_eq, LockD, f_wheel_reaches, startE, hm, List.map_cons, List.map_nil]
  refine forDK (fun items e => ∃ (l g : List Int) (a : Int) (u : Option D), items = IL l ∧ g ++ sumsS a l = sumsS 0 ps ∧ g.length + l.length ≤ 8 ∧ e = [some (.tup [.int r, .lst false (IL ps)]), some (.lst true (IL g)), some (.int a), u]) ⟨ps, [], 0, none, rfl, rfl, by simpa using hl, rfl⟩ ?_ ?_
  · rintro e ⟨l, g, a, u, hi, hg, _, rfl⟩
    cases l with
    | cons _ _ => simp [IL] at hi
    | nil =>
      simp only [sumsS, List.append_nil] at hg
      rw [← hg] at q
      exact q
  · rintro x xs e k bk ⟨l, g, a, u, hi, hg, hn, rfl⟩ hk _
    cases l with
    | nil => simp [IL] at hi
    | cons p l =>
      simp only [IL_cons, List.cons.injEq] at hi
      obtain ⟨rfl, rfl⟩ := hi
      simp only [List.length_cons] at hn
      simp! only [f_wheel_reaches_b1, flatD, hm]
      rw [IL_app]
      refine ⟨Nat.lt_of_lt_of_le (by omega) (Nat.le_of_ble_eq_true (rfl : Nat.ble 9 sizeLine = true)), hk _ ⟨l, _, _, _, rfl, ?_, by rw [List.length_append]; simp; omega, rfl⟩⟩
      rw [← hg, List.append_assoc]; rfl
/-- all wheels, turned by turns -/
def heldL (d : Int) : List Int → List Int → List Int
  | p :: ps, r :: rs => heldP p d r :: heldL d ps rs
  | _, _ => []
def walkL (rs : List Int) : List Int → List Int → Int → List Int
  | [], ps, _ => ps
  | t :: ts, ps, d => walkL rs ts (heldL (d + t) ps rs) (d + t)
def wayT (ts : List Int) : Int := (ts.map fun t => if t < 0 then -t else t).sum
theorem line60 {n : Nat} (h : n ≤ 70) : n < sizeLine := Nat.lt_of_le_of_lt h (Nat.lt_of_lt_of_le (by decide) (Nat.le_of_ble_eq_true (rfl : Nat.ble 71 sizeLine = true)))
/-- the law's draws: nothing is known of them but their bounds -/
def Coil (b : Int) (x : D) : Prop := ∃ d m n, x = .lst true [.int d, .int m, .int n] ∧ 0 ≤ d ∧ 0 ≤ m ∧ m < 2 ^ 127 ∧ 0 ≤ n ∧ n ≤ b
theorem Coil.mono {b c : Int} {x : D} (h : Coil b x) (l : b ≤ c) : Coil c x := by
  obtain ⟨d, m, n, rfl, h1, h2, h3, h4, h5⟩ := h
  exact ⟨d, m, n, rfl, h1, h2, h3, h4, by omega⟩
def sp_cdraw : FSpec := fun ds Q _ => ∃ b x w, ds = [x, .int w] ∧ Coil b x ∧ b ≤ 10 ^ 12 ∧ 0 < w ∧ w < 10 ^ 40 ∧ ∀ r y, 0 ≤ r → r < w → Coil (b + 1) y → Q (.int r) [y]
/-- the last place, the dial's where there is none -/
def lastD : Int → List Int → Int
  | d, [] => d
  | _, p :: ps => lastD p ps
theorem lastD_snoc : ∀ (ps : List Int) (d p : Int), lastD d (ps ++ [p]) = p
  | [], _, _ => rfl
  | _ :: ps, _, p => lastD_snoc ps _ p
theorem Chain.snoc : ∀ {qs ps : List Int} {d q p : Int}, Chain d qs ps → 0 ≤ lastD d ps - p → lastD d ps - p ≤ q → Chain d (qs ++ [q]) (ps ++ [p])
  | [], [], d, q, p, _, h1, h2 => ⟨h1, h2, trivial⟩
  | q0 :: qs, p0 :: ps, d, q, p, h, h1, h2 => ⟨h.1, h.2.1, Chain.snoc h.2.2 h1 h2⟩
  | [], _ :: _, _, _, _, h, _, _ => h.elim
  | _ :: _, [], _, _, _, h, _, _ => h.elim
theorem atI_mid {α : Type} {xs ys : List α} {y : α} {i : Int} (h : i = xs.length) : L2.atI (xs ++ y :: ys) i = some y := by
  subst h
  unfold L2.atI L2.ixN
  rw [if_pos (by omega), if_pos (by simp; omega)]
  simp
/-- the places stand between the dial and their reach -/
def Within (d : Int) : List Int → List Int → Prop
  | p :: ps, r :: rs => 0 ≤ r ∧ d - r ≤ p ∧ p ≤ d ∧ Within d ps rs
  | _, _ => True
theorem walkL_app (rs : List Int) : ∀ (ts us ps : List Int) (d : Int), walkL rs (ts ++ us) ps d = walkL rs us (walkL rs ts ps d) (d + ts.sum)
  | [], us, ps, d => by simp [walkL]
  | t :: ts, us, ps, d => by simp only [List.cons_append, walkL, walkL_app rs ts, List.sum_cons]; congr 1 <;> omega
/-- a state's places are within the reaches -/
theorem chain_within : ∀ {qs ps : List Int} {d e a : Int}, Chain e qs ps → e ≤ d → d - a ≤ e → 0 ≤ a → (∀ q ∈ qs, 0 ≤ q) → Within d ps (sumsS a qs)
  | [], [], _, _, _, _, _, _, _, _ => trivial
  | q :: qs, p :: ps, d, e, a, h, h1, h2, h3, hq => by
    have hq0 := hq q List.mem_cons_self
    exact ⟨by omega, by have := h.1; have := h.2.1; omega, by have := h.1; omega, chain_within h.2.2 (by have := h.1; omega) (by have := h.1; have := h.2.1; omega) (by omega) fun z hz => hq z (List.mem_cons_of_mem _ hz)⟩
  | [], _ :: _, _, _, _, h, _, _, _, _ => h.elim
  | _ :: _, [], _, _, _, h, _, _, _, _ => h.elim
theorem way_abs : ∀ (ts : List Int), (wayT ts).natAbs = (ts.map Int.natAbs).sum
  | [] => rfl
  | t :: ts => by
    have ih := way_abs ts
    have h0 : 0 ≤ wayT ts := by
      clear ih
      induction ts with
      | nil => exact Int.le_refl 0
      | cons u us ih =>
        show 0 ≤ (if u < 0 then -u else u) + wayT us
        split <;> omega
    rw [List.map_cons, List.sum_cons, ← ih]
    show ((if t < 0 then -t else t) + wayT ts).natAbs = _
    split <;> omega
def sp_lreaches : FSpec := fun ds Q _ => ∃ r qs, ds = [LockD r qs] ∧ qs.length ≤ 8 ∧ Q (.lst true (IL (sumsS 0 qs))) []
theorem chain_held {d2 d : Int} : ∀ {qs ps : List Int} {e a ra : Int}, Chain e qs ps → a = heldP e d2 ra → d - ra ≤ e → e ≤ d → 0 ≤ ra → (∀ q ∈ qs, 0 ≤ q) → Chain a qs (heldL d2 ps (sumsS ra qs))
  | [], [], _, _, _, _, _, _, _, _, _ => trivial
  | q :: qs, p :: ps, e, a, ra, h, ha, h1, h2, h3, hq => by
    have q0 := hq q List.mem_cons_self
    obtain ⟨c1, c2, c3⟩ := h
    refine ⟨?_, ?_, chain_held (d := d) c3 rfl (by omega) (by omega) (by omega) fun z hz => hq z (List.mem_cons_of_mem _ hz)⟩
    · subst ha; unfold heldP; omega
    · subst ha; unfold heldP; omega
  | [], _ :: _, _, _, _, h, _, _, _, _, _ => h.elim
  | _ :: _, [], _, _, _, h, _, _, _, _, _ => h.elim
theorem chain_turn {qs ps : List Int} {d d2 : Int} (h : Chain d qs ps) (hq : ∀ q ∈ qs, 0 ≤ q) : Chain d2 qs (heldL d2 ps (sumsS 0 qs)) := chain_held (d := d) h (by unfold heldP; omega) (by omega) (by omega) (by omega) hq
theorem chain_walk {qs : List Int} (hq : ∀ q ∈ qs, 0 ≤ q) : ∀ (ts ps : List Int) (d : Int), Chain d qs ps → Chain (d + ts.sum) qs (walkL (sumsS 0 qs) ts ps d)
  | [], ps, d, h => by simpa [walkL] using h
  | t :: ts, ps, d, h => by
    have := chain_walk hq ts _ (d + t) (chain_turn (d2 := d + t) h hq)
    rw [List.sum_cons, show d + (t + ts.sum) = d + t + ts.sum by omega]
    exact this
theorem within_same {d : Int} : ∀ {ps rs : List Int}, ps.length = rs.length → Within d ps rs → heldL d ps rs = ps
  | [], [], _, _ => rfl
  | p :: ps, r :: rs, hl, h => by
    obtain ⟨h1, h2, h3, h4⟩ := h
    simp only [heldL, within_same (by simpa using hl) h4]
    congr 1
    unfold heldP; omega
  | [], _ :: _, hl, _ => by simp at hl
  | _ :: _, [], hl, _ => by simp at hl
theorem listIL (o : Bool) (xs : List Int) {Q : D → Prop} : biD .list [.lst o (IL xs)] Q = Q (.lst true (IL xs)) := propext ⟨fun h => h.2, fun h => ⟨IL_isFz xs, h⟩⟩
mutual
theorem small_fz : ∀ d : D, smallD d.fz = smallD d
  | .non => rfl | .bl _ => rfl | .int _ => rfl | .str _ => rfl
  | .exc _ _ _ => by simp only [D.fz, smallD]
  | .ins _ _ _ _ => by simp only [D.fz, smallD]
  | .dct _ _ _ => by simp only [D.fz, smallD]
  | .tup xs => by simp only [D.fz, smallD, smallL_fz xs]
  | .lst _ xs => by simp only [D.fz, smallD, smallL_fz xs]
theorem smallL_fz : ∀ ds : List D, smallL (fzL ds) = smallL ds
  | [] => rfl
  | x :: xs => by simp only [fzL, smallL, small_fz x, smallL_fz xs]
end
mutual
theorem plain_fz : ∀ (d : D) (n : Nat), plainD n d.fz = plainD n d
  | .non, n => rfl | .bl _, n => rfl | .int _, n => rfl | .str _, n => rfl
  | .exc _ _ _, n => by cases n <;> simp only [D.fz, plainD]
  | .ins _ _ _ _, n => by cases n <;> simp only [D.fz, plainD]
  | .dct _ _ _, n => by cases n <;> simp only [D.fz, plainD]
  | .tup xs, 0 => by simp only [D.fz, plainD]
  | .tup xs, n + 1 => by simp only [D.fz, plainD, plainL_fz xs n]
  | .lst _ xs, 0 => by simp only [D.fz, plainD]
  | .lst _ xs, n + 1 => by simp only [D.fz, plainD, plainL_fz xs n]
theorem plainL_fz : ∀ (ds : List D) (n : Nat), plainL n (fzL ds) = plainL n ds
  | [], n => rfl
  | x :: xs, n => by simp only [fzL, plainL, plain_fz x n, plainL_fz xs n]
end
mutual
theorem sz_fz : ∀ d : D, szN d.fz = szN d
  | .non => rfl | .bl _ => rfl | .int _ => rfl | .str _ => rfl
  | .exc _ _ _ => by simp only [D.fz, szN]
  | .ins _ _ _ _ => by simp only [D.fz, szN]
  | .dct _ _ _ => by simp only [D.fz, szN]
  | .tup xs => by simp only [D.fz, szN, szL_fz xs]
  | .lst _ xs => by simp only [D.fz, szN, szL_fz xs]
theorem szL_fz : ∀ ds : List D, szL (fzL ds) = szL ds
  | [] => rfl
  | x :: xs => by simp only [fzL, szL, sz_fz x, szL_fz xs]
end
theorem Tm.fz {k n : Nat} {d : D} (h : Tm k n d) : Tm k n d.fz := ⟨by rw [small_fz]; exact h.1, by rw [plain_fz]; exact h.2.1, by rw [sz_fz]; exact h.2.2⟩
theorem chain_bd {B : Int} (hB : 0 ≤ B) : ∀ {qs ps : List Int} {d : Int}, Chain d qs ps → (∀ q ∈ qs, q ≤ B) → ∀ p ∈ ps, d - qs.length * B ≤ p ∧ p ≤ d
  | [], [], _, _, _, p, hp => by cases hp
  | q :: qs, p0 :: ps, d, h, hq, p, hp => by
    obtain ⟨c1, c2, c3⟩ := h
    have q0 := hq q List.mem_cons_self
    rw [List.length_cons]
    have e : d - ((qs.length + 1 : Nat) : Int) * B = d - B - qs.length * B := by
      push_cast
      rw [Int.add_mul]
      omega
    have hn : 0 ≤ (qs.length : Int) * B := Int.mul_nonneg (by omega) hB
    rcases List.mem_cons.mp hp with rfl | hp
    · omega
    · have := chain_bd hB c3 (fun z hz => hq z (List.mem_cons_of_mem _ hz)) p hp
      omega
  | [], _ :: _, _, h, _, _, _ => h.elim
  | _ :: _, [], _, h, _, _, _ => h.elim
/-- one turn, wheel by wheel -/
def turnL (t : Int) : Int → List Int → List Int → List Int
  | a, q :: qs, p :: ps => (if t > 0 then max p (a - q) else min p a) :: turnL t (if t > 0 then max p (a - q) else min p a) qs ps
  | _, _, _ => []
theorem turn_eq {t d : Int} : ∀ (qs ps : List Int) (e a ra : Int), Chain e qs ps → a = heldP e (d + t) ra → d - ra ≤ e → e ≤ d → 0 ≤ ra → (∀ q ∈ qs, 0 ≤ q) → turnL t a qs ps = heldL (d + t) ps (sumsS ra qs)
  | [], [], _, _, _, _, _, _, _, _, _ => rfl
  | q :: qs, p :: ps, e, a, ra, h, ha, h1, h2, h3, hq => by
    have q0 := hq q List.mem_cons_self
    obtain ⟨c1, c2, c3⟩ := h
    have e1 : (if t > 0 then max p (a - q) else min p a) = heldP p (d + t) (ra + q) := by
      unfold heldP at ha ⊢
      split <;> omega
    simp only [turnL, sumsS, heldL, e1]
    rw [turn_eq qs ps p _ (ra + q) c3 rfl (by omega) (by omega) (by omega) fun z hz => hq z (List.mem_cons_of_mem _ hz)]
  | [], _ :: _, _, _, _, h, _, _, _, _, _ => h.elim
  | _ :: _, [], _, _, _, h, _, _, _, _, _ => h.elim
/-- the same way in more turns -/
def SameWay (us ts : List Int) : Prop := us.sum = ts.sum ∧ ∀ (rs ps : List Int) (d : Int), Within d ps rs → walkL rs us ps d = walkL rs ts ps d
theorem SameWay.snoc {us ts : List Int} (h : SameWay us ts) (t : Int) : SameWay (us ++ [t]) (ts ++ [t]) := by
  refine ⟨by rw [List.sum_append, List.sum_append, h.1], fun rs ps d w => ?_⟩
  rw [walkL_app, walkL_app, h.2 rs ps d w, h.1]
theorem cut_take {xs : List Int} {c : Int} (h0 : 0 ≤ c) (h1 : c ≤ xs.length) : cutD (IL xs) none (some c) = IL (xs.take c.toNat) := by
  unfold cutD HT.sIx IL
  simp only [List.length_map]
  rw [List.map_take]
  congr 1
  split <;> omega
theorem cut_drop {xs : List Int} {c : Int} (h0 : 0 ≤ c) (h1 : c ≤ xs.length) : cutD (IL xs) (some c) none = IL (xs.drop c.toNat) := by
  unfold cutD HT.sIx IL
  simp only [List.length_map]
  rw [List.map_drop]
  have e : (if c < 0 then (c + (xs.length : Int)).toNat else min c.toNat xs.length) = c.toNat := by split <;> omega
  rw [e, List.take_of_length_le (by simp)]
theorem repI_mem {xs : List Int} : ∀ (n : Nat) (t : Int), t ∈ (List.replicate n xs).flatten → t ∈ xs := by
  intro n t h
  obtain ⟨l, hl, ht⟩ := List.mem_flatten.mp h
  rw [(List.mem_replicate.mp hl).2] at ht
  exact ht
theorem lk8 {r a : Int} (hr : 2 ≤ r) (h : 0 ≤ a) : LockOk r (List.replicate 8 [a]).flatten := ⟨hr, by simp, by simp, fun p hp => by rw [List.mem_singleton.mp (repI_mem 8 p hp)]; exact h⟩
def numL (r : Int) (ps : List Int) : List Int := ps.map fun p => p % r
theorem numL_il (r : Int) (ps : List Int) : List.map (fun p => D.int (p % r)) ps = IL (numL r ps) := by unfold IL numL; rw [List.map_map]; rfl
def GatesOk (r : Int) (qs gs : List Int) : Prop := gs.length = qs.length ∧ ∀ g ∈ gs, 0 ≤ g ∧ g < r
def sp_gates_fault : FSpec := fun ds Q _ => ∃ r qs o gs, ds = [LockD r qs, .lst o (IL gs)] ∧ GatesOk r qs gs ∧ Q (.tup []) []
theorem w_gates_fault {Γ : Sig} (hm : Γ.me = []) (H1 : Has Γ "is_at_least" [] sp_is_at_least) (ds : List D) (Q : D → List D → Prop) (R : Exc → Prop) (h : sp_gates_fault ds Q R) : wpF Γ f_gates_fault ds Q R := by
  obtain ⟨r, qs, o, gs, rfl, ⟨hl, hg⟩, q⟩ := h
  simp! only [wpF_eq, LockD, f_gates_fault, startE, List.map_cons, List.map_nil, hl, hm, H1.sp, H1.io]
  rw [show (List.map (fun p => D.tup [D.int (p.2 : Nat), p.1]) (IL gs).zipIdx) = _ from enum_IL gs 0]
  refine forMap (fun p : Int × Nat => D.tup [.int (p.2 : Nat), .int p.1]) (fun pre suf e => ∃ (u v : Option D), e = [some (.tup [.int r, .lst false (IL qs)]), some (.lst false (IL gs)), some (.int r), some (.lst false (IL qs)), u, v]) ⟨none, none, rfl⟩ ?_ ?_
  · rintro e ⟨u, v, rfl⟩
    simp! only [hm, H1.sp, H1.io]
    exact q
  · rintro pre p suf e k bk hp ⟨u, v, rfl⟩ hk _
    have hmem : p.1 ∈ gs := List.fst_mem_of_mem_zipIdx (by rw [← hp]; simp)
    obtain ⟨g0, g1⟩ := hg _ hmem
    simp! only [f_gates_fault_b2, f_gates_fault_b1, hm, H1.sp, H1.io]
    refine ⟨_, _, rfl, rfl, ?_⟩
    simp! only [g0, g1, hm, H1.sp, H1.io]
    rw [if_neg (by omega)]
    exact hk _ ⟨_, _, rfl⟩
def sp_require_gates : FSpec := fun ds Q _ => ∃ r qs o gs, ds = [LockD r qs, .lst o (IL gs)] ∧ GatesOk r qs gs ∧ Q .non []
theorem w_require_gates {Γ : Sig} (hm : Γ.me = []) (H1 : Has Γ "gates_fault" [] sp_gates_fault) (ds : List D) (Q : D → List D → Prop) (R : Exc → Prop) (h : sp_require_gates ds Q R) : wpF Γ f_require_gates ds Q R := by
  obtain ⟨r, qs, o, gs, rfl, hg, q⟩ := h
  simp! only [wpF_eq, LockD, f_require_gates, f_require_gates_b1, startE, List.map_cons, List.map_nil, hm, H1.sp, H1.io]
  refine ⟨_, qs, _, gs, rfl, hg, rfl, ?_⟩
  refine cmp_nsame rfl rfl ?_
  simp! only [hm, H1.sp, H1.io]
  exact q
def sp_past : FSpec := fun ds Q _ => ∃ b x r qs d, ds = [x, LockD r qs, .int d] ∧ Coil b x ∧ b ≤ 10 ^ 11 ∧ qs.length ≤ 8 ∧ (∀ p ∈ qs, 0 ≤ p ∧ p < 10 ^ 39) ∧ ∀ ps y, Chain d qs ps → Coil (b + 40) y → Q (.tup [.int d, .lst true (IL ps)]) [y]
def sp_lbehind : FSpec := fun ds Q _ => ∃ r qs d ps o ts, ds = [LockD r qs, StateD d ps, .lst o (IL ts)] ∧ qs.length ≤ 8 ∧ (∀ q ∈ qs, 0 ≤ q) ∧ Chain d qs ps ∧ ts.length ≤ 60 ∧ ∀ o, Q (.tup [.int (d + ts.sum), .lst o (IL (walkL (sumsS 0 qs) ts ps d))]) []
mutual
def noB : D → Bool
  | .non => true | .int _ => true | .bl _ => false | .str _ => false | .exc _ _ _ => false | .ins _ _ _ _ => false | .dct _ _ _ => false | .tup xs => noBL xs | .lst _ xs => noBL xs
def noBL : List D → Bool
  | [] => true
  | x :: xs => noB x && noBL xs
end
mutual
theorem eqv_noB : ∀ x y : D, noB x = true → noB y = true → (PySem.PyData.eqv x.py y.py = true ↔ x.fz = y.fz)
  | .non, .non, _, _ => by simp [D.py, PySem.PyData.eqv]
  | .non, .int _, _, _ => by simp [D.py, D.fz, PySem.PyData.eqv]
  | .non, .tup _, _, _ => by simp [D.py, D.fz, PySem.PyData.eqv]
  | .non, .lst _ _, _, _ => by simp [D.py, D.fz, PySem.PyData.eqv]
  | .int _, .non, _, _ => by simp [D.py, D.fz, PySem.PyData.eqv]
  | .int _, .int _, _, _ => by simp [D.py, D.fz, PySem.PyData.eqv]
  | .int _, .tup _, _, _ => by simp [D.py, D.fz, PySem.PyData.eqv]
  | .int _, .lst _ _, _, _ => by simp [D.py, D.fz, PySem.PyData.eqv]
  | .tup _, .non, _, _ => by simp [D.py, D.fz, PySem.PyData.eqv]
  | .tup _, .int _, _, _ => by simp [D.py, D.fz, PySem.PyData.eqv]
  | .tup xs, .tup ys, hx, hy => by
    have := eqvL_noB xs ys (by simpa only [noB] using hx) (by simpa only [noB] using hy)
    simp only [D.py, D.fz, PySem.PyData.eqv, D.tup.injEq]
    exact this
  | .tup _, .lst _ _, _, _ => by simp [D.py, D.fz, PySem.PyData.eqv]
  | .lst _ _, .non, _, _ => by simp [D.py, D.fz, PySem.PyData.eqv]
  | .lst _ _, .int _, _, _ => by simp [D.py, D.fz, PySem.PyData.eqv]
  | .lst _ _, .tup _, _, _ => by simp [D.py, D.fz, PySem.PyData.eqv]
  | .lst _ xs, .lst _ ys, hx, hy => by
    have := eqvL_noB xs ys (by simpa only [noB] using hx) (by simpa only [noB] using hy)
    simp only [D.py, D.fz, PySem.PyData.eqv, D.lst.injEq, true_and]
    exact this
  | .bl _, _, h, _ => by simp [noB] at h
  | .str _, _, h, _ => by simp [noB] at h
  | .non, .bl _, _, h => by simp [noB] at h
  | .non, .str _, _, h => by simp [noB] at h
  | .int _, .bl _, _, h => by simp [noB] at h
  | .int _, .str _, _, h => by simp [noB] at h
  | .tup _, .bl _, _, h => by simp [noB] at h
  | .tup _, .str _, _, h => by simp [noB] at h
  | .lst _ _, .bl _, _, h => by simp [noB] at h
  | .lst _ _, .str _, _, h => by simp [noB] at h
  | .exc _ _ _, _, h, _ => by simp [noB] at h
  | _, .exc _ _ _, _, h => by simp [noB] at h
  | .ins _ _ _ _, _, h, _ => by simp [noB] at h
  | _, .ins _ _ _ _, _, h => by simp [noB] at h
  | .dct _ _ _, _, h, _ => by simp [noB] at h
  | _, .dct _ _ _, _, h => by simp [noB] at h
theorem eqvL_noB : ∀ xs ys : List D, noBL xs = true → noBL ys = true → (PySem.PyData.eqvAll (pyL xs) (pyL ys) = true ↔ fzL xs = fzL ys)
  | [], [], _, _ => by simp [pyL, fzL, PySem.PyData.eqvAll]
  | [], _ :: _, _, _ => by simp [pyL, fzL, PySem.PyData.eqvAll]
  | _ :: _, [], _, _ => by simp [pyL, fzL, PySem.PyData.eqvAll]
  | x :: xs, y :: ys, hx, hy => by
    simp only [noBL, Bool.and_eq_true] at hx hy
    have h1 := eqv_noB x y hx.1 hy.1
    have h2 := eqvL_noB xs ys hx.2 hy.2
    simp only [pyL, fzL, PySem.PyData.eqvAll, Bool.and_eq_true, List.cons.injEq, h1, h2]
end
theorem noBL_map {α : Type} {xs : List α} {g : α → D} (h : ∀ x ∈ xs, noB (g x) = true) : noBL (xs.map g) = true := by
  induction xs with
  | nil => rfl
  | cons x xs ih =>
    simp only [List.map_cons, noBL, Bool.and_eq_true]
    exact ⟨h x List.mem_cons_self, ih fun z hz => h z (List.mem_cons_of_mem _ hz)⟩
theorem noB_IL (xs : List Int) : noBL (IL xs) = true := noBL_map fun _ _ => rfl
/-- == of data of numbers -/
theorem eq_num {x y : D} {Q : Bool → Prop} (hx : plainD 64 x = true) (hy : plainD 64 y = true) (nx : noB x = true) (ny : noB y = true) (q : ∀ b : Bool, (b = true ↔ x.fz = y.fz) → Q b) : eqD x y Q := by
  have g : eqG x y Q := ⟨shaped_of hx, shaped_of hy, q _ (eqv_noB x y nx ny)⟩
  cases x <;> first | exact g | simp [plainD] at hx
theorem ceq_num {x y : D} {Q : Bool → Prop} (hx : plainD 64 x = true) (hy : plainD 64 y = true) (nx : noB x = true) (ny : noB y = true) (q : ∀ b : Bool, (b = true ↔ x.fz = y.fz) → Q b) : cmpD .eq x y Q := eq_num hx hy nx ny q
theorem IL_inj {xs ys : List Int} : IL xs = IL ys ↔ xs = ys := by
  constructor
  · intro h
    exact (List.map_inj_right fun a b h => by injection h).mp h
  · rintro rfl; rfl
/-- for i in range(a, b, c), also downwards -/
theorem forRgS {Γ : Sig} {t : T} {b : Ss} {K : Con} {env : Env} {a c : Int} {n : Nat} (Inv : Nat → Env → Prop) (h0 : Inv 0 env) (hd : ∀ e, Inv n e → K.nx e)
    (hs : ∀ i e (k bk : Env → Prop), i < n → Inv i e → (∀ e', Inv (i + 1) e' → k e') → (∀ e', K.nx e' → bk e') → setT Γ.me t (.int (a + (i : Nat) * c)) e fun e2 => wpSs Γ b e2 { nx := k, rt := K.rt, bk := bk, ct := k, ex := K.ex }) :
    (rngD a n c).foldr (forStep Γ t b K) K.nx env := by
  unfold rngD
  refine forMap (fun (k : Nat) => D.int (a + (k : Nat) * c)) (fun pre _ e => Inv pre.length e) h0 (fun e h => hd e (by simpa using h)) fun pre x suf e k bk h1 h2 h3 h4 => ?_
  have hl : pre.length < n := by have := congrArg List.length h1; simp at this; omega
  have hx : x = pre.length := by
    have q1 : (List.range n)[pre.length]? = some x := by rw [← h1, List.getElem?_append_right (Nat.le_refl _)]; simp
    rw [List.getElem?_range hl] at q1
    exact (Option.some.inj q1).symm
  subst hx
  exact hs _ e k bk hl h2 (fun e' h => h3 e' (by simpa using h)) h4
theorem set_mid {α : Type} {xs ys : List α} {x y : α} : (xs ++ x :: ys).set xs.length y = xs ++ y :: ys := by
  rw [List.set_append_right _ _ (Nat.le_refl _)]; simp
theorem whl_eq {c : E} {b : Ss} {Γ : Sig} {env : Env} {K : Con} : wpS Γ (.whl c b) env K = ∃ W : Nat → Env → Prop, (∃ m, W m env) ∧ ∀ m e, W m e → wpT Γ c e (fun k e1 => if k = true then wpSs Γ b e1 { K with nx := fun e2 => ∃ m', m' < m ∧ W m' e2, ct := fun e2 => ∃ m', m' < m ∧ W m' e2, bk := K.nx } else K.nx e1) K.ex := rfl
theorem line4k {n : Nat} (h : n ≤ 4000) : n < sizeLine := Nat.lt_of_le_of_lt h (Nat.lt_of_lt_of_le (by decide) (Nat.le_of_ble_eq_true (rfl : Nat.ble 4001 sizeLine = true)))
def LF (ps : List Int) : D := .lst false (IL ps)
theorem LF_fz (L : List (List Int)) : fzL (L.map LF) = L.map LF := by
  induction L with
  | nil => rfl
  | cons a L ih => simp only [List.map_cons, fzL, ih]; rw [LF, D.fz, IL_fz]
theorem enkIL (s : Int) (xs : List Int) : ((IL xs).zipIdx.map fun p => D.tup [.int (s + (p.2 : Nat)), p.1]) = (List.range xs.length).map fun i => D.tup [.int (s + (i : Nat)), .int (xs.getD i 0)] := by
  apply List.ext_getElem?
  intro i
  simp only [List.getElem?_map, List.getElem?_zipIdx, IL, Nat.zero_add]
  by_cases h : i < xs.length
  · rw [List.getElem?_eq_getElem h, List.getElem?_range h]
    simp [List.getD, h]
  · rw [List.getElem?_eq_none (by omega), List.getElem?_eq_none (by simp; omega)]
    rfl
theorem enIL (xs : List Int) : ((IL xs).zipIdx.map fun p => D.tup [.int (p.2 : Nat), p.1]) = (List.range xs.length).map fun i => D.tup [.int (i : Nat), .int (xs.getD i 0)] := by
  have := enkIL 0 xs
  simpa using this
theorem forN {Γ : Sig} {t : T} {b : Ss} {K : Con} {env : Env} {n : Nat} (f : Nat → D) (Inv : Nat → Env → Prop) (h0 : Inv 0 env) (hd : ∀ e, Inv n e → K.nx e)
    (hs : ∀ i e (k bk : Env → Prop), i < n → Inv i e → (∀ e', Inv (i + 1) e' → k e') → (∀ e', K.nx e' → bk e') → setT Γ.me t (f i) e fun e2 => wpSs Γ b e2 { nx := k, rt := K.rt, bk := bk, ct := k, ex := K.ex }) :
    ((List.range n).map f).foldr (forStep Γ t b K) K.nx env := by
  refine forMap f (fun pre _ e => Inv pre.length e) h0 (fun e h => hd e (by simpa using h)) fun pre x suf e k bk h1 h2 h3 h4 => ?_
  have hl : pre.length < n := by have := congrArg List.length h1; simp at this; omega
  have hx : x = pre.length := by
    have q1 : (List.range n)[pre.length]? = some x := by rw [← h1, List.getElem?_append_right (Nat.le_refl _)]; simp
    rw [List.getElem?_range hl] at q1
    exact (Option.some.inj q1).symm
  subst hx
  exact hs _ e k bk hl h2 (fun e' h => h3 e' (by simpa using h)) h4
theorem chain_wi {qs ps : List Int} {d : Int} (hq : ∀ q ∈ qs, 0 ≤ q) (h : Chain d qs ps) : Within d ps (sumsS 0 qs) := chain_within (a := 0) h (Int.le_refl d) (by omega) (Int.le_refl 0) hq
theorem at_D {xs : List Int} {i : Nat} (h : i < xs.length) {k : Int} (e : k = i) : L2.atI (IL xs) k = some (.int (xs.getD i 0)) := by
  subst e
  refine IL_at ?_
  unfold L2.atI L2.ixN
  rw [if_pos (by omega), if_pos (by omega)]
  simp [List.getD, h]
theorem held_same {qs ps : List Int} {d : Int} (hq : ∀ q ∈ qs, 0 ≤ q) (h : Chain d qs ps) : heldL d ps (sumsS 0 qs) = ps := within_same (by rw [h.len, sumsS_len]) (chain_wi hq h)
/-- the turns of a dial that goes to stops -/
def tto : Int → List Int → List Int
  | _, [] => []
  | d, s :: ss => if s = d then tto s ss else (s - d) :: tto s ss
theorem tto_len : ∀ (ss : List Int) (d : Int), (tto d ss).length ≤ ss.length
  | [], _ => Nat.le_refl _
  | s :: ss, d => by
    have := tto_len ss s
    simp only [tto]
    split <;> simp only [List.length_cons] <;> omega
theorem tto_ne : ∀ (ss : List Int) (d : Int), ∀ t ∈ tto d ss, t ≠ 0
  | [], _, t, h => by cases h
  | s :: ss, d, t, h => by
    simp only [tto] at h
    split at h
    · exact tto_ne ss s t h
    · rename_i c
      rcases List.mem_cons.mp h with rfl | h
      · omega
      · exact tto_ne ss s t h
theorem tto_snoc : ∀ (ss : List Int) (d x : Int), tto d (ss ++ [x]) = tto d ss ++ (if x = lastD d ss then [] else [x - lastD d ss])
  | [], d, x => by by_cases c : x = d <;> simp [tto, lastD, c]
  | s :: ss, d, x => by
    have ih := tto_snoc ss s x
    by_cases c : s = d
    · simp only [List.cons_append, tto, if_pos c, ih, lastD]; rfl
    · simp only [List.cons_append, tto, if_neg c, ih, lastD]; rfl
def sp_turns_to : FSpec := fun ds Q _ => ∃ d o ss, ds = [.int d, .lst o (IL ss)] ∧ ss.length ≤ 60 ∧ Q (.lst true (IL (tto d ss))) []
theorem w_turns_to {Γ : Sig} (hm : Γ.me = []) (ds : List D) (Q : D → List D → Prop) (R : Exc → Prop) (h : sp_turns_to ds Q R) : wpF Γ f_turns_to ds Q R := by
  obtain ⟨d, o, ss, rfl, hl, q⟩ := h
  simp! only [wpF_eq, f_turns_to, startE, List.map_cons, List.map_nil, hm]
  refine forIL (fun pre suf e => ∃ (o : Bool) (u3 : Option D), e = [some (.int (lastD d pre)), some (.lst o (IL ss)), some (.lst true (IL (tto d pre))), u3]) ⟨_, _, rfl⟩ ?_ ?_
  · rintro e ⟨o, u3, rfl⟩
    simp! only [hm]
    exact q
  · rintro pre x suf e k bk hp ⟨o, u3, rfl⟩ hk _
    have hn := congrArg List.length hp
    simp only [List.length_append, List.length_cons] at hn
    have := tto_len pre d
    have l1 : (tto d pre).length < sizeLine := line60 (by omega)
    have nx : k [some (.int (lastD d (pre ++ [x]))), some (.lst o (IL ss)), some (.lst true (IL (tto d (pre ++ [x])))), some (.int x)] := hk _ ⟨_, _, rfl⟩
    rw [lastD_snoc, tto_snoc] at nx
    simp! only [f_turns_to_b2, hm]
    by_cases c : x = lastD d pre
    · rw [if_pos c, List.append_nil] at nx
      rw [if_pos c]
      exact nx
    · rw [if_neg c] at nx
      rw [if_neg c]
      simp! only [f_turns_to_b1, IL_app, l1, hm]
      exact nx
def sp_length_of : FSpec := fun ds Q _ => ∃ o ts, ds = [.lst o (IL ts)] ∧ ts.length ≤ 60 ∧ Q (.int (wayT ts)) []
theorem w_length_of {Γ : Sig} (hm : Γ.me = []) (ds : List D) (Q : D → List D → Prop) (R : Exc → Prop) (h : sp_length_of ds Q R) : wpF Γ f_length_of ds Q R := by
  obtain ⟨o, ts, rfl, hl, q⟩ := h
  simp! only [wpF_eq, f_length_of, startE, List.map_cons, List.map_nil, hm]
  refine lcILa (fun e => e = _) (fun t => .int (if t < 0 then -t else t)) rfl ?_ ?_
  · rintro t ht acc e k rfl hla hk
    have h6 : acc.length < sizeLine := line60 (by omega)
    simp! only [lcStep, hm]
    exact ⟨h6, hk _ rfl⟩
  · rintro e rfl
    rw [show ts.map (fun t => D.int (if t < 0 then -t else t)) = IL (ts.map fun t => if t < 0 then -t else t) by unfold IL; rw [List.map_map]; rfl]
    simp! only [hm]
    exact ⟨_, ints_map _, q⟩
theorem w_llength {Γ : Sig} (hm : Γ.me = []) (ds : List D) (Q : D → List D → Prop) (R : Exc → Prop) (h : sp_length_of ds Q R) : wpF Γ f__law_length ds Q R := by
  obtain ⟨o, ts, rfl, hl, q⟩ := h
  simp! only [wpF_eq, f__law_length, startE, List.map_cons, List.map_nil, hm]
  refine lcILa (fun e => e = _) (fun t => .int (if t < 0 then -t else t)) rfl ?_ ?_
  · rintro t ht acc e k rfl hla hk
    have h6 : acc.length < sizeLine := line60 (by omega)
    simp! only [lcStep, hm]
    exact ⟨h6, hk _ rfl⟩
  · rintro e rfl
    rw [show ts.map (fun t => D.int (if t < 0 then -t else t)) = IL (ts.map fun t => if t < 0 then -t else t) by unfold IL; rw [List.map_map]; rfl]
    simp! only [hm]
    exact ⟨_, ints_map _, q⟩
def sp_tank : FSpec := fun ds Q _ => ∃ o ns at', ds = [.lst o (IL ns), .int at'] ∧ 0 ≤ at' ∧ at' < 2 ^ 40 ∧ ∀ y, Coil 0 y → Q y []
theorem w_tank {Γ : Sig} (hm : Γ.me = []) (ds : List D) (Q : D → List D → Prop) (R : Exc → Prop) (h : sp_tank ds Q R) : wpF Γ f__law_tank ds Q R := by
  obtain ⟨o, ns, i, rfl, h0, h1, q⟩ := h
  simp! only [wpF_eq, f__law_tank, startE, List.map_cons, List.map_nil, hm]
  have main : ∀ c : Int, Q (.lst true [.int (if (if c < 0 then -c else c) - 1000000000000000000 > 0 then (if c < 0 then -c else c) - 1000000000000000000 else 0), .int (c % 1000000000000000003 + 104729 * (i + 1)), .int 0]) [] := fun c => by
    have e1 := Int.emod_nonneg c (b := 1000000000000000003) (by decide)
    have e2 := Int.emod_lt_of_pos c (b := 1000000000000000003) (by decide)
    exact q _ ⟨_, _, _, rfl, by split <;> omega, by omega, by omega, by decide, by decide⟩
  split
  · obtain ⟨c, hc, _⟩ := atI_ex (xs := ns) h0 (by assumption)
    refine ⟨_, IL_at hc, ?_⟩
    simp! only [hm]
    exact ⟨pow_by 4 (by decide) (by decide) (by decide) (by decide), mul_by 17 41 (by decide) (by omega) (by decide) (by decide) (by decide), main c⟩
  · exact ⟨pow_by 4 (by decide) (by decide) (by decide) (by decide), mul_by 17 41 (by decide) (by omega) (by decide) (by decide) (by decide), main 0⟩
theorem w_tap {Γ : Sig} (hm : Γ.me = [0]) (ds : List D) (Q : D → List D → Prop) (R : Exc → Prop) (h : sp_cdraw ds Q R) : wpF Γ f__law_tap ds Q R := by
  obtain ⟨b, x, w, rfl, ⟨d, m, n, rfl, h1, h2, h3, h4, h5⟩, hb, hw, hw2, q⟩ := h
  have w9 : w < 2 ^ 300 := by omega
  simp! only [wpF_eq, f__law_tap, f__law_tap_b1, startE, List.map_cons, List.map_nil, hm]
  by_cases hd : 0 < d
  · rw [if_pos hd]
    refine ⟨hw, div_by hw w9, q _ _ (Int.emod_nonneg _ (by omega)) (Int.emod_lt_of_pos _ hw) ⟨_, _, _, rfl, Int.ediv_nonneg h1 (by omega), h2, h3, h4, by omega⟩⟩
  · rw [if_neg hd]
    have e1 := Int.emod_nonneg ((m + 350377 * (n + 1)) ^ 3) (b := 170141183460469231731687303715884105727) (by decide)
    have e2 := Int.emod_lt_of_pos ((m + 350377 * (n + 1)) ^ 3) (b := 170141183460469231731687303715884105727) (by decide)
    generalize hy : (m + 350377 * (n + 1)) ^ 3 % 170141183460469231731687303715884105727 = y at e1 e2
    refine ⟨mul_by 61 61 (by decide) (by omega) (by decide) (by decide) (by decide), pow_by 129 (by decide) (by omega) (by decide) (by decide), mul_by 61 61 (by decide) (by omega) (by decide) (by decide) (by decide), pow_by 160 (by decide) (by omega) (by decide) (by decide), pow_by 4 (by decide) (by decide) (by decide) (by decide), div_by (by decide) (by decide), hw, ?_⟩
    exact q _ _ (Int.emod_nonneg _ (by omega)) (Int.emod_lt_of_pos _ hw) ⟨_, _, _, rfl, h1, h2, h3, by omega, by omega⟩
def sp_boxT : FSpec := fun ds Q _ => ∃ b x w top, ds = [x, .int w, .int top] ∧ Coil b x ∧ b ≤ 10 ^ 11 ∧ 1 ≤ w ∧ w ≤ 8 ∧ 1 ≤ top ∧ top ≤ 10 ^ 36 ∧ ∀ r qs y, LockOk r qs → (∀ p ∈ qs, p ≤ 3 * r + 10 ^ 9) → r ≤ top + 1 → (qs.length : Int) ≤ w → Coil (b + 60) y → Q (.tup [.int r, .lst true (IL qs)]) [y]
theorem w_boxT {Γ : Sig} (hm : Γ.me = [0]) (H1 : Has Γ "_law_tap" [true] sp_cdraw) (ds : List D) (Q : D → List D → Prop) (R : Exc → Prop) (h : sp_boxT ds Q R) : wpF Γ f__law_box_1 ds Q R := by
  obtain ⟨b, x, w, top, rfl, hx, hb, hw, hw2, ht0, ht, q⟩ := h
  simp! only [wpF_eq, f__law_box_1, startE, List.map_cons, List.map_nil, hm, H1.sp, H1.io]
  refine ⟨_, _, _, rfl, hx, by omega, by omega, by omega, fun r1 x1 r10 r11 k1 => ⟨rfl, ?_⟩⟩
  simp! only [hm, H1.sp, H1.io]
  refine ⟨_, _, _, rfl, k1, by omega, by omega, by omega, fun r2 x2 r20 r21 k2 => ⟨rfl, ?_⟩⟩
  simp! only [hm, H1.sp, H1.io]
  refine ⟨by omega, by omega, ?_⟩
  obtain ⟨r, hr⟩ : ∃ r, r = 2 + r1 := ⟨_, rfl⟩
  rw [← hr]
  refine forRg (fun i e => ∃ (x : D) (g : List Int) (u v : Option D), e = [some x, some (.int w), some (.int top), some (.int r), some (.lst true (IL g)), u, v] ∧ g.length = i ∧ (∀ p ∈ g, 0 ≤ p ∧ p ≤ 3 * r + 10 ^ 9) ∧ Coil (b + 2 + 4 * i) x) ⟨x2, [], none, none, rfl, rfl, by simp, k2.mono (by omega)⟩ ?_ ?_
  · rintro e ⟨x, g, u, v, rfl, h1, h2, h3⟩
    simp! only [hm, H1.sp, H1.io]
    exact q _ _ _ ⟨by omega, by omega, by omega, fun p hp => (h2 p hp).1⟩ (fun p hp => (h2 p hp).2) (by omega) (by omega) (h3.mono (by omega))
  · rintro i e k bk hi ⟨x, g, u, v, rfl, h1, h2, h3⟩ hk _
    have hd10 : 0 ≤ r / 10 ∧ r / 10 ≤ r - 1 := by omega
    simp! only [f__law_box_1_b1, hm, H1.sp, H1.io]
    refine ⟨_, _, _, rfl, h3, by omega, by omega, by omega, fun s1 y1 s10 s11 j1 => ⟨rfl, ?_⟩⟩
    simp! only [hm, H1.sp, H1.io]
    refine ⟨mul_by 2 130 (by decide) (by omega) (by decide) (by decide) (by decide), _, _, _, rfl, j1, by omega, by omega, by omega, fun s2 y2 s20 s21 j2 => ⟨rfl, ?_⟩⟩
    simp! only [hm, H1.sp, H1.io]
    refine ⟨div_by (by decide) (by decide), ?_⟩
    have fin : ∀ (z : Int) (y : D), 0 ≤ z → z ≤ 10 ^ 9 → Coil (b + 2 + 4 * i + 3) y → ∀ s3 y3, 0 ≤ s3 → s3 < 8 → Coil (b + 2 + 4 * i + 4) y3 → ∃ el, L2.atI [D.int 0, D.int 1, D.int (r - 1), D.int r, D.int s1, D.int s2, D.int (r - 1 - r / 10), D.int z] s3 = some el ∧ g.length < sizeLine ∧ ∃ v' : Int, el = .int v' ∧ 0 ≤ v' ∧ v' ≤ 3 * r + 10 ^ 9 := fun z y z0 z1 hy s3 y3 s30 s31 hy3 => at_any (P := fun el => ∃ v' : Int, el = .int v' ∧ 0 ≤ v' ∧ v' ≤ 3 * r + 10 ^ 9) s30 (by simpa using s31) (by simp only [List.forall_mem_cons, D.int.injEq, exists_eq_left', List.not_mem_nil, false_implies, implies_true, and_true]; omega) fun v hv => ⟨line60 (by omega), hv⟩
    have nx : ∀ (v' : Int) (y3 : D) (u v : Option D), 0 ≤ v' → v' ≤ 3 * r + 10 ^ 9 → Coil (b + 2 + 4 * i + 4) y3 → k [some y3, some (.int w), some (.int top), some (.int r), some (.lst true (IL (g ++ [v']))), u, v] := fun v' y3 u v h0 h1' hy => hk _ ⟨y3, _, u, v, rfl, by simp [h1], fun p hp => by
      rcases List.mem_append.mp hp with hp | hp
      · exact h2 p hp
      · rw [List.mem_singleton.mp hp]; exact ⟨h0, h1'⟩, hy.mono (by push_cast; omega)⟩
    split
    · refine ⟨pow_by 4 (by decide) (by decide) (by decide) (by decide), _, _, _, rfl, j2, by omega, by omega, by omega, fun s4 y4 s40 s41 j4 => ⟨rfl, ?_⟩⟩
      simp! only [hm, H1.sp, H1.io]
      refine ⟨_, _, _, rfl, j4, by omega, by omega, by omega, fun s3 y3 s30 s31 j3 => ⟨rfl, ?_⟩⟩
      simp! only [hm, H1.sp, H1.io]
      obtain ⟨el, e1, e2, v', rfl, e3, e4⟩ := fin s4 y4 s40 (by omega) (j4.mono (by omega)) s3 y3 s30 (by omega) (j3.mono (by omega))
      refine ⟨_, e1, ?_⟩
      simp! only [IL_app, hm, H1.sp, H1.io]
      exact ⟨e2, nx _ _ _ _ e3 e4 (j3.mono (by omega))⟩
    · simp! only [hm, H1.sp, H1.io]
      refine ⟨_, _, _, rfl, j2, by omega, by omega, by omega, fun s3 y3 s30 s31 j3 => ⟨rfl, ?_⟩⟩
      simp! only [hm, H1.sp, H1.io]
      obtain ⟨el, e1, e2, v', rfl, e3, e4⟩ := fin 1 y2 (by omega) (by omega) (j2.mono (by omega)) s3 y3 s30 (by omega) (j3.mono (by omega))
      refine ⟨_, e1, ?_⟩
      simp! only [IL_app, hm, H1.sp, H1.io]
      exact ⟨e2, nx _ _ _ _ e3 e4 (j3.mono (by omega))⟩
theorem w_pose {Γ : Sig} (hm : Γ.me = [0]) (H1 : Has Γ "_law_tap" [true] sp_cdraw) (ds : List D) (Q : D → List D → Prop) (R : Exc → Prop) (h : sp_past ds Q R) : wpF Γ f__law_pose ds Q R := by
  obtain ⟨b, x, r, qs, d, rfl, hx, hb, h8, hq, q⟩ := h
  simp! only [wpF_eq, LockD, f__law_pose, startE, List.map_cons, List.map_nil, hm, H1.sp, H1.io]
  refine ⟨_, _, _, rfl, hx, by omega, (by first | decide | omega), (by first | decide | omega | exact lt_wide (by omega)), fun r1 x1 r10 r11 k1 => ⟨rfl, ?_⟩⟩
  simp! only [hm, H1.sp, H1.io]
  refine forIL (fun pre suf e => ∃ (x : D) (ps : List Int) (u6 u7 : Option D), e = [some x, some (.tup [.int r, .lst false (IL qs)]), some (.int d), some (.lst true (IL ps)), some (.int (lastD d ps)), some (.int r1), u6, u7] ∧ Chain d pre ps ∧ Coil (b + 1 + 2 * pre.length) x) ⟨x1, [], none, none, rfl, trivial, by simpa using k1⟩ ?_ ?_
  · rintro e ⟨x, ps, u6, u7, rfl, h1, h2⟩
    simp! only [hm, H1.sp, H1.io]
    exact q _ _ h1 (h2.mono (by omega))
  · rintro pre p suf e k bk hp ⟨x, ps, u6, u7, rfl, h1, h2⟩ hk _
    have hpm := hq p (by rw [← hp]; simp)
    have hn := congrArg List.length hp
    simp only [List.length_append, List.length_cons] at hn
    have hl := h1.len
    simp! only [f__law_pose_b1, hm, H1.sp, H1.io]
    refine ⟨_, _, _, rfl, h2, by omega, by omega, by omega, fun s1 y1 s10 s11 j1 => ⟨rfl, ?_⟩⟩
    have nx : ∀ (z : Int) (y : D) (u6 u7 : Option D), 0 ≤ z → z ≤ p → Coil (b + 1 + 2 * pre.length + 2) y → k [some y, some (.tup [.int r, .lst false (IL qs)]), some (.int d), some (.lst true (IL (ps ++ [lastD d ps - z]))), some (.int (lastD d ps - z)), some (.int r1), u6, u7] := fun z y u6 u7 z0 z1 hy => hk _ ⟨y, ps ++ [lastD d ps - z], u6, u7, by rw [lastD_snoc], h1.snoc (by omega) (by omega), hy.mono (by simp; omega)⟩
    have h6 : ps.length < sizeLine := line60 (by omega)
    simp! only [hm, H1.sp, H1.io]
    split
    · refine at_int (lo := 0) (hi := p) r10 (by simpa using ‹r1 < 3›) (by simp only [List.forall_mem_cons, D.int.injEq, exists_eq_left', List.not_mem_nil, false_implies, implies_true, and_true]; omega) fun z z0 z1 => ?_
      simp! only [IL_app, hm, H1.sp, H1.io]
      exact ⟨h6, nx z _ _ _ z0 z1 (j1.mono (by omega))⟩
    · refine ⟨_, _, _, rfl, j1, by omega, by omega, by omega, fun s2 y2 s20 s21 j2 => ⟨rfl, ?_⟩⟩
      simp! only [hm, H1.sp, H1.io]
      refine at_int (lo := 0) (hi := p) s20 (by simpa using s21) (by simp only [List.forall_mem_cons, D.int.injEq, exists_eq_left', List.not_mem_nil, false_implies, implies_true, and_true]; omega) fun z z0 z1 => ?_
      simp! only [IL_app, hm, H1.sp, H1.io]
      exact ⟨h6, nx z _ _ _ z0 z1 (j2.mono (by omega))⟩
theorem w_lsums {Γ : Sig} (hm : Γ.me = []) (ds : List D) (Q : D → List D → Prop) (R : Exc → Prop) (h : sp_lreaches ds Q R) : wpF Γ f__law_sums ds Q R := by
  obtain ⟨r, qs, rfl, h8, q⟩ := h
  simp! only [wpF_eq, LockD, f__law_sums, startE, List.map_cons, List.map_nil, hm]
  refine forIL (fun pre suf e => ∃ u3, e = [some (.tup [.int r, .lst false (IL qs)]), some (.lst true (IL (sumsS 0 pre))), some (.int pre.sum), u3]) ⟨none, rfl⟩ ?_ ?_
  · rintro e ⟨u3, rfl⟩
    simp! only [hm]
    exact q
  · rintro pre p suf e k bk hp ⟨u3, rfl⟩ hk _
    have hn := congrArg List.length hp
    simp only [List.length_append, List.length_cons] at hn
    have h6 : (sumsS 0 pre).length < sizeLine := line60 (by rw [sumsS_len]; omega)
    have nx := hk [some (.tup [.int r, .lst false (IL qs)]), some (.lst true (IL (sumsS 0 (pre ++ [p])))), some (.int (pre ++ [p]).sum), some (.int p)] ⟨_, rfl⟩
    rw [sumsS_snoc, List.sum_append, Int.zero_add] at nx
    simp only [List.sum_cons, List.sum_nil, Int.add_zero] at nx
    simp! only [f__law_sums_b1, IL_app, hm]
    exact ⟨h6, nx⟩
def sp_are_turnsV : FSpec := fun ds Q _ => ∃ o ts, ds = [.lst o (IL ts)] ∧ Turns ts ∧ Q (.bl true) []
theorem w_are_turnsV {Γ : Sig} (hm : Γ.me = []) (ds : List D) (Q : D → List D → Prop) (R : Exc → Prop) (h : sp_are_turnsV ds Q R) : wpF Γ f__law_are_turns ds Q R := by
  obtain ⟨o, ts, rfl, ⟨h1, h2⟩, q⟩ := h
  simp! only [wpF_eq, f__law_are_turns, startE, List.map_cons, List.map_nil, hm]
  rw [if_neg (by omega)]
  refine lcIL (fun e => e = _) (fun _ => false) D.int rfl ?_ ?_
  · rintro t ht acc e k rfl hla hk
    have hk2 := hk _ rfl
    rw [if_neg (by decide)] at hk2
    have := h2 t ht
    simp! only [lcStep, this, hm]
    exact hk2
  · rintro e rfl
    rw [List.filter_eq_nil_iff.mpr (by simp)]
    exact q
def wayS : Int → List Int → Int
  | _, [] => 0
  | d, s :: ss => (if s - d < 0 then -(s - d) else s - d) + wayS s ss
theorem wayS_tto : ∀ (ss : List Int) (d : Int), wayS d ss = wayT (tto d ss)
  | [], _ => rfl
  | s :: ss, d => by
    have ih := wayS_tto ss s
    by_cases c : s = d
    · subst c
      simp only [wayS, tto, ih, if_true, Int.sub_self]
      simp
    · simp only [wayS, tto, ih, if_neg c]
      unfold wayT; simp
theorem chain_at0 : ∀ {qs ps : List Int} {d a : Int} {j : Nat}, Chain d qs ps → (∀ q ∈ qs, 0 ≤ q) → j < qs.length → ps.getD j 0 ≤ d ∧ d - ps.getD j 0 ≤ (sumsS a qs).getD j 0 - a
  | [], _, _, _, _, _, _, hj => (Nat.not_lt_zero _ hj).elim
  | _ :: _, [], _, _, _, h, _, _ => h.elim
  | q :: qs, p :: ps, d, a, 0, h, _, _ => by
    simp only [sumsS, List.getD_cons_zero]
    have := h.1; have := h.2.1
    omega
  | q :: qs, p :: ps, d, a, j + 1, h, hq, hj => by
    have ih := chain_at0 (a := a + q) (j := j) h.2.2 (fun z hz => hq z (List.mem_cons_of_mem _ hz)) (by simpa using hj)
    simp only [sumsS, List.getD_cons_succ]
    have := h.1; have := h.2.1
    omega
theorem chain_ix : ∀ {qs ps : List Int} {d a : Int} {i j : Nat}, Chain d qs ps → (∀ q ∈ qs, 0 ≤ q) → i < j → j < qs.length → ps.getD j 0 ≤ ps.getD i 0 ∧ ps.getD i 0 - ps.getD j 0 ≤ (sumsS a qs).getD j 0 - (sumsS a qs).getD i 0
  | [], _, _, _, _, _, _, _, _, hj => (Nat.not_lt_zero _ hj).elim
  | _ :: _, [], _, _, _, _, h, _, _, _ => h.elim
  | _ :: _, _ :: _, _, _, _, 0, _, _, hi, _ => (Nat.not_lt_zero _ hi).elim
  | q :: qs, p :: ps, d, a, 0, j + 1, h, hq, _, hj => by
    have := chain_at0 (a := a + q) (j := j) h.2.2 (fun z hz => hq z (List.mem_cons_of_mem _ hz)) (by simpa using hj)
    simp only [sumsS, List.getD_cons_succ, List.getD_cons_zero]
    omega
  | q :: qs, p :: ps, d, a, i + 1, j + 1, h, hq, hi, hj => by
    have := chain_ix (a := a + q) (i := i) (j := j) h.2.2 (fun z hz => hq z (List.mem_cons_of_mem _ hz)) (by omega) (by simpa using hj)
    simpa only [sumsS, List.getD_cons_succ] using this
def atS (rs : List Int) : List Int → List Int → List Int
  | [], ps => ps
  | s :: ss, ps => atS rs ss (heldL s ps rs)
theorem walk_tto {qs : List Int} (hq : ∀ q ∈ qs, 0 ≤ q) : ∀ (ss : List Int) {ps : List Int} {d : Int}, Chain d qs ps → walkL (sumsS 0 qs) (tto d ss) ps d = atS (sumsS 0 qs) ss ps ∧ d + (tto d ss).sum = lastD d ss
  | [], ps, d, h => by simp [tto, walkL, atS, lastD]
  | s :: ss, ps, d, h => by
    have ih := walk_tto hq ss (chain_turn (d2 := s) h hq)
    by_cases c : s = d
    · subst c
      have e := held_same hq h
      rw [e] at ih
      simp only [tto, if_true, atS, lastD, e]
      exact ih
    · simp only [tto, if_neg c, walkL, List.sum_cons, atS, lastD]
      rw [show d + (s - d) = s by omega]
      exact ⟨ih.1, by have := ih.2; omega⟩
theorem getD_mul (m : Int) (xs : List Int) (k : Nat) : (xs.map (· * m)).getD k 0 = xs.getD k 0 * m := by
  simp only [List.getD_eq_getElem?_getD, List.getElem?_map]
  cases xs[k]? <;> simp
theorem chain_mul {m : Int} (h : 0 ≤ m) : ∀ {qs ps : List Int} {d : Int}, Chain d qs ps → Chain (d * m) (qs.map (· * m)) (ps.map (· * m))
  | [], [], _, _ => trivial
  | [], _ :: _, _, h1 => h1.elim
  | _ :: _, [], _, h1 => h1.elim
  | q :: qs, p :: ps, d, h1 => ⟨by rw [← Int.sub_mul]; exact Int.mul_nonneg h1.1 h, by rw [← Int.sub_mul]; exact Int.mul_le_mul_of_nonneg_right h1.2.1 h, chain_mul h h1.2.2⟩
theorem w_lbehind2 {Γ : Sig} (hm : Γ.me = []) (ds : List D) (Q : D → List D → Prop) (R : Exc → Prop) (h : sp_lbehind ds Q R) : wpF Γ f__law_behind_2 ds Q R := by
  obtain ⟨r, qs, d, ps, o, ts, rfl, hl, hq0, hc, ht, q⟩ := h
  simp! only [wpF_eq, LockD, StateD, f__law_behind_2, startE, List.map_cons, List.map_nil, listIL, hm]
  refine forIL (fun pre suf e => ∃ (u5 u6 u7 u8 u9 : Option D), e = [some (.tup [.int r, .lst false (IL qs)]), some (.tup [.int d, .lst false (IL ps)]), some (.lst false (IL ts)), some (.int (d + pre.sum)), some (.lst true (IL (walkL (sumsS 0 qs) pre ps d))), u5, u6, u7, u8, u9]) ⟨none, none, none, none, none, by simp [walkL]⟩ ?_ ?_
  · rintro e ⟨u5, u6, u7, u8, u9, rfl⟩
    simp! only [hm]
    exact q true
  · rintro pre t suf e k bk hp ⟨u5, u6, u7, u8, u9, rfl⟩ hk _
    have hcp := chain_walk hq0 pre ps d hc
    have hpl := hcp.len
    have nx : ∀ u6 u7 u8 u9 : Option D, k [some (.tup [.int r, .lst false (IL qs)]), some (.tup [.int d, .lst false (IL ps)]), some (.lst false (IL ts)), some (.int (d + pre.sum + t)), some (.lst true (IL (heldL (d + pre.sum + t) (walkL (sumsS 0 qs) pre ps d) (sumsS 0 qs)))), some (.int t), u6, u7, u8, u9] := fun u6 u7 u8 u9 => by
      refine hk _ ⟨some (.int t), u6, u7, u8, u9, ?_⟩
      rw [walkL_app, List.sum_append]
      simp only [walkL, List.sum_cons, List.sum_nil, Int.add_zero, Int.add_assoc]
    simp! only [f__law_behind_2_b2, enIL, hm]
    generalize hw : walkL (sumsS 0 qs) pre ps d = ws at *
    have ht0 : turnL t (d + pre.sum + t) qs ws = heldL (d + pre.sum + t) ws (sumsS 0 qs) := turn_eq qs ws (d + pre.sum) (d + pre.sum + t) 0 hcp (by unfold heldP; omega) (by omega) (by omega) (by omega) hq0
    refine forN _ (fun i e => ∃ (l1 l2 g : List Int) (a : Int) (u7 u8 u9 : Option D), qs.drop i = l1 ∧ l1.length = l2.length ∧ g.length = i ∧ g ++ turnL t a l1 l2 = heldL (d + pre.sum + t) ws (sumsS 0 qs) ∧
      e = [some (.tup [.int r, .lst false (IL qs)]), some (.tup [.int d, .lst false (IL ps)]), some (.lst false (IL ts)), some (.int (d + pre.sum + t)), some (.lst true (IL (g ++ l2))), some (.int t), some (.int a), u7, u8, u9])
      ⟨qs, ws, [], d + pre.sum + t, u7, u8, u9, rfl, hpl.symm, rfl, ht0, rfl⟩ ?_ ?_
    · rintro e ⟨l1, l2, g, a, u7, u8, u9, hd, hll, hgl, hg, rfl⟩
      have e1 : l1 = [] := by rw [← hd]; simp
      subst e1
      have e2 : l2 = [] := by cases l2 with
        | nil => rfl
        | cons _ _ => simp at hll
      subst e2
      simp only [turnL, List.append_nil] at hg
      rw [List.append_nil, hg]
      exact nx _ _ _ _
    · rintro i e k2 bk2 hi ⟨l1, l2, g, a, u7, u8, u9, hd, hll, hgl, hg, rfl⟩ hk2 _
      cases l1 with
      | nil =>
        have := congrArg List.length hd
        simp at this
        omega
      | cons q1 l1 =>
        cases l2 with
        | nil => simp at hll
        | cons p1 l2 =>
          have hqi : qs.getD i 0 = q1 := by
            have := congrArg (fun l : List Int => l.getD 0 0) hd
            simpa [List.getD] using this
          have hd2 : qs.drop (i + 1) = l1 := by rw [← List.drop_drop, hd]; rfl
          simp only [List.length_cons] at hll
          simp only [turnL] at hg
          have a1 : L2.atI (IL (g ++ p1 :: l2)) (i : Nat) = some (.int p1) := IL_at (atI_mid (by omega))
          have ix : L2.ixN (g ++ p1 :: l2).length (i : Nat) = some i := by
            unfold L2.ixN
            rw [if_pos (by omega), if_pos (by simp; omega), Int.toNat_natCast]
          have st : ∀ z : Int, (IL (g ++ p1 :: l2)).set i (.int z) = IL ((g ++ [z]) ++ l2) := fun z => by
            unfold IL
            rw [show D.int z = D.int z from rfl, ← List.map_set, ← hgl, set_mid, List.append_assoc]
            rfl
          have fin : ∀ z, z = (if t > 0 then max p1 (a - q1) else min p1 a) → k2 [some (.tup [.int r, .lst false (IL qs)]), some (.tup [.int d, .lst false (IL ps)]), some (.lst false (IL ts)), some (.int (d + pre.sum + t)), some (.lst true ((IL (g ++ p1 :: l2)).set i (.int z))), some (.int t), some (.int z), some (.int (i : Nat)), some (.int q1), some (.int z)] := fun z hz => by
            rw [st]
            refine hk2 _ ⟨l1, l2, g ++ [z], z, _, _, _, hd2, by omega, by simp [hgl], ?_, rfl⟩
            rw [List.append_assoc, hz]
            exact hg
          simp! only [f__law_behind_2_b1, hqi, a1, hm]
          by_cases c : 0 < t
          · simp only [if_pos c]
            simp! only [ix, hm]
            exact fin _ (by rw [if_pos c]; split <;> omega)
          · simp only [if_neg c]
            simp! only [ix, hm]
            exact fin _ (by rw [if_neg c]; split <;> omega)
theorem tto_bd {B : Nat} : ∀ (ss : List Int) (d : Int), (∀ s ∈ ss, s.natAbs ≤ B) → d.natAbs ≤ B → ∀ t ∈ tto d ss, t.natAbs ≤ 2 * B
  | [], _, _, _, t, h => by cases h
  | s :: ss, d, h1, h2, t, h => by
    have hs := h1 s List.mem_cons_self
    have ih := tto_bd ss s (fun z hz => h1 z (List.mem_cons_of_mem _ hz)) hs t
    simp only [tto] at h
    by_cases c : s = d
    · rw [if_pos c] at h; exact ih h
    · rw [if_neg c] at h
      rcases List.mem_cons.mp h with h | h
      · rw [h]; omega
      · exact ih h
theorem getD_in {xs : List Int} {j : Nat} (h : j < xs.length) : xs.getD j 0 ∈ xs := by
  rw [List.getD_eq_getElem?_getD, List.getElem?_eq_getElem h]
  exact List.getElem_mem _
theorem il_eq {xs ys : List Int} {o p : Bool} {Q : Bool → Prop} (q : Q (decide (xs = ys))) : cmpD .eq (.lst o (IL xs)) (.lst p (IL ys)) Q := by
  refine ceq_num (IL_plain xs 63) (IL_plain ys 63) (by simp only [noB]; exact noB_IL xs) (by simp only [noB]; exact noB_IL ys) fun b hb => ?_
  have e : b = decide (xs = ys) := by
    rw [Bool.eq_iff_iff, hb, decide_eq_true_eq]
    simp only [D.fz, D.lst.injEq, true_and, IL_fz, IL_inj]
  rw [e]; exact q
/-- a wheel's place behind stops -/
def hw (r : Int) : List Int → Int → Int
  | [], p => p
  | s :: ss, p => hw r ss (heldP p s r)
theorem plainL_mem {k : Nat} : ∀ {xs : List D} {x : D}, plainL k xs = true → x ∈ xs → plainD k x = true
  | y :: ys, x, h, hm => by
    have h2 : plainD k y = true ∧ plainL k ys = true := by cases k <;> simpa [plainL] using h
    rcases List.mem_cons.mp hm with rfl | hm
    · exact h2.1
    · exact plainL_mem h2.2 hm
theorem TmL.snoc {k m n : Nat} {d : D} (h2 : Tm k n d) : ∀ {xs : List D} {m : Nat}, TmL k m xs → TmL k (m + n) (xs ++ [d])
  | [], m, _ => (TmL.cons h2 TmL.nil).mono (by omega)
  | x :: xs, m, h => by
    have a : Tm k (szN x) x := ⟨h.1.1, plainL_mem h.2.1 List.mem_cons_self, Nat.le_refl _⟩
    have b : TmL k (szL xs) xs := ⟨h.1.2, by have := h.2.1; cases k <;> (simp only [plainL, Bool.and_eq_true] at this; exact this.2), Nat.le_refl _⟩
    have c : szN x + szL xs ≤ m := by have := h.2.2; simpa only [szL] using this
    exact (TmL.cons a (TmL.snoc (m := 0) h2 b)).mono (by omega)
theorem fzL_mem {w : D} : ∀ {xs : List D}, w ∈ fzL xs → ∃ u ∈ xs, w = u.fz
  | x :: xs, h => by
    rw [fzL] at h
    rcases List.mem_cons.mp h with rfl | h
    · exact ⟨x, List.mem_cons_self, rfl⟩
    · obtain ⟨u, h1, h2⟩ := fzL_mem h
      exact ⟨u, List.mem_cons_of_mem _ h1, h2⟩
def Tx (k n : Nat) (d : D) : Prop := d.py.showable = true ∧ d.py.depth ≤ k ∧ d.py.shown.length + 8 ≤ 2000 * n
def TxL (k n : Nat) (ds : List D) : Prop := PySem.PyData.showableAll (pyL ds) = true ∧ PySem.PyData.depthAll (pyL ds) ≤ k ∧ PySem.piled (PySem.PyData.shownAll (pyL ds)) ≤ 2000 * n
theorem Tm.tx {k n : Nat} {d : D} (h : Tm k n d) : Tx k n d := ⟨(shown_le d h.1).1, (plain_lay d h.2.1).2, by have := (shown_le d h.1).2; have := h.2.2; omega⟩
theorem TmL.tx {k n : Nat} {ds : List D} (h : TmL k n ds) : TxL k n ds := ⟨(shownL_le ds h.1).1, (plainL_lay ds h.2.1).2, by have := (shownL_le ds h.1).2; have := h.2.2; omega⟩
theorem Tx.mono {k m n : Nat} {d : D} (h : Tx k m d) (l : m ≤ n) : Tx k n d := ⟨h.1, h.2.1, Nat.le_trans h.2.2 (by omega)⟩
theorem Tx.up {k m n : Nat} {d : D} (h : Tx k n d) (l : k ≤ m) : Tx m n d := ⟨h.1, Nat.le_trans h.2.1 l, h.2.2⟩
theorem TxL.mono {k m n : Nat} {d : List D} (h : TxL k m d) (l : m ≤ n) : TxL k n d := ⟨h.1, h.2.1, Nat.le_trans h.2.2 (by omega)⟩
theorem Tx.str {k : Nat} {s : Str} (h : (D.str s).py.shown.length ≤ 1992) : Tx k 1 (.str s) := ⟨rfl, Nat.zero_le _, by omega⟩
theorem Tx.dct {k : Nat} {o : Bool} : Tx (k + 1) 1 (.dct o [] []) := by
  refine ⟨rfl, ?_, ?_⟩
  · show PySem.PyData.depthKv [] + 1 ≤ k + 1
    simp only [PySem.PyData.depthKv]; omega
  · show (PySem.PyData.dict []).shown.length + 8 ≤ _
    decide +kernel
theorem Tx.lst {k n : Nat} {o : Bool} {xs : List D} (h : TxL k n xs) : Tx (k + 1) (n + 1) (.lst o xs) := by
  refine ⟨by simp only [D.py, PySem.PyData.showable, h.1], by simp only [D.py, PySem.PyData.depth]; have := h.2.1; omega, ?_⟩
  simp only [D.py, PySem.PyData.shown]
  have := listText_len (PySem.PyData.shownAll (pyL xs))
  have := h.2.2
  omega
theorem Tx.tup {k n : Nat} {xs : List D} (h : TxL k n xs) : Tx (k + 1) (n + 1) (.tup xs) := by
  refine ⟨by simp only [D.py, PySem.PyData.showable, h.1], by simp only [D.py, PySem.PyData.depth]; have := h.2.1; omega, ?_⟩
  simp only [D.py, PySem.PyData.shown]
  have := tupleText_len (PySem.PyData.shownAll (pyL xs))
  have := h.2.2
  omega
theorem TxL.nil {k : Nat} : TxL k 0 [] := ⟨rfl, Nat.zero_le _, Nat.le_refl _⟩
theorem TxL.cons {k m n : Nat} {d : D} {ds : List D} (h : Tx k m d) (h2 : TxL k n ds) : TxL k (m + n) (d :: ds) := by
  refine ⟨by simp only [pyL, PySem.PyData.showableAll, h.1, h2.1, Bool.and_self], by simp only [pyL, PySem.PyData.depthAll]; have := h.2.1; have := h2.2.1; omega, ?_⟩
  simp only [pyL, PySem.PyData.shownAll, PySem.piled_cons]
  have := h.2.2
  have := h2.2.2
  omega
theorem Tx.fz {k n : Nat} {d : D} (h : Tx k n d) : Tx k n d.fz := by unfold Tx; rw [py_fz]; exact h
/-- what may be asked -/
def Offy (v : D) : Prop := szD v ∧ ∀ o xs, v = .lst o xs → (∀ x ∈ xs, szD x) ∧ xs.length ≤ 140
def Ask (v : D) : Prop := Tx 60 160 v ∧ Offy v
theorem szD_fz {v : D} (h : szD v) : szD v.fz := by
  cases v <;> first | exact h | trivial
theorem Ask.fz {v : D} (h : Ask v) : Ask v.fz := by
  refine ⟨h.1.fz, szD_fz h.2.1, fun o xs e => ?_⟩
  cases v with
  | lst o2 ys =>
    rw [D.fz] at e
    injection e with _ e
    subst e
    obtain ⟨a, b⟩ := h.2.2 _ _ rfl
    refine ⟨fun x hx => ?_, by rw [fzL_length]; exact b⟩
    obtain ⟨u, hu, rfl⟩ := fzL_mem hx
    exact szD_fz (a u hu)
  | _ => cases e
def imp : Exc := ⟨"Impossible", [], []⟩
def It (y : D) : Prop := szD y ∧ y.py.canLay0 = true ∧ y.py.depth ≤ 20
/-- what may be asked whether it is a lock, a state -/
def Vl (v : D) : Prop := Tx 60 160 v ∧ szD v ∧ v.fz = v ∧ ∀ xs, v = .tup xs → ∀ x ∈ xs, szD x ∧ ∀ ys, x = .lst false ys → ys.length ≤ 100 ∧ ∀ y ∈ ys, It y
theorem TxL.all {k m : Nat} {ds : List D} (h : ∀ d ∈ ds, Tx k m d) : TxL k (ds.length * m) ds := by
  induction ds with
  | nil => rw [List.length_nil, Nat.zero_mul]; exact .nil
  | cons d ds ih =>
    refine (TxL.cons (h d List.mem_cons_self) (ih fun x hx => h x (List.mem_cons_of_mem _ hx))).mono ?_
    rw [List.length_cons, Nat.add_mul]; omega
def It2 (y : D) : Prop := It y ∧ Tx 50 2 y
def Pt (x : D) : Prop := Tx 59 150 x ∧ szD x ∧ x.fz = x ∧ ∀ ys, x = .lst false ys → ys.length ≤ 100 ∧ ∀ y ∈ ys, It y
def Pf (x : D) : Prop := Tx 59 2 x ∧ szD x ∧ x.fz = x ∧ flatD x = true
theorem It2.fz {y : D} (h : It2 y) : It2 y.fz := ⟨⟨szD_fz h.1.1, by rw [py_fz]; exact h.1.2.1, by rw [py_fz]; exact h.1.2.2⟩, h.2.fz⟩
theorem It2.int {i : Int} (h : i.natAbs ≤ 10 ^ 60) : It2 (.int i) := ⟨⟨trivial, rfl, Nat.zero_le _⟩, (Tm.int (Nat.le_trans h (Nat.pow_le_pow_right (by decide) (by decide)))).tx.mono (by omega)⟩
theorem It2.il {xs : List Int} (h : ∀ x ∈ xs, x.natAbs ≤ 10 ^ 60) : ∀ y ∈ IL xs, It2 y := fun y hy => by
  obtain ⟨z, hz, rfl⟩ := List.mem_map.mp hy
  exact .int (h z hz)
theorem Pf.int {i : Int} (h : i.natAbs ≤ 10 ^ 60) : Pf (.int i) := ⟨(Tm.int (Nat.le_trans h (Nat.pow_le_pow_right (by decide) (by decide)))).tx.mono (by omega), trivial, rfl, rfl⟩
theorem Pf.non : Pf .non := ⟨Tm.non.tx.mono (by omega), trivial, rfl, rfl⟩
theorem Pf.bl {b : Bool} : Pf (.bl b) := ⟨Tm.bl.tx.mono (by omega), trivial, rfl, rfl⟩
theorem Pt.lst {o : Bool} {ys : List D} (hl : ys.length ≤ 72) (h : ∀ y ∈ ys, It2 y) : Pt (D.fz (.lst o ys)) := by
  have h2 : ∀ y ∈ fzL ys, It2 y := fun y hy => by
    obtain ⟨u, hu, rfl⟩ := fzL_mem hy
    exact (h u hu).fz
  have l2 : (fzL ys).length ≤ 72 := by rw [fzL_length]; exact hl
  rw [D.fz]
  refine ⟨((Tx.lst (k := 50) (TxL.all fun y hy => (h2 y hy).2)).mono (by omega)).up (by omega), trivial, ?_, fun zs e => ?_⟩
  · have := fz_fz (.lst o ys)
    rw [D.fz] at this
    exact this
  · injection e with _ e
    subst e
    exact ⟨by omega, fun y hy => (h2 y hy).1⟩
theorem Pt.tup {xs : List Int} (hl : xs.length ≤ 72) (h : ∀ x ∈ xs, x.natAbs ≤ 10 ^ 60) : Pt (.tup (IL xs)) := by
  refine ⟨((Tx.tup (k := 50) (TxL.all fun y hy => (It2.il h y hy).2)).mono (by rw [IL_len]; omega)).up (by omega), trivial, by rw [D.fz, IL_fz], fun ys e => by cases e⟩
def Vls (n : Nat) (X : List D) : Prop := X.length ≤ n ∧ ∀ x ∈ X, Vl x.fz
theorem Vls.fz {n : Nat} {X : List D} (h : Vls n X) : Vls n (fzL X) := ⟨by rw [fzL_length]; exact h.1, fun x hx => by
  obtain ⟨u, hu, rfl⟩ := fzL_mem hx
  rw [fz_fz]; exact h.2 u hu⟩
/-- an offset of a wheel that leaves room for all wheels ahead -/
def RX (r t : Int) (qs gs : List Int) : Nat → Int → Prop
  | 0, x => -t ≤ x ∧ x ≤ t
  | i + 1, x => -t ≤ x ∧ x ≤ t ∧ ∃ y, RX r t qs gs i y ∧ (gs.getD i 0 + y - (gs.getD (i + 1) 0 + x)) % r ≤ qs.getD (i + 1) 0
theorem RX_in {r t : Int} {qs gs : List Int} : ∀ {i : Nat} {x : Int}, RX r t qs gs i x → -t ≤ x ∧ x ≤ t
  | 0, _, h => h
  | _ + 1, _, h => ⟨h.1, h.2.1⟩
def CanD (r t : Int) (qs gs : List Int) : Prop := ∀ i < gs.length, ∃ x, RX r t qs gs i x
theorem here_RX {r t : Int} {qs : List Int} (hr : 2 ≤ r) (t0 : 0 ≤ t) {d : Int} {ps gs : List Int} (hc : Chain d qs ps) (hl : gs.length = qs.length) (hm : ∀ i < gs.length, ∃ o, -t ≤ o ∧ o ≤ t ∧ gs.getD i 0 = (ps.getD i 0 + o) % r) : CanD r t qs gs := by
  have hq : ∀ {qs ps : List Int} {d : Int}, Chain d qs ps → ∀ i, i + 1 < qs.length → 0 ≤ ps.getD i 0 - ps.getD (i + 1) 0 ∧ ps.getD i 0 - ps.getD (i + 1) 0 ≤ qs.getD (i + 1) 0 := fun {qs} => by
    induction qs with
    | nil => intro ps d _ i hi; simp at hi
    | cons q qs ih =>
      intro ps d h i hi
      cases ps with
      | nil => exact h.elim
      | cons p ps =>
        obtain ⟨_, _, h3⟩ := h
        cases i with
        | succ i => exact ih h3 i (by simp at hi; omega)
        | zero =>
          cases qs with
          | nil => simp at hi
          | cons q2 qs =>
            cases ps with
            | nil => exact h3.elim
            | cons p2 ps => exact ⟨h3.1, h3.2.1⟩
  have key : ∀ i, i < gs.length → ∃ x, RX r t qs gs i x ∧ (gs.getD i 0 + x - ps.getD i 0) % r = 0 := fun i => by
    induction i with
    | zero =>
      intro hi
      obtain ⟨o, o1, o2, o3⟩ := hm 0 hi
      refine ⟨-o, ⟨by omega, by omega⟩, ?_⟩
      have d := Int.mul_ediv_add_emod (ps.getD 0 0 + o) r
      rw [o3, show (ps.getD 0 0 + o) % r + -o - ps.getD 0 0 = 0 + r * (-((ps.getD 0 0 + o) / r)) by rw [Int.mul_neg]; omega, Int.add_mul_emod_self_left, Int.zero_emod]
    | succ i ih =>
      intro hi
      obtain ⟨y, hy, hy2⟩ := ih (by omega)
      obtain ⟨o, o1, o2, o3⟩ := hm (i + 1) hi
      have hch := hq hc i (by omega)
      have d := Int.mul_ediv_add_emod (ps.getD (i + 1) 0 + o) r
      have d2 := Int.mul_ediv_add_emod (gs.getD i 0 + y - ps.getD i 0) r
      rw [hy2] at d2
      refine ⟨-o, ⟨by omega, by omega, y, hy, ?_⟩, ?_⟩
      · rw [o3, show gs.getD i 0 + y - ((ps.getD (i + 1) 0 + o) % r + -o) = (ps.getD i 0 - ps.getD (i + 1) 0) + r * ((gs.getD i 0 + y - ps.getD i 0) / r + (ps.getD (i + 1) 0 + o) / r) by rw [Int.mul_add]; omega, Int.add_mul_emod_self_left]
        have d3 := Int.mul_ediv_add_emod (ps.getD i 0 - ps.getD (i + 1) 0) r
        have := Int.mul_nonneg (show 0 ≤ r by omega) (Int.ediv_nonneg hch.1 (show 0 ≤ r by omega))
        omega
      · rw [o3, show (ps.getD (i + 1) 0 + o) % r + -o - ps.getD (i + 1) 0 = 0 + r * (-((ps.getD (i + 1) 0 + o) / r)) by rw [Int.mul_neg]; omega, Int.add_mul_emod_self_left, Int.zero_emod]
  intro i hi
  obtain ⟨x, hx, _⟩ := key i hi
  exact ⟨x, hx⟩
theorem chain_len2 : ∀ {qs ps : List Int} {d : Int}, Chain d qs ps → ps.length = qs.length
  | [], [], _, _ => rfl
  | _ :: _, _ :: _, _, h => by rw [List.length_cons, List.length_cons, chain_len2 h.2.2]
  | [], _ :: _, _, h => h.elim
  | _ :: _, [], _, h => h.elim
theorem intsD_ILq : ∀ xs : List Int, intsD (IL xs) = some xs
  | [] => rfl
  | x :: xs => by
    have := intsD_ILq xs
    unfold IL at this ⊢
    simp only [List.map_cons, intsD, this, Option.map_some]
def rA (qs : List Int) (i : Nat) : Int := (sumsS 0 qs).getD i 0
def gapF (r : Int) (gs : List Int) (i : Nat) : Int := (gs.getD i 0 - gs.getD (i + 1) 0) % r
def gapH (r : Int) (qs gs : List Int) (i : Nat) : Int := gapF r gs i + (qs.getD (i + 1) 0 - gapF r gs i) / r * r
def saF (r : Int) (qs gs : List Int) : Nat → Int → Bool → List Int
  | 0, _, _ => []
  | i + 1, p, true => if 0 < gapF r gs i then (p + gapF r gs i + rA qs i) :: saF r qs gs i (p + gapF r gs i) false else saF r qs gs i (p + gapF r gs i) true
  | i + 1, p, false => if gapH r qs gs i < qs.getD (i + 1) 0 then (p + gapH r qs gs i) :: saF r qs gs i (p + gapH r qs gs i) true else saF r qs gs i (p + gapH r qs gs i) false
/-- gates that can be dialed, wheel by wheel -/
def Dl (r : Int) (qs gs : List Int) : Prop := ∀ i, i + 1 < qs.length → gapF r gs i ≤ qs.getD (i + 1) 0
theorem rA_succ : ∀ {qs : List Int} {a : Int} {i : Nat}, i + 1 < qs.length → (sumsS a qs).getD (i + 1) 0 = (sumsS a qs).getD i 0 + qs.getD (i + 1) 0
  | q :: q2 :: qs, a, 0, _ => by simp [sumsS]
  | q :: qs, a, i + 1, h => by
    have := rA_succ (qs := qs) (a := a + q) (i := i) (by simpa using h)
    simpa [sumsS] using this
  | [], _, _, h => by simp at h
  | [_], _, 0, h => by simp at h
theorem rA_mono {qs : List Int} (hq : ∀ q ∈ qs, 0 ≤ q) {i j : Nat} (hij : i ≤ j) (hj : j < qs.length) : rA qs i ≤ rA qs j := by
  induction j with
  | zero => rw [show i = 0 by omega]; exact Int.le_refl _
  | succ j ih =>
    by_cases c : i = j + 1
    · rw [c]; exact Int.le_refl _
    · have := ih (by omega) (by omega)
      have e := rA_succ (qs := qs) (a := 0) hj
      have : 0 ≤ qs.getD (j + 1) 0 := by
        rw [List.getD_eq_getElem?_getD, List.getElem?_eq_getElem hj, Option.getD_some]
        exact hq _ (List.getElem_mem _)
      unfold rA at *
      omega
theorem rA_ge {qs : List Int} (hq : ∀ q ∈ qs, 0 ≤ q) {i : Nat} (hi : i < qs.length) : qs.getD i 0 ≤ rA qs i ∧ 0 ≤ rA qs i := by
  have h0 : 0 ≤ qs.getD i 0 := by
    rw [List.getD_eq_getElem?_getD, List.getElem?_eq_getElem hi, Option.getD_some]
    exact hq _ (List.getElem_mem _)
  cases i with
  | zero =>
    have : rA qs 0 = qs.getD 0 0 := by
      unfold rA
      cases qs with
      | nil => rfl
      | cons q qs => simp [sumsS]
    omega
  | succ i =>
    have e := rA_succ (qs := qs) (a := 0) hi
    have m := rA_mono hq (Nat.zero_le i) (by omega)
    have h00 : 0 ≤ rA qs 0 := by
      unfold rA
      cases qs with
      | nil => simp at hi
      | cons q qs => simp [sumsS]; exact hq q List.mem_cons_self
    unfold rA at *
    omega
theorem gapF_bd {r : Int} (hr : 0 < r) (gs : List Int) (i : Nat) : 0 ≤ gapF r gs i ∧ gapF r gs i < r := ⟨Int.emod_nonneg _ (by omega), Int.emod_lt_of_pos _ hr⟩
theorem gapH_bd {r : Int} {qs gs : List Int} {i : Nat} (hr : 0 < r) (h : gapF r gs i ≤ qs.getD (i + 1) 0) : gapF r gs i ≤ gapH r qs gs i ∧ gapH r qs gs i ≤ qs.getD (i + 1) 0 ∧ ∃ k, gapH r qs gs i = gapF r gs i + k * r := by
  have d := Int.mul_ediv_add_emod (qs.getD (i + 1) 0 - gapF r gs i) r
  have m0 := Int.emod_nonneg (qs.getD (i + 1) 0 - gapF r gs i) (show r ≠ 0 by omega)
  have k0 := Int.ediv_nonneg (show 0 ≤ qs.getD (i + 1) 0 - gapF r gs i by omega) (show 0 ≤ r by omega)
  have p0 := Int.mul_nonneg k0 (show 0 ≤ r by omega)
  unfold gapH
  rw [Int.mul_comm] at d
  exact ⟨by omega, by omega, _, rfl⟩
/-- the wheels from one on that is set stay -/
theorem sa_stay {r : Int} {qs gs : List Int} (hr : 0 < r) (hq : ∀ q ∈ qs, 0 ≤ q) (hd : Dl r qs gs) : ∀ {i j : Nat} {pl p : Int} {low : Bool}, i ≤ j → j < qs.length → p ≤ pl → pl - (rA qs j - rA qs i) ≤ p → hw (rA qs j) (saF r qs gs i pl low) p = p
  | 0, _, _, _, _, _, _, _, _ => rfl
  | i + 1, j, pl, p, low, hij, hj, h1, h2 => by
    have g := gapF_bd hr gs i
    have g1 := hd i (by omega)
    have g2 := gapH_bd (qs := qs) hr g1
    have e : rA qs (i + 1) = rA qs i + qs.getD (i + 1) 0 := rA_succ (by omega)
    have ri := rA_ge hq (show i < qs.length by omega)
    cases low with
    | true =>
      unfold saF
      split
      · have st : heldP p (pl + gapF r gs i + rA qs i) (rA qs j) = p := by unfold heldP; omega
        show hw _ _ (heldP p _ _) = p
        rw [st]
        exact sa_stay hr hq hd (by omega) hj (by omega) (by omega)
      · exact sa_stay hr hq hd (by omega) hj (by omega) (by omega)
    | false =>
      unfold saF
      split
      · have st : heldP p (pl + gapH r qs gs i) (rA qs j) = p := by unfold heldP; omega
        show hw _ _ (heldP p _ _) = p
        rw [st]
        exact sa_stay hr hq hd (by omega) hj (by omega) (by omega)
      · exact sa_stay hr hq hd (by omega) hj (by omega) (by omega)
/-- the wheels ahead of it come to their numbers -/
theorem sa_set {r : Int} {qs gs : List Int} (hr : 0 < r) (hq : ∀ q ∈ qs, 0 ≤ q) (hd : Dl r qs gs) : ∀ {i j : Nat} {pl : Int} {low : Bool}, j < i → i < qs.length → (∃ k, pl = gs.getD i 0 + k * r) → ∃ k, hw (rA qs j) (saF r qs gs i pl low) (if low = true then pl else pl + (rA qs i - rA qs j)) = gs.getD j 0 + k * r
  | i + 1, j, pl, low, hji, hi, ⟨k, hk⟩ => by
    have g := gapF_bd hr gs i
    have g1 := hd i hi
    have g2 := gapH_bd (qs := qs) hr g1
    have e : rA qs (i + 1) = rA qs i + qs.getD (i + 1) 0 := rA_succ hi
    have mj := rA_mono hq (show j ≤ i by omega) (by omega)
    have rj := rA_ge hq (show j < qs.length by omega)
    have dm := Int.mul_ediv_add_emod (gs.getD i 0 - gs.getD (i + 1) 0) r
    have eg : gapF r gs i = (gs.getD i 0 - gs.getD (i + 1) 0) % r := rfl
    have p1 : ∃ k, pl + gapF r gs i = gs.getD i 0 + k * r := ⟨k - (gs.getD i 0 - gs.getD (i + 1) 0) / r, by rw [Int.sub_mul, Int.mul_comm ((gs.getD i 0 - gs.getD (i + 1) 0) / r)]; omega⟩
    have p2 : ∃ k, pl + gapH r qs gs i = gs.getD i 0 + k * r := by
      obtain ⟨k1, h1⟩ := p1
      obtain ⟨k2, h2⟩ := g2.2.2
      exact ⟨k1 + k2, by rw [Int.add_mul]; omega⟩
    by_cases c : j = i
    · subst c
      cases low with
      | true =>
        unfold saF
        rw [if_pos rfl]
        split
        · have st : heldP pl (pl + gapF r gs j + rA qs j) (rA qs j) = pl + gapF r gs j := by unfold heldP; omega
          show ∃ k, hw _ _ (heldP pl _ _) = _
          rw [st, sa_stay hr hq hd (Nat.le_refl _) (by omega) (Int.le_refl _) (by omega)]
          exact p1
        · rw [sa_stay hr hq hd (Nat.le_refl _) (by omega) (by omega) (by omega)]
          obtain ⟨k1, h1⟩ := p1
          exact ⟨k1, by omega⟩
      | false =>
        unfold saF
        rw [if_neg (show ¬ false = true by decide)]
        split
        · have st : heldP (pl + (rA qs (j + 1) - rA qs j)) (pl + gapH r qs gs j) (rA qs j) = pl + gapH r qs gs j := by unfold heldP; omega
          show ∃ k, hw _ _ (heldP _ _ _) = _
          rw [st, sa_stay hr hq hd (Nat.le_refl _) (by omega) (Int.le_refl _) (by omega)]
          exact p2
        · rw [sa_stay hr hq hd (Nat.le_refl _) (by omega) (by omega) (by omega)]
          obtain ⟨k1, h1⟩ := p2
          exact ⟨k1, by omega⟩
    · cases low with
      | true =>
        unfold saF
        rw [if_pos rfl]
        split
        · have ih := sa_set hr hq hd (i := i) (j := j) (low := false) (by omega) (by omega) p1
          rw [if_neg (show ¬ false = true by decide)] at ih
          have st : heldP pl (pl + gapF r gs i + rA qs i) (rA qs j) = pl + gapF r gs i + (rA qs i - rA qs j) := by unfold heldP; omega
          show ∃ k, hw _ _ (heldP pl _ _) = _
          rw [st]; exact ih
        · have ih := sa_set hr hq hd (i := i) (j := j) (low := true) (by omega) (by omega) p1
          rw [if_pos rfl] at ih
          rw [show pl + gapF r gs i = pl by omega] at ih ⊢
          exact ih
      | false =>
        unfold saF
        rw [if_neg (show ¬ false = true by decide)]
        split
        · have ih := sa_set hr hq hd (i := i) (j := j) (low := true) (by omega) (by omega) p2
          rw [if_pos rfl] at ih
          have st : heldP (pl + (rA qs (i + 1) - rA qs j)) (pl + gapH r qs gs i) (rA qs j) = pl + gapH r qs gs i := by unfold heldP; omega
          show ∃ k, hw _ _ (heldP _ _ _) = _
          rw [st]; exact ih
        · have ih := sa_set hr hq hd (i := i) (j := j) (low := false) (by omega) (by omega) p2
          rw [if_neg (show ¬ false = true by decide)] at ih
          rw [show pl + (rA qs (i + 1) - rA qs j) = pl + gapH r qs gs i + (rA qs i - rA qs j) by omega]
          exact ih
def aboveF (r p g : Int) : Int := p + (g - p - 1) % r + 1
def belowF (r p g : Int) : Int := p - (p - g - 1) % r - 1
/-- the lists of stops of which one has the least way -/
def diF (r : Int) (qs ps gs : List Int) : Nat → List (List Int)
  | 0 => [[]]
  | i + 1 => ((if i + 1 = qs.length ∨ aboveF r (ps.getD i 0) (gs.getD i 0) - ps.getD (i + 1) 0 ≤ qs.getD (i + 1) 0 then [(aboveF r (ps.getD i 0) (gs.getD i 0) + rA qs i) :: saF r qs gs i (aboveF r (ps.getD i 0) (gs.getD i 0)) false] else []) ++
      (if i + 1 = qs.length ∨ ps.getD (i + 1) 0 ≤ belowF r (ps.getD i 0) (gs.getD i 0) then [belowF r (ps.getD i 0) (gs.getD i 0) :: saF r qs gs i (belowF r (ps.getD i 0) (gs.getD i 0)) true] else [])) ++
      (if (ps.getD i 0 - gs.getD i 0) % r = 0 then diF r qs ps gs i else [])
theorem above_ok {r p g : Int} (hr : 0 < r) : p < aboveF r p g ∧ ∃ k, aboveF r p g = g + k * r := by
  have d := Int.mul_ediv_add_emod (g - p - 1) r
  have m0 := Int.emod_nonneg (g - p - 1) (show r ≠ 0 by omega)
  unfold aboveF
  refine ⟨by omega, -((g - p - 1) / r), ?_⟩
  rw [Int.neg_mul, Int.mul_comm]; omega
theorem below_ok {r p g : Int} (hr : 0 < r) : belowF r p g < p ∧ ∃ k, belowF r p g = g + k * r := by
  have d := Int.mul_ediv_add_emod (p - g - 1) r
  have m0 := Int.emod_nonneg (p - g - 1) (show r ≠ 0 by omega)
  unfold belowF
  refine ⟨by omega, (p - g - 1) / r, ?_⟩
  rw [Int.mul_comm]; omega
theorem di_set {r : Int} {qs ps gs : List Int} {d : Int} (hr : 0 < r) (hq : ∀ q ∈ qs, 0 ≤ q) (hd : Dl r qs gs) (hc : Chain d qs ps) : ∀ {k : Nat} {S : List Int}, k ≤ qs.length → (∀ j, k ≤ j → j < qs.length → ∃ m, ps.getD j 0 = gs.getD j 0 + m * r) → S ∈ diF r qs ps gs k → ∀ j < qs.length, ∃ m, hw (rA qs j) S (ps.getD j 0) = gs.getD j 0 + m * r
  | 0, S, _, hs, hS, j, hj => by
    rw [List.mem_singleton.mp hS]
    exact hs j (Nat.zero_le _) hj
  | i + 1, S, hk, hs, hS, j, hj => by
    have ri := rA_ge hq (show i < qs.length by omega)
    have ab := above_ok (p := ps.getD i 0) (g := gs.getD i 0) hr
    have be := below_ok (p := ps.getD i 0) (g := gs.getD i 0) hr
    have back : ∀ a b, a < b → b < qs.length → ps.getD b 0 ≤ ps.getD a 0 ∧ ps.getD a 0 - ps.getD b 0 ≤ rA qs b - rA qs a := fun a b h1 h2 => chain_ix (a := 0) hc hq h1 h2
    have same : ∀ b, i + 1 ≤ b → b < qs.length → ps.getD b 0 ≤ ps.getD (i + 1) 0 ∧ ps.getD (i + 1) 0 - ps.getD b 0 ≤ rA qs b - rA qs (i + 1) := fun b h1 h2 => by
      by_cases c : b = i + 1
      · rw [c]; omega
      · exact back (i + 1) b (by omega) h2
    unfold diF at hS
    rcases List.mem_append.mp hS with hS | hS
    · rcases List.mem_append.mp hS with hS | hS
      · split at hS
        · rename_i c
          rw [List.mem_singleton.mp hS]
          show ∃ m, hw _ _ (heldP _ _ _) = _
          rcases Nat.lt_trichotomy j i with h | h | h
          · have b := back j i h (by omega)
            have st : heldP (ps.getD j 0) (aboveF r (ps.getD i 0) (gs.getD i 0) + rA qs i) (rA qs j) = aboveF r (ps.getD i 0) (gs.getD i 0) + (rA qs i - rA qs j) := by
              have := rA_ge hq (show j < qs.length by omega)
              unfold heldP; omega
            have s := sa_set hr hq hd (low := false) h (by omega) ab.2
            rw [if_neg (show ¬ false = true by decide)] at s
            rw [st]; exact s
          · subst h
            have st : heldP (ps.getD j 0) (aboveF r (ps.getD j 0) (gs.getD j 0) + rA qs j) (rA qs j) = aboveF r (ps.getD j 0) (gs.getD j 0) := by unfold heldP; omega
            rw [st, sa_stay hr hq hd (Nat.le_refl _) hj (Int.le_refl _) (by omega)]
            exact ab.2
          · have b := back i j h hj
            have b2 := same j (by omega) hj
            have e : rA qs (i + 1) = rA qs i + qs.getD (i + 1) 0 := rA_succ (by omega)
            have c2 : aboveF r (ps.getD i 0) (gs.getD i 0) - ps.getD (i + 1) 0 ≤ qs.getD (i + 1) 0 := by
              rcases c with c | c
              · omega
              · exact c
            have st : heldP (ps.getD j 0) (aboveF r (ps.getD i 0) (gs.getD i 0) + rA qs i) (rA qs j) = ps.getD j 0 := by unfold heldP; omega
            rw [st, sa_stay hr hq hd (by omega) hj (by omega) (by omega)]
            exact hs j (by omega) hj
        · cases hS
      · split at hS
        · rename_i c
          rw [List.mem_singleton.mp hS]
          show ∃ m, hw _ _ (heldP _ _ _) = _
          rcases Nat.lt_trichotomy j i with h | h | h
          · have b := back j i h (by omega)
            have st : heldP (ps.getD j 0) (belowF r (ps.getD i 0) (gs.getD i 0)) (rA qs j) = belowF r (ps.getD i 0) (gs.getD i 0) := by
              have := rA_ge hq (show j < qs.length by omega)
              unfold heldP; omega
            have s := sa_set hr hq hd (low := true) h (by omega) be.2
            rw [if_pos rfl] at s
            rw [st]; exact s
          · subst h
            have st : heldP (ps.getD j 0) (belowF r (ps.getD j 0) (gs.getD j 0)) (rA qs j) = belowF r (ps.getD j 0) (gs.getD j 0) := by unfold heldP; omega
            rw [st, sa_stay hr hq hd (Nat.le_refl _) hj (Int.le_refl _) (by omega)]
            exact be.2
          · have b := back i j h hj
            have b2 := same j (by omega) hj
            have c2 : ps.getD (i + 1) 0 ≤ belowF r (ps.getD i 0) (gs.getD i 0) := by
              rcases c with c | c
              · omega
              · exact c
            have st : heldP (ps.getD j 0) (belowF r (ps.getD i 0) (gs.getD i 0)) (rA qs j) = ps.getD j 0 := by unfold heldP; omega
            rw [st, sa_stay hr hq hd (by omega) hj (by omega) (by omega)]
            exact hs j (by omega) hj
        · cases hS
    · split at hS
      · rename_i c
        have dm := Int.mul_ediv_add_emod (ps.getD i 0 - gs.getD i 0) r
        exact di_set hr hq hd hc (by omega) (fun b h1 h2 => by
          by_cases cb : b = i
          · exact ⟨(ps.getD i 0 - gs.getD i 0) / r, by rw [cb, Int.mul_comm]; omega⟩
          · exact hs b (by omega) h2) hS j hj
      · cases hS
theorem atS_hw {rs : List Int} : ∀ {ss ps : List Int}, ps.length = rs.length → ∀ j, j < rs.length → (atS rs ss ps).length = rs.length ∧ (atS rs ss ps).getD j 0 = hw (rs.getD j 0) ss (ps.getD j 0)
  | [], ps, hl, j, hj => ⟨hl, rfl⟩
  | s :: ss, ps, hl, j, hj => by
    have hlen : ∀ (ps rs : List Int), ps.length = rs.length → (heldL s ps rs).length = rs.length ∧ ∀ j, j < rs.length → (heldL s ps rs).getD j 0 = heldP (ps.getD j 0) s (rs.getD j 0) := fun ps => by
      induction ps with
      | nil => intro rs h; cases rs with
        | nil => exact ⟨rfl, fun j hj => by simp at hj⟩
        | cons _ _ => simp at h
      | cons p ps ih =>
        intro rs h
        cases rs with
        | nil => simp at h
        | cons r rs =>
          obtain ⟨i1, i2⟩ := ih rs (by simpa using h)
          refine ⟨by simp [heldL, i1], fun j hj => ?_⟩
          cases j with
          | zero => rfl
          | succ j => exact i2 j (by simpa using hj)
    obtain ⟨h1, h2⟩ := hlen ps rs hl
    obtain ⟨i1, i2⟩ := atS_hw (ss := ss) h1 j hj
    refine ⟨i1, ?_⟩
    show (atS rs ss (heldL s ps rs)).getD j 0 = hw (rs.getD j 0) ss (heldP (ps.getD j 0) s (rs.getD j 0))
    rw [i2, h2 j hj]
theorem saF_len (r : Int) (qs gs : List Int) : ∀ (i : Nat) (p : Int) (low : Bool), (saF r qs gs i p low).length ≤ i
  | 0, _, _ => Nat.le_refl _
  | i + 1, p, true => by
    unfold saF
    split
    · have := saF_len r qs gs i (p + gapF r gs i) false
      simp; omega
    · have := saF_len r qs gs i (p + gapF r gs i) true
      omega
  | i + 1, p, false => by
    unfold saF
    split
    · have := saF_len r qs gs i (p + gapH r qs gs i) true
      simp; omega
    · have := saF_len r qs gs i (p + gapH r qs gs i) false
      omega
theorem diF_len {r : Int} {qs ps gs : List Int} : ∀ (k : Nat), (diF r qs ps gs k).length ≤ 2 * k + 1 ∧ ∀ S ∈ diF r qs ps gs k, S.length ≤ k
  | 0 => ⟨Nat.le_refl _, fun S hS => by rw [List.mem_singleton.mp hS]; exact Nat.le_refl _⟩
  | i + 1 => by
    obtain ⟨h1, h2⟩ := diF_len (r := r) (qs := qs) (ps := ps) (gs := gs) i
    unfold diF
    constructor
    · rw [List.length_append, List.length_append]
      split <;> split <;> split <;> simp <;> omega
    · intro S hS
      rcases List.mem_append.mp hS with hS | hS
      · rcases List.mem_append.mp hS with hS | hS
        · split at hS
          · rw [List.mem_singleton.mp hS]
            have := saF_len r qs gs i (aboveF r (ps.getD i 0) (gs.getD i 0)) false
            simp; exact this
          · cases hS
        · split at hS
          · rw [List.mem_singleton.mp hS]
            have := saF_len r qs gs i (belowF r (ps.getD i 0) (gs.getD i 0)) true
            simp; exact this
          · cases hS
      · split at hS
        · have := h2 S hS; omega
        · cases hS
theorem diF_ne {r : Int} {qs ps gs : List Int} (h : 1 ≤ qs.length) : 1 ≤ (diF r qs ps gs qs.length).length := by
  obtain ⟨n, hn⟩ : ∃ n, qs.length = n + 1 := ⟨qs.length - 1, by omega⟩
  rw [hn]
  unfold diF
  rw [if_pos (.inl hn.symm)]
  simp
def sp_stops_ahead : FSpec := fun ds Q _ => ∃ r qs o gs i p low, ds = [LockD r qs, .lst o (IL gs), .int (i : Nat), .int p, .bl low] ∧ LockOk r qs ∧ gs.length = qs.length ∧ i < qs.length ∧ r < 10 ^ 40 ∧ (∀ q ∈ qs, q < 10 ^ 40) ∧ Q (.lst true (IL (saF r qs gs i p low))) []
theorem w_stops_ahead {Γ : Sig} (hm : Γ.me = []) (H1 : Has Γ "wheel_reaches" [] sp_wheel_reaches) (ds : List D) (Q : D → List D → Prop) (R : Exc → Prop) (h : sp_stops_ahead ds Q R) : wpF Γ f_stops_ahead ds Q R := by
  obtain ⟨r, qs, o, gs, i, p, low, rfl, hlk, gl, hi, hr, hq, q⟩ := h
  have r2 := hlk.1
  have n8 := hlk.2.2.1
  simp! only [wpF_eq, LockD, f_stops_ahead, startE, List.map_cons, List.map_nil, whl_eq, hm, H1.sp, H1.io]
  refine ⟨_, qs, rfl, n8, rfl, ?_⟩
  simp! only [hm, H1.sp, H1.io]
  refine ⟨fun m e => ∃ (dn : List Int) (k : Nat) (p' : Int) (low' : Bool) (o1 o7 : Bool) (u9 u10 : Option D), e = [some (.tup [.int r, .lst false (IL qs)]), some (.lst o1 (IL gs)), some (.int (k : Nat)), some (.int p'), some (.bl low'), some (.int r), some (.lst false (IL qs)), some (.lst o7 (IL (sumsS 0 qs))), some (.lst true (IL dn)), u9, u10] ∧ m = k ∧ dn ++ saF r qs gs k p' low' = saF r qs gs i p low ∧ dn.length + k ≤ i, ⟨_, [], i, p, low, _, _, _, _, rfl, rfl, rfl, by simp⟩, ?_⟩
  rintro m e ⟨dn, k, p', low', o1, o7, u9, u10, rfl, rfl, h1, h2⟩
  simp! only [hm, H1.sp, H1.io]
  cases m with
  | zero =>
    simp! only [hm, H1.sp, H1.io]
    have : dn = saF r qs gs i p low := by rw [← h1]; exact (List.append_nil dn).symm
    rw [this]
    exact q
  | succ k =>
    rw [if_pos (by omega)]
    have aq : L2.atI (IL qs) ((k + 1 : Nat) : Int) = some (.int (qs.getD (k + 1) 0)) := at_D (by omega) rfl
    have ag : L2.atI (IL gs) ((k + 1 : Nat) : Int) = some (.int (gs.getD (k + 1) 0)) := at_D (by omega) rfl
    have ag0 : L2.atI (IL gs) (((k + 1 : Nat) : Int) - 1) = some (.int (gs.getD k 0)) := at_D (by omega) (by omega)
    have ar : L2.atI (IL (sumsS 0 qs)) (((k + 1 : Nat) : Int) - 1) = some (.int (rA qs k)) := at_D (by rw [sumsS_len]; omega) (by omega)
    have hql : 0 ≤ qs.getD (k + 1) 0 ∧ qs.getD (k + 1) 0 < 10 ^ 40 := by
      rw [List.getD_eq_getElem?_getD, List.getElem?_eq_getElem (by omega), Option.getD_some]
      exact ⟨hlk.2.2.2 _ (List.getElem_mem _), hq _ (List.getElem_mem _)⟩
    simp! only [f_stops_ahead_b5, aq, ag, ag0, hm, H1.sp, H1.io]
    refine ⟨by omega, ?_⟩
    rw [show (gs.getD k 0 - gs.getD (k + 1) 0) % r = gapF r gs k from rfl]
    have gb := gapF_bd (show 0 < r by omega) gs k
    have ek : ((k + 1 : Nat) : Int) - 1 = (k : Nat) := by omega
    cases low' with
    | true =>
      rw [if_pos rfl]
      have e : saF r qs gs (k + 1) p' true = if 0 < gapF r gs k then (p' + gapF r gs k + rA qs k) :: saF r qs gs k (p' + gapF r gs k) false else saF r qs gs k (p' + gapF r gs k) true := rfl
      rw [e] at h1
      simp! only [f_stops_ahead_b2, hm, H1.sp, H1.io]
      split
      · rename_i c
        rw [if_pos c] at h1
        simp! only [f_stops_ahead_b1, ar, hm, H1.sp, H1.io]
        rw [ek, IL_app]
        exact ⟨line60 (by omega), k, by omega, dn ++ [p' + gapF r gs k + rA qs k], k, p' + gapF r gs k, false, o1, o7, _, _, rfl, rfl, by rw [List.append_assoc]; exact h1, by rw [List.length_append]; simp; omega⟩
      · rename_i c
        rw [if_neg c] at h1
        rw [ek]
        exact ⟨k, by omega, dn, k, p' + gapF r gs k, true, o1, o7, _, _, rfl, rfl, h1, by omega⟩
    | false =>
      rw [if_neg (by decide)]
      have e : saF r qs gs (k + 1) p' false = if gapH r qs gs k < qs.getD (k + 1) 0 then (p' + gapH r qs gs k) :: saF r qs gs k (p' + gapH r qs gs k) true else saF r qs gs k (p' + gapH r qs gs k) false := rfl
      rw [e] at h1
      simp! only [f_stops_ahead_b4, hm, H1.sp, H1.io]
      have r240 : r < 2 ^ 240 := by
        have : (10 : Int) ^ 40 < 2 ^ 240 := by decide +kernel
        omega
      have hd : ((qs.getD (k + 1) 0 - gapF r gs k) / r).natAbs < 2 ^ 250 := Nat.lt_of_le_of_lt (Int.natAbs_ediv_le_natAbs _ _) (by
        have : (10 : Int) ^ 40 < 2 ^ 240 := by decide +kernel
        omega)
      refine ⟨div_by (by omega) (by omega), mul_by 250 250 hd (by omega) (by decide) (by decide) (by decide), ?_⟩
      rw [show gapF r gs k + (qs.getD (k + 1) 0 - gapF r gs k) / r * r = gapH r qs gs k from rfl]
      split
      · rename_i c
        rw [if_pos c] at h1
        simp! only [f_stops_ahead_b3, hm, H1.sp, H1.io]
        rw [ek, IL_app]
        exact ⟨line60 (by omega), k, by omega, dn ++ [p' + gapH r qs gs k], k, p' + gapH r qs gs k, true, o1, o7, _, _, rfl, rfl, by rw [List.append_assoc]; exact h1, by rw [List.length_append]; simp; omega⟩
      · rename_i c
        rw [if_neg c] at h1
        rw [ek]
        exact ⟨k, by omega, dn, k, p' + gapH r qs gs k, false, o1, o7, _, _, rfl, rfl, h1, by omega⟩
theorem fz_snocF {M : List D} {Ls : List (List Int)} {s : List Int} (h : fzL M = Ls.map fun zs => D.lst false (IL zs)) : fzL (M ++ [.lst true (IL s)]) = (Ls ++ [s]).map fun zs => D.lst false (IL zs) := by
  rw [fzL_map, List.map_append, ← fzL_map, h, List.map_append]
  simp only [List.map_cons, List.map_nil, D.fz, IL_fz]
def sp_dialings : FSpec := fun ds Q _ => ∃ r qs d ps o gs, ds = [LockD r qs, StateD d ps, .lst o (IL gs)] ∧ LockOk r qs ∧ Chain d qs ps ∧ gs.length = qs.length ∧ r < 10 ^ 40 ∧ (∀ q ∈ qs, q < 10 ^ 40) ∧ ∀ L, fzL L = (diF r qs ps gs qs.length).map (fun zs => D.lst false (IL zs)) → Q (.lst true L) []
theorem w_dialings {Γ : Sig} (hm : Γ.me = []) (H1 : Has Γ "wheel_reaches" [] sp_wheel_reaches) (H2 : Has Γ "stops_ahead" [] sp_stops_ahead) (ds : List D) (Q : D → List D → Prop) (R : Exc → Prop) (h : sp_dialings ds Q R) : wpF Γ f_dialings ds Q R := by
  obtain ⟨r, qs, d, ps, o, gs, rfl, hlk, hc, gl, hr, hq, q⟩ := h
  have r2 := hlk.1
  have n8 := hlk.2.2.1
  have hfz : ∀ M : List (List Int), fzL (M.map fun zs => D.lst false (IL zs)) = M.map fun zs => D.lst false (IL zs) := fun M => LF_fz M
  simp! only [wpF_eq, LockD, StateD, f_dialings, startE, List.map_cons, List.map_nil, whl_eq, hm, H1.sp, H1.io, H2.sp, H2.io]
  refine ⟨_, qs, rfl, n8, rfl, ?_⟩
  simp! only [hm, H1.sp, H1.io, H2.sp, H2.io]
  refine ⟨fun m e => ∃ (M : List D) (Ls : List (List Int)) (k : Nat) (o2 o4 : Bool) (u7 u8 u9 u10 : Option D), e = [some (.tup [.int r, .lst false (IL qs)]), some (.tup [.int d, .lst false (IL ps)]), some (.lst o2 (IL gs)), some (.int r), some (.lst o4 (IL (sumsS 0 qs))), some (.lst true M), some (.int ((k : Nat) - 1)), u7, u8, u9, u10] ∧ m = k ∧ k ≤ qs.length ∧ fzL M = Ls.map (fun zs => D.lst false (IL zs)) ∧ Ls ++ diF r qs ps gs k = diF r qs ps gs qs.length ∧ Ls.length + 2 * k ≤ 2 * qs.length, ⟨_, [], [], qs.length, o, true, _, _, _, _, by rw [sumsS_len], rfl, Nat.le_refl _, rfl, rfl, by simp⟩, ?_⟩
  rintro m e ⟨M, Ls, k, o2, o4, u7, u8, u9, u10, rfl, rfl, hk, hM, hL, hl⟩
  have lM : M.length = Ls.length := by
    have := congrArg List.length hM
    rw [fzL_length, List.length_map] at this
    exact this
  simp! only [hm, H1.sp, H1.io, H2.sp, H2.io]
  cases m with
  | zero =>
    rw [if_neg (by omega)]
    have hL0 : Ls ++ [[]] = diF r qs ps gs qs.length := hL
    refine ⟨by rw [List.length_append, fzL_length]; exact Nat.le_of_lt (line60 (by simp; omega)), q _ ?_⟩
    rw [← hL0, List.map_append, fzL_map, List.map_append, ← fzL_map, hM, hfz]
    rfl
  | succ k =>
    rw [if_pos (by omega)]
    have ek : ((k + 1 : Nat) : Int) - 1 = (k : Nat) := by omega
    rw [ek]
    have psl := chain_len2 hc
    have ap : L2.atI (IL ps) (k : Int) = some (.int (ps.getD k 0)) := at_D (by omega) rfl
    have ag : L2.atI (IL gs) (k : Int) = some (.int (gs.getD k 0)) := at_D (by omega) rfl
    have ar : L2.atI (IL (sumsS 0 qs)) (k : Int) = some (.int (rA qs k)) := at_D (by rw [sumsS_len]; omega) rfl
    obtain ⟨A, hA⟩ : ∃ A, A = aboveF r (ps.getD k 0) (gs.getD k 0) := ⟨_, rfl⟩
    obtain ⟨B, hB⟩ : ∃ B, B = belowF r (ps.getD k 0) (gs.getD k 0) := ⟨_, rfl⟩
    have eD : diF r qs ps gs (k + 1) = ((if k + 1 = qs.length ∨ A - ps.getD (k + 1) 0 ≤ qs.getD (k + 1) 0 then [(A + rA qs k) :: saF r qs gs k A false] else []) ++ (if k + 1 = qs.length ∨ ps.getD (k + 1) 0 ≤ B then [B :: saF r qs gs k B true] else [])) ++ (if (ps.getD k 0 - gs.getD k 0) % r = 0 then diF r qs ps gs k else []) := by rw [hA, hB]; rfl
    rw [eD] at hL
    obtain ⟨Z, hZ⟩ : ∃ Z, Z = diF r qs ps gs qs.length := ⟨_, rfl⟩
    rw [← hZ] at hL
    have fin : ∀ (K : Con) (bd : D), (bd = .non ∧ k + 1 = qs.length ∨ bd = .int (ps.getD (k + 1) 0) ∧ k + 1 < qs.length) → (∀ d e, K.rt d e = Q d []) → (∀ (M' : List D) (Ls' : List (List Int)) (o2 o4 : Bool) (v7 v8 v9 v10 : Option D), fzL M' = Ls'.map (fun zs => D.lst false (IL zs)) → Ls' ++ diF r qs ps gs k = Z → Ls'.length + 2 * k ≤ 2 * qs.length → K.nx [some (.tup [.int r, .lst false (IL qs)]), some (.tup [.int d, .lst false (IL ps)]), some (.lst o2 (IL gs)), some (.int r), some (.lst o4 (IL (sumsS 0 qs))), some (.lst true M'), some (.int ((k : Nat) - 1)), v7, v8, v9, v10]) → wpSs Γ f_dialings_r3 [some (.tup [.int r, .lst false (IL qs)]), some (.tup [.int d, .lst false (IL ps)]), some (.lst o2 (IL gs)), some (.int r), some (.lst o4 (IL (sumsS 0 qs))), some (.lst true M), some (.int (k : Nat)), some (.int (ps.getD k 0)), some (.int A), some (.int B), some bd] K := by
      intro K bd hbd hrt hnx
      have R1 : ∀ (M : List D) (Ls : List (List Int)) (o2 : Bool), fzL M = Ls.map (fun zs => D.lst false (IL zs)) → Ls ++ (if (ps.getD k 0 - gs.getD k 0) % r = 0 then diF r qs ps gs k else []) = Z → Ls.length + 2 * k ≤ 2 * qs.length → wpSs Γ f_dialings_r1 [some (.tup [.int r, .lst false (IL qs)]), some (.tup [.int d, .lst false (IL ps)]), some (.lst o2 (IL gs)), some (.int r), some (.lst o4 (IL (sumsS 0 qs))), some (.lst true M), some (.int (k : Nat)), some (.int (ps.getD k 0)), some (.int A), some (.int B), some bd] K := by
        intro M Ls o2 hM hL hl
        simp! only [f_dialings_r1, ag, hm, H1.sp, H1.io, H2.sp, H2.io]
        refine ⟨by omega, ?_⟩
        split
        · rename_i c
          rw [if_pos c] at hL
          exact hnx M Ls _ _ _ _ _ _ hM hL hl
        · rename_i c
          rw [if_neg c, List.append_nil] at hL
          simp! only [f_dialings_b1, hm, H1.sp, H1.io, H2.sp, H2.io]
          rw [hrt]
          exact q M (by rw [hM, hL, hZ])
      have R2 : ∀ (M : List D) (Ls : List (List Int)) (o2 : Bool), fzL M = Ls.map (fun zs => D.lst false (IL zs)) → Ls ++ ((if k + 1 = qs.length ∨ ps.getD (k + 1) 0 ≤ B then [B :: saF r qs gs k B true] else []) ++ (if (ps.getD k 0 - gs.getD k 0) % r = 0 then diF r qs ps gs k else [])) = Z → Ls.length + 2 * k + 1 ≤ 2 * qs.length → wpSs Γ f_dialings_r2 [some (.tup [.int r, .lst false (IL qs)]), some (.tup [.int d, .lst false (IL ps)]), some (.lst o2 (IL gs)), some (.int r), some (.lst o4 (IL (sumsS 0 qs))), some (.lst true M), some (.int (k : Nat)), some (.int (ps.getD k 0)), some (.int A), some (.int B), some bd] K := by
        intro M Ls o2 hM hL hl
        have yes : (k + 1 = qs.length ∨ ps.getD (k + 1) 0 ≤ B) → wpSs Γ f_dialings_b2 [some (.tup [.int r, .lst false (IL qs)]), some (.tup [.int d, .lst false (IL ps)]), some (.lst o2 (IL gs)), some (.int r), some (.lst o4 (IL (sumsS 0 qs))), some (.lst true M), some (.int (k : Nat)), some (.int (ps.getD k 0)), some (.int A), some (.int B), some bd] { nx := fun e => wpSs Γ f_dialings_r1 e K, rt := K.rt, bk := K.bk, ct := K.ct, ex := K.ex } := by
          intro c
          rw [if_pos c] at hL
          simp! only [f_dialings_b2, hm, H1.sp, H1.io, H2.sp, H2.io]
          refine ⟨_, qs, _, gs, k, B, true, rfl, hlk, gl, by omega, hr, hq, rfl, ?_⟩
          simp! only [IL_fz, hm, H1.sp, H1.io, H2.sp, H2.io]
          have ls := saF_len r qs gs k B true
          have lM : M.length = Ls.length := by
            have := congrArg List.length hM
            rw [fzL_length, List.length_map] at this
            exact this
          rw [List.append_nil]
          refine ⟨by rw [IL_len]; exact Nat.le_of_lt (line60 (by omega)), line60 (by omega), ?_⟩
          exact R1 (M ++ [.lst true (IL (B :: saF r qs gs k B true))]) (Ls ++ [B :: saF r qs gs k B true]) false (fz_snocF hM) (by rw [List.append_assoc]; exact hL) (by rw [List.length_append, List.length_singleton]; omega)
        have no : ¬ (k + 1 = qs.length ∨ ps.getD (k + 1) 0 ≤ B) → wpSs Γ f_dialings_r1 [some (.tup [.int r, .lst false (IL qs)]), some (.tup [.int d, .lst false (IL ps)]), some (.lst o2 (IL gs)), some (.int r), some (.lst o4 (IL (sumsS 0 qs))), some (.lst true M), some (.int (k : Nat)), some (.int (ps.getD k 0)), some (.int A), some (.int B), some bd] K := by
          intro c
          rw [if_neg c, List.nil_append] at hL
          exact R1 M Ls o2 hM hL (by omega)
        rcases hbd with ⟨rfl, hn⟩ | ⟨rfl, hn⟩
        · simp! only [f_dialings_r2, D.isNon, hm, H1.sp, H1.io, H2.sp, H2.io]
          exact yes (.inl hn)
        · simp! only [f_dialings_r2, D.isNon, hm, H1.sp, H1.io, H2.sp, H2.io]
          split
          · rename_i c
            exact yes (.inr c)
          · rename_i c
            exact no fun h => h.elim (fun h => by omega) c
      have yes : (k + 1 = qs.length ∨ A - ps.getD (k + 1) 0 ≤ qs.getD (k + 1) 0) → wpSs Γ f_dialings_b3 [some (.tup [.int r, .lst false (IL qs)]), some (.tup [.int d, .lst false (IL ps)]), some (.lst o2 (IL gs)), some (.int r), some (.lst o4 (IL (sumsS 0 qs))), some (.lst true M), some (.int (k : Nat)), some (.int (ps.getD k 0)), some (.int A), some (.int B), some bd] { nx := fun e => wpSs Γ f_dialings_r2 e K, rt := K.rt, bk := K.bk, ct := K.ct, ex := K.ex } := by
        intro c
        rw [if_pos c] at hL
        simp! only [f_dialings_b3, ar, hm, H1.sp, H1.io, H2.sp, H2.io]
        refine ⟨_, qs, _, gs, k, A, false, rfl, hlk, gl, by omega, hr, hq, rfl, ?_⟩
        simp! only [IL_fz, hm, H1.sp, H1.io, H2.sp, H2.io]
        have ls := saF_len r qs gs k A false
        rw [List.append_nil]
        refine ⟨by rw [IL_len]; exact Nat.le_of_lt (line60 (by omega)), line60 (by omega), ?_⟩
        exact R2 (M ++ [.lst true (IL ((A + rA qs k) :: saF r qs gs k A false))]) (Ls ++ [(A + rA qs k) :: saF r qs gs k A false]) false (fz_snocF hM) (by rw [List.append_assoc]; rw [List.append_assoc] at hL; exact hL) (by rw [List.length_append, List.length_singleton]; omega)
      have no : ¬ (k + 1 = qs.length ∨ A - ps.getD (k + 1) 0 ≤ qs.getD (k + 1) 0) → wpSs Γ f_dialings_r2 [some (.tup [.int r, .lst false (IL qs)]), some (.tup [.int d, .lst false (IL ps)]), some (.lst o2 (IL gs)), some (.int r), some (.lst o4 (IL (sumsS 0 qs))), some (.lst true M), some (.int (k : Nat)), some (.int (ps.getD k 0)), some (.int A), some (.int B), some bd] K := by
        intro c
        rw [if_neg c, List.nil_append] at hL
        exact R2 M Ls o2 hM hL (by omega)
      rcases hbd with ⟨rfl, hn⟩ | ⟨rfl, hn⟩
      · simp! only [f_dialings_r3, D.isNon, hm, H1.sp, H1.io, H2.sp, H2.io]
        exact yes (.inl hn)
      · have aq : L2.atI (IL qs) ((k : Int) + 1) = some (.int (qs.getD (k + 1) 0)) := at_D hn (by omega)
        simp! only [f_dialings_r3, D.isNon, aq, hm, H1.sp, H1.io, H2.sp, H2.io]
        split
        · rename_i c
          exact yes (.inr c)
        · rename_i c
          exact no fun h => h.elim (fun h => by omega) c
    simp! only [f_dialings_b4, ap, ag, hm, H1.sp, H1.io, H2.sp, H2.io]
    refine ⟨by omega, by omega, ?_⟩
    rw [show ps.getD k 0 + (gs.getD k 0 - ps.getD k 0 - 1) % r + 1 = A from hA.symm, show ps.getD k 0 - (ps.getD k 0 - gs.getD k 0 - 1) % r - 1 = B from hB.symm, sumsS_len]
    by_cases hn : (k : Int) + 1 < (qs.length : Nat)
    · rw [if_pos hn]
      refine ⟨_, at_D (xs := ps) (i := k + 1) (by omega) (by omega), ?_⟩
      exact fin _ _ (.inr ⟨rfl, by omega⟩) (fun _ _ => rfl) fun M' Ls' o2' o4' v7 v8 v9 v10 h1 h2 h3 => ⟨k, by omega, M', Ls', k, o2', _, v7, v8, v9, v10, rfl, rfl, by omega, h1, by rw [h2, hZ], h3⟩
    · rw [if_neg hn]
      exact fin _ _ (.inl ⟨rfl, by omega⟩) (fun _ _ => rfl) fun M' Ls' o2' o4' v7 v8 v9 v10 h1 h2 h3 => ⟨k, by omega, M', Ls', k, o2', _, v7, v8, v9, v10, rfl, rfl, by omega, h1, by rw [h2, hZ], h3⟩
def LeastS (d : Int) (Ls : List (List Int)) (i : Nat) : Prop := i < Ls.length ∧ (∀ j < Ls.length, wayT (tto d (Ls.getD i [])) ≤ wayT (tto d (Ls.getD j []))) ∧ ∀ j < i, wayT (tto d (Ls.getD i [])) < wayT (tto d (Ls.getD j []))
theorem first_at {m : Int} : ∀ {xs : List Int}, m ∈ xs → ∃ i, i < xs.length ∧ xs.getD i 0 = m ∧ ∀ j < i, xs.getD j 0 ≠ m
  | x :: xs, h => by
    by_cases c : x = m
    · exact ⟨0, by simp, by simpa using c, fun j hj => absurd hj (Nat.not_lt_zero _)⟩
    · obtain ⟨i, h1, h2, h3⟩ := first_at (xs := xs) (by
        rcases List.mem_cons.mp h with h | h
        · exact absurd h.symm c
        · exact h)
      refine ⟨i + 1, by simpa using h1, by simpa using h2, fun j hj => ?_⟩
      cases j with
      | zero => simpa using c
      | succ j => simpa using h3 j (by omega)
def sp_best_turns : FSpec := fun ds Q _ => ∃ d o Ls, ds = [.int d, .lst o (List.map (fun zs => D.lst false (IL zs)) Ls)] ∧ 1 ≤ Ls.length ∧ Ls.length ≤ 40 ∧ (∀ S ∈ Ls, S.length ≤ 40) ∧ ∀ o i, LeastS d Ls i → Q (.lst o (IL (tto d (Ls.getD i [])))) []
theorem w_best_turns {Γ : Sig} (hm : Γ.me = []) (H1 : Has Γ "turns_to" [] sp_turns_to) (H2 : Has Γ "length_of" [] sp_length_of) (ds : List D) (Q : D → List D → Prop) (R : Exc → Prop) (h : sp_best_turns ds Q R) : wpF Γ f_best_turns ds Q R := by
  obtain ⟨d, o, Ls, rfl, l1, l40, hS, q⟩ := h
  have hfz : ∀ M : List (List Int), fzL (M.map fun zs => D.lst false (IL zs)) = M.map fun zs => D.lst false (IL zs) := fun M => LF_fz M
  simp! only [wpF_eq, f_best_turns, startE, List.map_cons, List.map_nil, hfz, hm, H1.sp, H1.io, H2.sp, H2.io]
  refine lcAll (f := fun zs : List Int => D.lst false (IL zs)) (xs := Ls) (fun e => ∃ u3, e = [some (.int d), some (.lst false (Ls.map fun zs => D.lst false (IL zs))), none, u3, none, none]) (fun S => .lst true (IL (tto d S))) ⟨_, rfl⟩ ?_ ?_
  · rintro S hSm acc e k ⟨u3, rfl⟩ hla hk
    simp! only [lcStep, IL_fz, hm, H1.sp, H1.io, H2.sp, H2.io]
    refine ⟨_, _, S, rfl, by have := hS S hSm; omega, rfl, ?_⟩
    exact ⟨line60 (by omega), hk _ ⟨_, rfl⟩⟩
  · rintro e ⟨u3, rfl⟩
    have hf2 : fzL (Ls.map fun S => D.lst true (IL (tto d S))) = (Ls.map (tto d)).map fun zs => D.lst false (IL zs) := by
      rw [fzL_map, List.map_map, List.map_map]
      refine List.map_congr_left fun S _ => ?_
      simp only [Function.comp, D.fz, IL_fz]
    simp! only [hf2, hm, H1.sp, H1.io, H2.sp, H2.io]
    rw [hfz]
    refine lcAll (f := fun zs : List Int => D.lst false (IL zs)) (xs := Ls.map (tto d)) (fun e => ∃ u5, e = [some (.int d), some (.lst false (Ls.map fun zs => D.lst false (IL zs))), some (.lst false ((Ls.map (tto d)).map fun zs => D.lst false (IL zs))), none, none, u5]) (fun ts => .int (wayT ts)) ⟨_, rfl⟩ ?_ ?_
    · rintro ts hts acc e k ⟨u5, rfl⟩ hla hk
      obtain ⟨S, hSm, rfl⟩ := List.mem_map.mp hts
      have := tto_len S d
      have := hS S hSm
      rw [List.length_map] at hla
      simp! only [lcStep, IL_fz, hm, H1.sp, H1.io, H2.sp, H2.io]
      refine ⟨_, _, rfl, by omega, rfl, ?_⟩
      exact ⟨line60 (by omega), hk _ ⟨_, rfl⟩⟩
    · rintro e ⟨u5, rfl⟩
      rw [show ((Ls.map (tto d)).map fun ts => D.int (wayT ts)) = IL (Ls.map fun S => wayT (tto d S)) by unfold IL; rw [List.map_map, List.map_map]; rfl]
      simp! only [IL_fz, hm, H1.sp, H1.io, H2.sp, H2.io]
      refine ⟨_, intsD_ILq _, by rw [List.length_map]; omega, fun m hm hmin => ?_⟩
      obtain ⟨i, hi, e1, e2⟩ := first_at hm
      rw [List.length_map] at hi
      have gw : ∀ j, j < Ls.length → (Ls.map fun S => wayT (tto d S)).getD j 0 = wayT (tto d (Ls.getD j [])) := fun j hj => by
        rw [List.getD_eq_getElem?_getD, List.getElem?_map, List.getElem?_eq_getElem hj, List.getD_eq_getElem?_getD, List.getElem?_eq_getElem hj]; rfl
      have eqi : ∀ a b : Int, PySem.PyData.eqv (D.int a).py (D.int b).py = true ↔ a = b := fun a b => by
        rw [eqv_noB _ _ rfl rfl]
        simp only [D.fz, D.int.injEq]
      refine ⟨shaped_of (d := .lst true (IL (Ls.map fun S => wayT (tto d S)))) (by simp only [plainD]; exact IL_plain _ 63), shaped_of (d := .int m) rfl, i, .int m, ?_, (eqi m m).mpr rfl, fun j z' hj hz' => ?_, ?_⟩
      · unfold IL
        rw [List.getElem?_map, List.getElem?_eq_getElem (by rw [List.length_map]; exact hi)]
        rw [List.getD_eq_getElem?_getD, List.getElem?_eq_getElem (by rw [List.length_map]; exact hi), Option.getD_some] at e1
        rw [e1]; rfl
      · unfold IL at hz'
        rw [List.getElem?_map, List.getElem?_eq_getElem (by rw [List.length_map]; omega)] at hz'
        cases hz'
        have := e2 j hj
        rw [List.getD_eq_getElem?_getD, List.getElem?_eq_getElem (by rw [List.length_map]; omega), Option.getD_some] at this
        rw [← Bool.not_eq_true]
        exact fun h => this ((eqi _ m).mp h)
      · have hat : L2.atI ((Ls.map (tto d)).map fun zs => D.lst false (IL zs)) (i : Int) = some (.lst false (IL (tto d (Ls.getD i [])))) := by
          rw [atI_map, atI_map]
          have : L2.atI Ls (i : Int) = some (Ls.getD i []) := by
            unfold L2.atI L2.ixN
            rw [if_pos (by omega), if_pos (by omega)]
            simp [List.getD_eq_getElem?_getD, List.getElem?_eq_getElem hi]
          rw [this]; rfl
        simp! only [hat, IL_fz, hm, H1.sp, H1.io, H2.sp, H2.io]
        refine q _ i ⟨hi, fun j hj => ?_, fun j hj => ?_⟩
        · rw [← gw i hi, ← gw j hj, e1]
          exact hmin _ (by
            rw [List.getD_eq_getElem?_getD, List.getElem?_eq_getElem (by rw [List.length_map]; exact hj), Option.getD_some]
            exact List.getElem_mem _)
        · have h1 := hmin _ (show (Ls.map fun S => wayT (tto d S)).getD j 0 ∈ _ by
            rw [List.getD_eq_getElem?_getD, List.getElem?_eq_getElem (by rw [List.length_map]; omega), Option.getD_some]
            exact List.getElem_mem _)
          have h2 := e2 j hj
          rw [← gw i hi, ← gw j (by omega), e1]
          omega
def LeastT (r : Int) (qs : List Int) (d : Int) (ps gs ts : List Int) : Prop := ∃ i, LeastS d (diF r qs ps gs qs.length) i ∧ ts = tto d ((diF r qs ps gs qs.length).getD i [])
theorem least_ok {r : Int} {qs : List Int} {d : Int} {ps gs ts : List Int} (hlk : LockOk r qs) (hc : Chain d qs ps) (hg : GatesOk r qs gs) (hd : Dl r qs gs) (h : LeastT r qs d ps gs ts) : Turns ts ∧ ts.length ≤ 8 ∧ numL r (walkL (sumsS 0 qs) ts ps d) = gs := by
  obtain ⟨i, ⟨hi, _, _⟩, rfl⟩ := h
  have r2 := hlk.1
  have hq := hlk.2.2.2
  have n8 := hlk.2.2.1
  have dl := diF_len (r := r) (qs := qs) (ps := ps) (gs := gs) qs.length
  have hm : (diF r qs ps gs qs.length).getD i [] ∈ diF r qs ps gs qs.length := by
    rw [List.getD_eq_getElem?_getD, List.getElem?_eq_getElem hi, Option.getD_some]
    exact List.getElem_mem _
  generalize (diF r qs ps gs qs.length).getD i [] = S at hm
  have tl := tto_len S d
  have sl := dl.2 S hm
  refine ⟨⟨by omega, tto_ne S d⟩, by omega, ?_⟩
  rw [(walk_tto hq S hc).1]
  have psl := chain_len2 hc
  have st := di_set (by omega) hq hd hc (Nat.le_refl _) (fun j h1 h2 => by omega) hm
  have hl : (atS (sumsS 0 qs) S ps).length = qs.length := by
    have := (atS_hw (rs := sumsS 0 qs) (ss := S) (ps := ps) (by rw [sumsS_len]; exact psl) 0 (by rw [sumsS_len]; exact hlk.2.1)).1
    rw [sumsS_len] at this; exact this
  refine List.ext_getElem (by unfold numL; rw [List.length_map, hl, hg.1]) fun j h1 h2 => ?_
  have hj : j < qs.length := by rw [← hg.1]; exact h2
  have hv := (atS_hw (rs := sumsS 0 qs) (ss := S) (ps := ps) (by rw [sumsS_len]; exact psl) j (by rw [sumsS_len]; exact hj)).2
  obtain ⟨m, hmm⟩ := st j hj
  unfold rA at hmm
  rw [← hv] at hmm
  have gj := hg.2 _ (List.getElem_mem h2)
  have e1 : gs.getD j 0 = gs[j] := by rw [List.getD_eq_getElem?_getD, List.getElem?_eq_getElem h2, Option.getD_some]
  have e2 : (atS (sumsS 0 qs) S ps).getD j 0 = (atS (sumsS 0 qs) S ps)[j]'(by omega) := by rw [List.getD_eq_getElem?_getD, List.getElem?_eq_getElem (by omega), Option.getD_some]
  refine Eq.trans (List.getElem_map (f := fun p : Int => p % r) (l := atS (sumsS 0 qs) S ps) (i := j)) ?_
  rw [← e2, hmm, e1, Int.add_mul_emod_self_right, Int.emod_eq_of_lt gj.1 gj.2]
theorem CanD_Dl {r : Int} {qs gs : List Int} (hr : 0 < r) (hl : gs.length = qs.length) : CanD r 0 qs gs ↔ Dl r qs gs := by
  constructor
  · intro h i hi
    obtain ⟨x, h1, h2, y, hy, hm⟩ := h (i + 1) (by omega)
    have y0 := RX_in hy
    have ex : x = 0 := by omega
    have ey : y = 0 := by omega
    subst ex ey
    simpa [gapF] using hm
  · intro h i
    have key : i < gs.length → RX r 0 qs gs i 0 := by
      induction i with
      | zero => intro _; exact ⟨by omega, by omega⟩
      | succ i ih =>
        intro hi
        refine ⟨by omega, by omega, 0, ih (by omega), ?_⟩
        have := h i (by omega)
        simpa [gapF] using this
    exact fun hi => ⟨0, key hi⟩
theorem num_ok {r : Int} {qs ps : List Int} {d : Int} (hr : 2 ≤ r) (hc : Chain d qs ps) : GatesOk r qs (numL r ps) ∧ Dl r qs (numL r ps) := by
  have psl := chain_len2 hc
  have gok : GatesOk r qs (numL r ps) := ⟨by unfold numL; rw [List.length_map, psl], fun g hg => by
    unfold numL at hg
    obtain ⟨p, _, rfl⟩ := List.mem_map.mp hg
    exact ⟨Int.emod_nonneg _ (by omega), Int.emod_lt_of_pos _ (by omega)⟩⟩
  refine ⟨gok, (CanD_Dl (by omega) gok.1).mp (here_RX hr (Int.le_refl 0) hc gok.1 fun i hi => ⟨0, by omega, by omega, ?_⟩)⟩
  have hi2 : i < ps.length := by rw [psl, ← gok.1]; exact hi
  unfold numL
  rw [List.getD_eq_getElem?_getD, List.getElem?_map, List.getElem?_eq_getElem hi2, List.getD_eq_getElem?_getD, List.getElem?_eq_getElem hi2, Int.add_zero]
  rfl
/-- the cost of the wheels ahead, from the low end and from the high one -/
def cst (r : Int) (qs gs : List Int) : Nat → Bool → Int
  | 0, _ => 0
  | i + 1, true => if 0 < gapF r gs i then gapF r gs i + rA qs i + cst r qs gs i false else cst r qs gs i true
  | i + 1, false => if gapH r qs gs i < qs.getD (i + 1) 0 then rA qs (i + 1) - gapH r qs gs i + cst r qs gs i true else cst r qs gs i false
theorem wayS_ge : ∀ (ss : List Int) (d x : Int), 0 ≤ wayS d ss ∧ wayS d ss ≤ wayS d (ss ++ [x])
  | [], d, x => by
    show (0 : Int) ≤ 0 ∧ 0 ≤ (if x - d < 0 then -(x - d) else x - d) + 0
    split <;> omega
  | s :: ss, d, x => by
    have := wayS_ge ss s x
    show 0 ≤ (if s - d < 0 then -(s - d) else s - d) + wayS s ss ∧ (if s - d < 0 then -(s - d) else s - d) + wayS s ss ≤ (if s - d < 0 then -(s - d) else s - d) + wayS s (ss ++ [x])
    split <;> omega
theorem cst_sa {r : Int} {qs gs : List Int} (hr : 0 < r) (hq : ∀ q ∈ qs, 0 ≤ q) (hd : Dl r qs gs) : ∀ {i : Nat} {pl : Int} {low : Bool}, i < qs.length → wayS (if low = true then pl else pl + rA qs i) (saF r qs gs i pl low) = cst r qs gs i low
  | 0, _, _, _ => rfl
  | i + 1, pl, low, hi => by
    have g := gapF_bd hr gs i
    have g1 := hd i hi
    have g2 := gapH_bd (qs := qs) hr g1
    have e : rA qs (i + 1) = rA qs i + qs.getD (i + 1) 0 := rA_succ hi
    have ri := rA_ge hq (show i < qs.length by omega)
    cases low with
    | true =>
      rw [if_pos rfl]
      unfold saF cst
      split
      · have ih := cst_sa hr hq hd (i := i) (pl := pl + gapF r gs i) (low := false) (by omega)
        rw [if_neg (show ¬ false = true by decide)] at ih
        show (if pl + gapF r gs i + rA qs i - pl < 0 then _ else pl + gapF r gs i + rA qs i - pl) + wayS (pl + gapF r gs i + rA qs i) _ = _
        rw [ih, if_neg (by omega)]; omega
      · have ih := cst_sa hr hq hd (i := i) (pl := pl + gapF r gs i) (low := true) (by omega)
        rw [if_pos rfl, show pl + gapF r gs i = pl by omega] at ih
        rw [show pl + gapF r gs i = pl by omega]; exact ih
    | false =>
      rw [if_neg (show ¬ false = true by decide)]
      unfold saF cst
      split
      · have ih := cst_sa hr hq hd (i := i) (pl := pl + gapH r qs gs i) (low := true) (by omega)
        rw [if_pos rfl] at ih
        show (if pl + gapH r qs gs i - (pl + rA qs (i + 1)) < 0 then -(pl + gapH r qs gs i - (pl + rA qs (i + 1))) else pl + gapH r qs gs i - (pl + rA qs (i + 1))) + wayS (pl + gapH r qs gs i) _ = _
        rw [ih]
        split <;> omega
      · have ih := cst_sa hr hq hd (i := i) (pl := pl + gapH r qs gs i) (low := false) (by omega)
        rw [if_neg (show ¬ false = true by decide), show pl + gapH r qs gs i + rA qs i = pl + rA qs (i + 1) by omega] at ih
        exact ih
theorem cst_xy {r : Int} {qs gs : List Int} (hr : 0 < r) (hq : ∀ q ∈ qs, 0 ≤ q) (hd : Dl r qs gs) : ∀ {i : Nat}, i < qs.length → cst r qs gs i true ≤ rA qs i + cst r qs gs i false ∧ cst r qs gs i false ≤ rA qs i + cst r qs gs i true
  | 0, hi => by
    have := rA_ge hq hi
    show (0 : Int) ≤ rA qs 0 + 0 ∧ (0 : Int) ≤ rA qs 0 + 0
    omega
  | i + 1, hi => by
    obtain ⟨x, y⟩ := cst_xy hr hq hd (i := i) (by omega)
    have g := gapF_bd hr gs i
    have g1 := hd i hi
    have g2 := gapH_bd (qs := qs) hr g1
    have e : rA qs (i + 1) = rA qs i + qs.getD (i + 1) 0 := rA_succ hi
    have ri := rA_ge hq (show i < qs.length by omega)
    unfold cst
    split <;> split <;> omega
def sp_require_dialedN : FSpec := fun ds Q _ => ∃ r qs o gs, ds = [LockD r qs, .lst o (IL gs)] ∧ 0 < r ∧ gs.length = qs.length ∧ qs.length ≤ 8 ∧ Dl r qs gs ∧ Q .non []
theorem w_require_dialedN {Γ : Sig} (hm : Γ.me = []) (ds : List D) (Q : D → List D → Prop) (R : Exc → Prop) (h : sp_require_dialedN ds Q R) : wpF Γ f_require_dialed ds Q R := by
  obtain ⟨r, qs, o, gs, rfl, hr, gl, n8, hd, q1⟩ := h
  simp! only [wpF_eq, LockD, f_require_dialed, startE, List.map_cons, List.map_nil, hm]
  refine ⟨by omega, ?_⟩
  refine forRgS (a := 1) (c := 1) (fun i e => ∃ (o1 : Bool) (u4 : Option D), e = [some (.tup [.int r, .lst false (IL qs)]), some (.lst o1 (IL gs)), some (.int r), some (.lst false (IL qs)), u4]) ⟨_, _, rfl⟩ ?_ ?_
  · rintro e ⟨o1, u4, rfl⟩
    exact q1
  · rintro i e k bk hi ⟨o1, u4, rfl⟩ hk _
    have aq : L2.atI (IL qs) (1 + (i : Int) * 1) = some (.int (qs.getD (i + 1) 0)) := at_D (by omega) (by omega)
    have ag : L2.atI (IL gs) (1 + (i : Int) * 1) = some (.int (gs.getD (i + 1) 0)) := at_D (by omega) (by omega)
    have ag0 : L2.atI (IL gs) (1 + (i : Int) * 1 - 1) = some (.int (gs.getD i 0)) := at_D (by omega) (by omega)
    have := hd i (by omega)
    simp! only [f_require_dialed_b2, aq, ag, ag0, hm]
    refine ⟨hr, ?_⟩
    rw [show (gs.getD i 0 - gs.getD (i + 1) 0) % r = gapF r gs i from rfl, if_neg (by omega)]
    exact hk _ ⟨_, _, rfl⟩
def sp_require_dialingN : FSpec := fun ds Q _ => ∃ r qs d ps o gs, ds = [LockD r qs, StateD d ps, .lst o (IL gs)] ∧ LockOk r qs ∧ Chain d qs ps ∧ GatesOk r qs gs ∧ Dl r qs gs ∧ Q .non []
theorem w_require_dialingN {Γ : Sig} (hm : Γ.me = []) (H1 : Has Γ "require_lock" [] sp_require_lock) (H2 : Has Γ "require_state" [] sp_require_state) (H3 : Has Γ "require_gates" [] sp_require_gates) (H4 : Has Γ "require_dialed" [] sp_require_dialedN) (ds : List D) (Q : D → List D → Prop) (R : Exc → Prop) (h : sp_require_dialingN ds Q R) : wpF Γ f_require_dialing ds Q R := by
  obtain ⟨r, qs, d, ps, o, gs, rfl, hlk, hc, hg, hd, q1⟩ := h
  have r2 := hlk.1
  simp! only [wpF_eq, LockD, StateD, f_require_dialing, startE, List.map_cons, List.map_nil, hm, H1.sp, H1.io, H2.sp, H2.io, H3.sp, H3.io, H4.sp, H4.io]
  refine ⟨_, qs, rfl, hlk, rfl, ?_⟩
  simp! only [hm, H1.sp, H1.io, H2.sp, H2.io, H3.sp, H3.io, H4.sp, H4.io]
  refine ⟨_, qs, _, ps, rfl, hc, rfl, ?_⟩
  simp! only [hm, H1.sp, H1.io, H2.sp, H2.io, H3.sp, H3.io, H4.sp, H4.io]
  refine ⟨_, qs, _, gs, rfl, hg, rfl, ?_⟩
  simp! only [hm, H1.sp, H1.io, H2.sp, H2.io, H3.sp, H3.io, H4.sp, H4.io]
  refine ⟨_, qs, _, gs, rfl, by omega, hg.1, hlk.2.2.1, hd, rfl, ?_⟩
  simp! only [hm, H1.sp, H1.io, H2.sp, H2.io, H3.sp, H3.io, H4.sp, H4.io]
  exact q1
def sp_least_turnsN : FSpec := fun ds Q _ => ∃ r qs d ps o gs, ds = [LockD r qs, StateD d ps, .lst o (IL gs)] ∧ LockOk r qs ∧ Chain d qs ps ∧ GatesOk r qs gs ∧ r < 10 ^ 40 ∧ (∀ q ∈ qs, q < 10 ^ 40) ∧ Dl r qs gs ∧ ∀ o ts, LeastT r qs d ps gs ts → Q (.lst o (IL ts)) []
theorem w_least_turnsN {Γ : Sig} (hm : Γ.me = []) (H1 : Has Γ "require_dialing" [] sp_require_dialingN) (H2 : Has Γ "dialings" [] sp_dialings) (H3 : Has Γ "best_turns" [] sp_best_turns) (ds : List D) (Q : D → List D → Prop) (R : Exc → Prop) (h : sp_least_turnsN ds Q R) : wpF Γ f_least_turns ds Q R := by
  obtain ⟨r, qs, d, ps, o, gs, rfl, hlk, hc, hg, hr, hq, hd, q1⟩ := h
  have r2 := hlk.1
  simp! only [wpF_eq, LockD, StateD, f_least_turns, startE, List.map_cons, List.map_nil, hm, H1.sp, H1.io, H2.sp, H2.io, H3.sp, H3.io]
  refine ⟨_, qs, _, ps, _, gs, rfl, hlk, hc, hg, hd, rfl, ?_⟩
  simp! only [hm, H1.sp, H1.io, H2.sp, H2.io, H3.sp, H3.io]
  refine ⟨_, qs, _, ps, _, gs, rfl, hlk, hc, hg.1, hr, hq, fun L hL => ⟨rfl, ?_⟩⟩
  have dl := diF_len (r := r) (qs := qs) (ps := ps) (gs := gs) qs.length
  have n8 := hlk.2.2.1
  simp! only [hL, hm, H1.sp, H1.io, H2.sp, H2.io, H3.sp, H3.io]
  refine ⟨_, _, diF r qs ps gs qs.length, rfl, diF_ne hlk.2.1, by omega, fun S hS => by have := dl.2 S hS; omega, fun o i hi => ⟨rfl, ?_⟩⟩
  exact q1 o _ ⟨i, hi, rfl⟩
def sp_least_wayN : FSpec := fun ds Q _ => ∃ r qs d ps o gs, ds = [LockD r qs, StateD d ps, .lst o (IL gs)] ∧ LockOk r qs ∧ Chain d qs ps ∧ GatesOk r qs gs ∧ r < 10 ^ 40 ∧ (∀ q ∈ qs, q < 10 ^ 40) ∧ Dl r qs gs ∧ ∀ ts, LeastT r qs d ps gs ts → Q (.int (wayT ts)) []
theorem w_least_wayN {Γ : Sig} (hm : Γ.me = []) (H1 : Has Γ "require_dialing" [] sp_require_dialingN) (H2 : Has Γ "dialings" [] sp_dialings) (H3 : Has Γ "best_turns" [] sp_best_turns) (H4 : Has Γ "length_of" [] sp_length_of) (ds : List D) (Q : D → List D → Prop) (R : Exc → Prop) (h : sp_least_wayN ds Q R) : wpF Γ f_least_way ds Q R := by
  obtain ⟨r, qs, d, ps, o, gs, rfl, hlk, hc, hg, hr, hq, hd, q1⟩ := h
  have r2 := hlk.1
  simp! only [wpF_eq, LockD, StateD, f_least_way, startE, List.map_cons, List.map_nil, hm, H1.sp, H1.io, H2.sp, H2.io, H3.sp, H3.io, H4.sp, H4.io]
  refine ⟨_, qs, _, ps, _, gs, rfl, hlk, hc, hg, hd, rfl, ?_⟩
  simp! only [hm, H1.sp, H1.io, H2.sp, H2.io, H3.sp, H3.io, H4.sp, H4.io]
  refine ⟨_, qs, _, ps, _, gs, rfl, hlk, hc, hg.1, hr, hq, fun L hL => ⟨rfl, ?_⟩⟩
  have dl := diF_len (r := r) (qs := qs) (ps := ps) (gs := gs) qs.length
  have n8 := hlk.2.2.1
  simp! only [hL, hm, H1.sp, H1.io, H2.sp, H2.io, H3.sp, H3.io, H4.sp, H4.io]
  refine ⟨_, _, diF r qs ps gs qs.length, rfl, diF_ne hlk.2.1, by omega, fun S hS => by have := dl.2 S hS; omega, fun o i hi => ⟨rfl, ?_⟩⟩
  have lt := least_ok hlk hc hg hd ⟨i, hi, rfl⟩
  simp! only [IL_fz, hm, H1.sp, H1.io, H2.sp, H2.io, H3.sp, H3.io, H4.sp, H4.io]
  refine ⟨_, _, rfl, by have := lt.2.1; omega, rfl, ?_⟩
  exact q1 _ ⟨i, hi, rfl⟩
def sp_lgates0 : FSpec := fun ds Q _ => ∃ b x r qs, ds = [x, LockD r qs, .int 0] ∧ Coil b x ∧ b ≤ 10 ^ 10 ∧ LockOk r qs ∧ r < 10 ^ 38 ∧ (∀ q ∈ qs, q < 10 ^ 39) ∧ ∀ o G y, GatesOk r qs G → Dl r qs G → Coil (b + 60) y → Q (.lst o (IL G)) [y]
theorem w_lgates0 {Γ : Sig} (hm : Γ.me = [0]) (H1 : Has Γ "_law_tap" [true] sp_cdraw) (H2 : Has Γ "_law_pose" [true] sp_past) (ds : List D) (Q : D → List D → Prop) (R : Exc → Prop) (h : sp_lgates0 ds Q R) : wpF Γ f__law_gates_0 ds Q R := by
  obtain ⟨b, x, r, qs, rfl, hx, hb, hlk, hr, hq, q⟩ := h
  have r2 := hlk.1
  have n8 := hlk.2.2.1
  simp! only [wpF_eq, LockD, f__law_gates_0, startE, List.map_cons, List.map_nil, hm, H1.sp, H1.io, H2.sp, H2.io]
  refine ⟨mul_by 4 260 (by decide) (Nat.lt_of_le_of_lt (m := 10 ^ 40) (by omega) (by decide +kernel)) (by decide) (by decide) (by decide), ?_⟩
  refine ⟨_, _, _, rfl, hx, by omega, (by first | decide | omega), (by first | decide | omega | exact lt_wide (by omega)), fun s1 x1 s10 s11 k1 => ⟨rfl, ?_⟩⟩
  simp! only [hm, H1.sp, H1.io, H2.sp, H2.io]
  refine ⟨_, x1, r, qs, _, rfl, k1, by omega, n8, fun p hp => ⟨hlk.2.2.2 p hp, hq p hp⟩, fun ps y hc hy => ⟨rfl, ?_⟩⟩
  have psl := chain_len2 hc
  simp! only [IL_fz, hm, H1.sp, H1.io, H2.sp, H2.io]
  refine lcILa (xs := ps) (fun e => ∃ u5, e = [some y, some (.tup [.int r, .lst false (IL qs)]), some (.int 0), some (.tup [.int s1, .lst false (IL ps)]), none, u5, none]) (fun p => .int (p % r)) ⟨_, rfl⟩ ?_ ?_
  · rintro p hp acc e k ⟨u5, rfl⟩ hla hk
    simp! only [lcStep, hm, H1.sp, H1.io, H2.sp, H2.io]
    exact ⟨by omega, line60 (by omega), hk _ ⟨_, rfl⟩⟩
  · rintro e ⟨u5, rfl⟩
    rw [numL_il]
    obtain ⟨g1, g2⟩ := num_ok (r := r) r2 hc
    simp! only [IL_fz, hm, H1.sp, H1.io, H2.sp, H2.io]
    exact q _ _ _ g1 g2 (hy.mono (by omega))
def sp_lcan : FSpec := fun ds Q _ => ∃ r qs o gs, ds = [LockD r qs, .lst o (IL gs)] ∧ 0 < r ∧ gs.length = qs.length ∧ 1 ≤ qs.length ∧ qs.length ≤ 8 ∧ ∀ b : Bool, (b = true ↔ Dl r qs gs) → Q (.bl b) []
theorem w_lcan {Γ : Sig} (hm : Γ.me = []) (ds : List D) (Q : D → List D → Prop) (R : Exc → Prop) (h : sp_lcan ds Q R) : wpF Γ f__law_can ds Q R := by
  obtain ⟨r, qs, o, gs, rfl, hr, gl, n1, n8, q⟩ := h
  simp! only [wpF_eq, LockD, f__law_can, startE, List.map_cons, List.map_nil, hm]
  refine ⟨by omega, ?_⟩
  rw [show ((gs.length : Int) - 1).toNat = gs.length - 1 by omega]
  refine forRgS (a := 1) (c := 1) (fun i e => ∃ (o1 : Bool) (u2 : Option D), e = [some (.tup [.int r, .lst false (IL qs)]), some (.lst o1 (IL gs)), u2] ∧ ∀ j < i, gapF r gs j ≤ qs.getD (j + 1) 0) ⟨_, _, rfl, fun j hj => absurd hj (Nat.not_lt_zero _)⟩ ?_ ?_
  · rintro e ⟨o1, u2, rfl, h⟩
    simp! only [hm]
    exact q true ⟨fun _ i hi => h i (by omega), fun _ => rfl⟩
  · rintro i e k bk hi ⟨o1, u2, rfl, h⟩ hk _
    have aq : L2.atI (IL qs) (1 + (i : Int) * 1) = some (.int (qs.getD (i + 1) 0)) := at_D (by omega) (by omega)
    have ag : L2.atI (IL gs) (1 + (i : Int) * 1) = some (.int (gs.getD (i + 1) 0)) := at_D (by omega) (by omega)
    have ag0 : L2.atI (IL gs) (1 + (i : Int) * 1 - 1) = some (.int (gs.getD i 0)) := at_D (by omega) (by omega)
    simp! only [f__law_can_b2, aq, ag, ag0, hm]
    refine ⟨hr, ?_⟩
    rw [show (gs.getD i 0 - gs.getD (i + 1) 0) % r = gapF r gs i from rfl]
    split
    · rename_i c
      simp! only [f__law_can_b1, hm]
      exact q false ⟨fun h => (nomatch h), fun h2 => by have := h2 i (by omega); omega⟩
    · rename_i c
      refine hk _ ⟨_, _, rfl, fun j hj => ?_⟩
      by_cases e : j = i
      · rw [e]; omega
      · exact h j (by omega)
def sp_lhas : FSpec := fun ds Q _ => ∃ r qs d ps o gs, ds = [LockD r qs, StateD d ps, .lst o (IL gs)] ∧ 0 < r ∧ ps.length ≤ 60 ∧ Q (.bl (decide (numL r ps = gs))) []
theorem w_lhas {Γ : Sig} (hm : Γ.me = []) (ds : List D) (Q : D → List D → Prop) (R : Exc → Prop) (h : sp_lhas ds Q R) : wpF Γ f__law_has ds Q R := by
  obtain ⟨r, qs, d, ps, o, gs, rfl, hr, hl, q⟩ := h
  simp! only [wpF_eq, LockD, StateD, f__law_has, startE, List.map_cons, List.map_nil, IL_fz, hm]
  refine lcILa (xs := ps) (fun e => ∃ (o2 : Bool) (u3 : Option D), e = [some (.tup [.int r, .lst false (IL qs)]), some (.tup [.int d, .lst false (IL ps)]), some (.lst o2 (IL gs)), u3]) (fun p => .int (p % r)) ⟨_, _, rfl⟩ ?_ ?_
  · rintro p hp acc e k ⟨o2, u3, rfl⟩ hla hk
    simp! only [lcStep, hm]
    exact ⟨hr, line60 (by omega), hk _ ⟨_, _, rfl⟩⟩
  · rintro e ⟨o2, u3, rfl⟩
    rw [numL_il]
    simp! only [hm]
    exact il_eq q
/-- values that may be asked of turns_fault -/
def AskT : D → Prop
  | .lst _ xs => fzL xs = xs ∧ ∀ x ∈ xs, szD x
  | .non => True | .bl _ => True | .int _ => True | .str _ => True | .tup xs => fzL xs = xs | .dct _ _ _ => True
  | _ => False
theorem sa_bd {r : Int} {qs gs : List Int} (hr : 0 < r) (hq : ∀ q ∈ qs, 0 ≤ q) (hd : Dl r qs gs) : ∀ {i : Nat} {pl : Int} {low : Bool}, i < qs.length → ∀ s ∈ saF r qs gs i pl low, pl ≤ s ∧ s ≤ pl + rA qs i
  | 0, _, _, _, s, hs => nomatch hs
  | i + 1, pl, low, hi, s, hs => by
    have g := gapF_bd hr gs i
    have g1 := hd i (by omega)
    have g2 := gapH_bd (qs := qs) hr g1
    have e : rA qs (i + 1) = rA qs i + qs.getD (i + 1) 0 := rA_succ (by omega)
    have ri := rA_ge hq (show i < qs.length by omega)
    have step : ∀ (x : Int) (l : Bool), 0 ≤ x → x ≤ qs.getD (i + 1) 0 → s ∈ saF r qs gs i (pl + x) l → pl ≤ s ∧ s ≤ pl + rA qs (i + 1) := fun x l h0 h1 h => by
      have := sa_bd hr hq hd (show i < qs.length by omega) s h
      omega
    cases low with
    | true =>
      unfold saF at hs
      split at hs
      · rcases List.mem_cons.mp hs with rfl | hs
        · omega
        · exact step _ _ (by omega) (by omega) hs
      · exact step _ _ (by omega) (by omega) hs
    | false =>
      unfold saF at hs
      split at hs
      · rcases List.mem_cons.mp hs with rfl | hs
        · omega
        · exact step _ _ (by omega) (by omega) hs
      · exact step _ _ (by omega) (by omega) hs
theorem di_bd {r : Int} {qs ps gs : List Int} {A B : Int} (hr : 0 < r) (hq : ∀ q ∈ qs, 0 ≤ q) (hd : Dl r qs gs) (hA : ∀ j < qs.length, rA qs j ≤ A) (hB : ∀ j < qs.length, -B ≤ ps.getD j 0 ∧ ps.getD j 0 ≤ B) : ∀ {k : Nat} {S : List Int}, k ≤ qs.length → S ∈ diF r qs ps gs k → ∀ s ∈ S, -(A + B + r) ≤ s ∧ s ≤ A + B + r
  | 0, S, _, hS, s, hs => by
    rw [diF, List.mem_singleton] at hS
    rw [hS] at hs
    cases hs
  | i + 1, S, hk, hS, s, hs => by
    have a1 := hA i (by omega)
    have b1 := hB i (by omega)
    have ri := rA_ge hq (show i < qs.length by omega)
    have m0 := Int.emod_nonneg (gs.getD i 0 - ps.getD i 0 - 1) (show r ≠ 0 by omega)
    have m1 := Int.emod_lt_of_pos (gs.getD i 0 - ps.getD i 0 - 1) hr
    have m2 := Int.emod_nonneg (ps.getD i 0 - gs.getD i 0 - 1) (show r ≠ 0 by omega)
    have m3 := Int.emod_lt_of_pos (ps.getD i 0 - gs.getD i 0 - 1) hr
    have ha : aboveF r (ps.getD i 0) (gs.getD i 0) = ps.getD i 0 + (gs.getD i 0 - ps.getD i 0 - 1) % r + 1 := rfl
    have hb : belowF r (ps.getD i 0) (gs.getD i 0) = ps.getD i 0 - (ps.getD i 0 - gs.getD i 0 - 1) % r - 1 := rfl
    rw [diF] at hS
    rcases List.mem_append.mp hS with hS | hS
    · rcases List.mem_append.mp hS with hS | hS
      · split at hS
        · rw [List.mem_singleton.mp hS] at hs
          rcases List.mem_cons.mp hs with rfl | hs
          · omega
          · have := sa_bd hr hq hd (by omega) s hs
            omega
        · cases hS
      · split at hS
        · rw [List.mem_singleton.mp hS] at hs
          rcases List.mem_cons.mp hs with rfl | hs
          · omega
          · have := sa_bd hr hq hd (by omega) s hs
            omega
        · cases hS
    · split at hS
      · exact di_bd hr hq hd hA hB (by omega) hS s hs
      · cases hS
theorem rA_le {qs : List Int} {A : Int} (hq : ∀ q ∈ qs, 0 ≤ q ∧ q ≤ A) : ∀ {j : Nat}, j < qs.length → rA qs j ≤ A * ((j : Int) + 1)
  | 0, h => by
    cases qs with
    | nil => simp at h
    | cons q qs =>
      have := hq q List.mem_cons_self
      show (sumsS 0 (q :: qs)).getD 0 0 ≤ _
      simp only [sumsS, List.getD_cons_zero]
      omega
  | j + 1, h => by
    have e : rA qs (j + 1) = rA qs j + qs.getD (j + 1) 0 := rA_succ (by omega)
    have := rA_le hq (j := j) (by omega)
    have hm := hq (qs.getD (j + 1) 0) (by rw [List.getD_eq_getElem?_getD, List.getElem?_eq_getElem h, Option.getD_some]; exact List.getElem_mem _)
    rw [e, show A * (((j + 1 : Nat) : Int) + 1) = A * ((j : Int) + 1) + A by rw [Int.mul_add, Int.mul_add]; push_cast; rw [Int.mul_add]; omega]
    omega
/-- the turns of the least way are not great -/
theorem least_bd {r : Int} {qs : List Int} {d : Int} {ps gs ts : List Int} (hlk : LockOk r qs) (hc : Chain d qs ps) (hd : Dl r qs gs) (h : LeastT r qs d ps gs ts) (hr : r < 10 ^ 40) (hq : ∀ q ∈ qs, q < 10 ^ 40) (hdd : d.natAbs ≤ 10 ^ 41) : ∀ t ∈ ts, t.natAbs ≤ 10 ^ 45 := by
  obtain ⟨i, ⟨hi, _, _⟩, rfl⟩ := h
  have r2 := hlk.1
  have n8 := hlk.2.2.1
  have hm : (diF r qs ps gs qs.length).getD i [] ∈ diF r qs ps gs qs.length := by
    rw [List.getD_eq_getElem?_getD, List.getElem?_eq_getElem hi, Option.getD_some]
    exact List.getElem_mem _
  have psl := chain_len2 hc
  have hA : ∀ j < qs.length, rA qs j ≤ 8 * 10 ^ 40 := fun j hj => by
    have := rA_le (A := 10 ^ 40) (fun q h => ⟨hlk.2.2.2 q h, Int.le_of_lt (hq q h)⟩) hj
    omega
  have hB : ∀ j < qs.length, -(10 ^ 42 : Int) ≤ ps.getD j 0 ∧ ps.getD j 0 ≤ 10 ^ 42 := fun j hj => by
    have h1 := chain_bd (B := 10 ^ 40) (by omega) hc (fun q h => Int.le_of_lt (hq q h)) (ps.getD j 0) (by rw [List.getD_eq_getElem?_getD, List.getElem?_eq_getElem (by omega), Option.getD_some]; exact List.getElem_mem _)
    have h2 : (qs.length : Int) * 10 ^ 40 ≤ 8 * 10 ^ 40 := by omega
    omega
  have b := di_bd (by omega) hlk.2.2.2 hd hA hB (Nat.le_refl _) hm
  intro t ht
  have := tto_bd (B := 10 ^ 43) _ d (fun s hs => by have := b s hs; omega) (by omega) t ht
  omega
def IntB (xs : List D) : Prop := ∀ x ∈ xs, ∃ i : Int, x = .int i ∧ i.natAbs ≤ 10 ^ 60
theorem IntB.il {xs : List D} (h : IntB xs) : ∃ as, xs = IL as ∧ ∀ z ∈ as, z.natAbs ≤ 10 ^ 60 := by
  induction xs with
  | nil => exact ⟨[], rfl, fun _ h => nomatch h⟩
  | cons x xs ih =>
    obtain ⟨as, rfl, ha⟩ := ih fun y hy => h y (List.mem_cons_of_mem _ hy)
    obtain ⟨i, rfl, hi⟩ := h x List.mem_cons_self
    refine ⟨i :: as, rfl, fun z hz => ?_⟩
    rcases List.mem_cons.mp hz with rfl | hz
    · exact hi
    · exact ha z hz
theorem IntB.nil : IntB [] := fun _ h => nomatch h
theorem IntB.cons {i : Int} {xs : List D} (h : i.natAbs ≤ 10 ^ 60) (hx : IntB xs) : IntB (.int i :: xs) := fun y hy => by
  rcases List.mem_cons.mp hy with rfl | hy
  · exact ⟨i, rfl, h⟩
  · exact hx y hy
theorem IntB.fz {xs : List D} (h : IntB xs) : fzL xs = xs := by
  obtain ⟨as, rfl, _⟩ := h.il
  exact IL_fz as
/-- values that may be told to be turns -/
def Th (v : D) : Prop := Tx 60 160 v ∧ AskT v.fz
theorem Th.fz {v : D} (h : Th v) : Th v.fz := ⟨h.1.fz, by rw [fz_fz]; exact h.2⟩
def lowF (r g m : Int) : Int := m - (m - g) % r
theorem low_ok {r g m : Int} (hr : 0 < r) : (∃ k, lowF r g m = g + k * r) ∧ (∃ k, lowF r g m + r = g + k * r) ∧ lowF r g m ≤ m ∧ m < lowF r g m + r := by
  have d := Int.mul_ediv_add_emod (m - g) r
  have e0 := Int.emod_nonneg (m - g) (show r ≠ 0 by omega)
  have e1 := Int.emod_lt_of_pos (m - g) hr
  unfold lowF
  refine ⟨⟨(m - g) / r, by rw [Int.mul_comm]; omega⟩, ⟨(m - g) / r + 1, by rw [Int.add_mul, Int.mul_comm]; omega⟩, by omega, by omega⟩
def costA (r : Int) (qs gs : List Int) (d p : Int) : Int := 2 * max d (p + rA qs (qs.length - 1)) - d - p + cst r qs gs (qs.length - 1) true
def costB (r : Int) (qs gs : List Int) (d p : Int) : Int := d + p + rA qs (qs.length - 1) - 2 * min d p + cst r qs gs (qs.length - 1) false
/-- the least cost of the blind dialings -/
def MinB (r : Int) (qs gs : List Int) (d v : Int) : Prop := (∀ k : Int, v ≤ costA r qs gs d (gs.getD (qs.length - 1) 0 + k * r) ∧ v ≤ costB r qs gs d (gs.getD (qs.length - 1) 0 + k * r)) ∧ ∃ k : Int, v = costA r qs gs d (gs.getD (qs.length - 1) 0 + k * r) ∨ v = costB r qs gs d (gs.getD (qs.length - 1) 0 + k * r)
theorem MinB.uniq {r : Int} {qs gs : List Int} {d v w : Int} (h : MinB r qs gs d v) (h' : MinB r qs gs d w) : v = w := by
  obtain ⟨a, k, b⟩ := h
  obtain ⟨a', k', b'⟩ := h'
  have h1 := a k'
  have h2 := a' k
  rcases b with b | b <;> rcases b' with b' | b' <;> omega
theorem mul_step {k r : Int} (hr : 0 < r) : (k ≤ 0 → k * r ≤ 0) ∧ (1 ≤ k → r ≤ k * r) := by
  constructor
  · intro h
    have := Int.mul_le_mul_of_nonneg_right h (show 0 ≤ r by omega)
    rw [Int.zero_mul] at this
    exact this
  · intro h
    have := Int.mul_le_mul_of_nonneg_right h (show 0 ≤ r by omega)
    rw [Int.one_mul] at this
    exact this
theorem sumsS_mul {m : Int} : ∀ (qs : List Int) (a : Int), sumsS (a * m) (qs.map (· * m)) = (sumsS a qs).map (· * m)
  | [], _ => rfl
  | q :: qs, a => by
    simp only [List.map_cons, sumsS]
    rw [← Int.add_mul, sumsS_mul qs (a + q)]
theorem rA_mul {m : Int} (qs : List Int) (i : Nat) : rA (qs.map (· * m)) i = rA qs i * m := by
  unfold rA
  have := sumsS_mul (m := m) qs 0
  rw [Int.zero_mul] at this
  rw [this, getD_mul]
theorem gapF_mul {m r : Int} (hm : 0 < m) (gs : List Int) (i : Nat) : gapF (r * m) (gs.map (· * m)) i = gapF r gs i * m := by
  unfold gapF
  rw [getD_mul, getD_mul, ← Int.sub_mul, Int.mul_comm _ m, Int.mul_comm r m, Int.mul_emod_mul_of_pos _ _ hm, Int.mul_comm]
theorem gapH_mul {m r : Int} (hm : 0 < m) (qs gs : List Int) (i : Nat) : gapH (r * m) (qs.map (· * m)) (gs.map (· * m)) i = gapH r qs gs i * m := by
  unfold gapH
  rw [gapF_mul hm, getD_mul, ← Int.sub_mul, Int.mul_ediv_mul_of_pos_left _ _ hm, Int.add_mul, Int.mul_assoc]
theorem cst_mul {m r : Int} (hm : 0 < m) (qs gs : List Int) : ∀ (i : Nat) (low : Bool), cst (r * m) (qs.map (· * m)) (gs.map (· * m)) i low = cst r qs gs i low * m
  | 0, _ => by simp [cst]
  | i + 1, true => by
    have h1 := cst_mul hm (r := r) qs gs i true
    have h2 := cst_mul hm (r := r) qs gs i false
    simp only [cst, gapF_mul hm, rA_mul, h1, h2]
    by_cases c : 0 < gapF r gs i
    · rw [if_pos c, if_pos (Int.mul_pos c hm), Int.add_mul, Int.add_mul]
    · have : gapF r gs i * m ≤ 0 := by
        have := Int.mul_le_mul_of_nonneg_right (show gapF r gs i ≤ 0 by omega) (show 0 ≤ m by omega)
        rwa [Int.zero_mul] at this
      rw [if_neg c, if_neg (by omega)]
  | i + 1, false => by
    have h1 := cst_mul hm (r := r) qs gs i true
    have h2 := cst_mul hm (r := r) qs gs i false
    simp only [cst, gapH_mul hm, rA_mul, h1, h2, getD_mul]
    by_cases c : gapH r qs gs i < qs.getD (i + 1) 0
    · rw [if_pos c, if_pos (Int.mul_lt_mul_of_pos_right c hm), Int.add_mul, Int.sub_mul]
    · rw [if_neg c, if_neg (fun h => c (Int.lt_of_mul_lt_mul_right h (by omega)))]
theorem MinB.mul {r : Int} {qs gs : List Int} {d v m : Int} (hm : 0 < m) (h : MinB r qs gs d v) : MinB (r * m) (qs.map (· * m)) (gs.map (· * m)) (d * m) (v * m) := by
  have mx : ∀ a b : Int, max (a * m) (b * m) = max a b * m := fun a b => by
    rcases Int.le_total a b with c | c
    · have := Int.mul_le_mul_of_nonneg_right c (show 0 ≤ m by omega)
      rw [show max a b = b by omega]; omega
    · have := Int.mul_le_mul_of_nonneg_right c (show 0 ≤ m by omega)
      rw [show max a b = a by omega]; omega
  have mn : ∀ a b : Int, min (a * m) (b * m) = min a b * m := fun a b => by
    rcases Int.le_total a b with c | c
    · have := Int.mul_le_mul_of_nonneg_right c (show 0 ≤ m by omega)
      rw [show min a b = a by omega]; omega
    · have := Int.mul_le_mul_of_nonneg_right c (show 0 ≤ m by omega)
      rw [show min a b = b by omega]; omega
  have eA : ∀ p, costA (r * m) (qs.map (· * m)) (gs.map (· * m)) (d * m) (p * m) = costA r qs gs d p * m := fun p => by
    unfold costA
    rw [List.length_map, rA_mul, cst_mul hm, ← Int.add_mul, mx, Int.add_mul, Int.sub_mul, Int.sub_mul, Int.mul_assoc]
  have eB : ∀ p, costB (r * m) (qs.map (· * m)) (gs.map (· * m)) (d * m) (p * m) = costB r qs gs d p * m := fun p => by
    unfold costB
    rw [List.length_map, rA_mul, cst_mul hm, mn, Int.add_mul, Int.sub_mul, Int.add_mul, Int.add_mul, Int.mul_assoc]
  have pk : ∀ k : Int, (gs.map (· * m)).getD ((qs.map (· * m)).length - 1) 0 + k * (r * m) = (gs.getD (qs.length - 1) 0 + k * r) * m := fun k => by
    rw [List.length_map, getD_mul, Int.add_mul, Int.mul_assoc]
  obtain ⟨a, k, b⟩ := h
  refine ⟨fun k => ?_, k, ?_⟩
  · rw [pk k, eA, eB]
    exact ⟨Int.mul_le_mul_of_nonneg_right (a k).1 (by omega), Int.mul_le_mul_of_nonneg_right (a k).2 (by omega)⟩
  · rw [pk k, eA, eB]
    rcases b with b | b
    · exact .inl (by rw [← b])
    · exact .inr (by rw [← b])
theorem Dl_mul {r : Int} {qs gs : List Int} {m : Int} (hm : 0 < m) (h : Dl r qs gs) : Dl (r * m) (qs.map (· * m)) (gs.map (· * m)) := fun i hi => by
  rw [List.length_map] at hi
  rw [gapF_mul hm, getD_mul]
  exact Int.mul_le_mul_of_nonneg_right (h i hi) (by omega)
theorem nd_len : ∀ {ms lo : List Int}, ms.Nodup → (∀ k ∈ ms, k ∈ lo) → ms.length ≤ lo.length
  | [], _, _, _ => Nat.zero_le _
  | x :: ms, lo, hn, hs => by
    obtain ⟨h1, h2⟩ := List.nodup_cons.mp hn
    have := nd_len (ms := ms) (lo := lo.erase x) h2 fun k hk => (List.mem_erase_of_ne (fun e => h1 (by rw [← e]; exact hk))).mpr (hs k (List.mem_cons_of_mem _ hk))
    have hx := hs x List.mem_cons_self
    rw [List.length_erase_of_mem hx] at this
    have := List.length_pos_of_mem hx
    rw [List.length_cons]
    omega
theorem up_len {lo ms : List Int} (hp : ms.Pairwise (· < ·)) (hs : ∀ k ∈ ms, k ∈ lo) : ms.length ≤ lo.length := nd_len (hp.imp fun h e => by omega) hs
theorem minL_of {o : Bool} {xs : List Int} {m : Int} {Q : D → Prop} (h : m ∈ xs) (h2 : ∀ y ∈ xs, m ≤ y) (q : Q (.int m)) : biD .minL [.lst o (IL xs)] Q := by
  refine ⟨xs, intsD_ILq xs, List.length_pos_of_mem h, fun v hv1 hv2 => ?_⟩
  have e : v = m := by
    have := h2 v hv1
    have := hv2 m h
    omega
  rw [e]
  exact q
def sp_lgaps : FSpec := fun ds Q _ => ∃ r qs o gs i, ds = [LockD r qs, .lst o (IL gs), .int ((i : Nat) + 1)] ∧ 0 < r ∧ r < 10 ^ 40 ∧ i + 1 < qs.length ∧ i + 1 < gs.length ∧ (∀ q ∈ qs, 0 ≤ q ∧ q < 10 ^ 40) ∧ gapF r gs i ≤ qs.getD (i + 1) 0 ∧ ∀ L, L.length ≤ 4 → (∀ x, x ∈ L ↔ (x = gapF r gs i ∨ x = gapF r gs i + r ∨ x = gapH r qs gs i - r ∨ x = gapH r qs gs i) ∧ gapF r gs i ≤ x ∧ x ≤ gapH r qs gs i) → Q (.lst true (IL L)) []
theorem w_lgaps {Γ : Sig} (hm : Γ.me = []) (ds : List D) (Q : D → List D → Prop) (R : Exc → Prop) (h : sp_lgaps ds Q R) : wpF Γ f__law_gaps ds Q R := by
  obtain ⟨r, qs, o, gs, i, rfl, hr, hr4, hi, hi2, hq, hdl, q⟩ := h
  have aq : L2.atI (IL qs) ((i : Int) + 1) = some (.int (qs.getD (i + 1) 0)) := at_D (i := i + 1) (by omega) (by omega)
  have ag : L2.atI (IL gs) ((i : Int) + 1) = some (.int (gs.getD (i + 1) 0)) := at_D (i := i + 1) (by omega) (by omega)
  have ag0 : L2.atI (IL gs) ((i : Int) + 1 - 1) = some (.int (gs.getD i 0)) := at_D (i := i) (by omega) (by omega)
  have qb := hq _ (getD_in (xs := qs) (j := i + 1) hi)
  have gb := gapF_bd hr gs i
  simp! only [wpF_eq, LockD, f__law_gaps, startE, List.map_cons, List.map_nil, aq, ag, ag0, hm]
  refine ⟨hr, ?_⟩
  rw [show (gs.getD i 0 - gs.getD (i + 1) 0) % r = gapF r gs i from rfl]
  have zb : ((qs.getD (i + 1) 0 - gapF r gs i) / r).natAbs ≤ 10 ^ 41 := by
    have h1 := Int.ediv_mul_le (qs.getD (i + 1) 0 - gapF r gs i) (show r ≠ 0 by omega)
    have h2 : 0 ≤ (qs.getD (i + 1) 0 - gapF r gs i) / r := Int.ediv_nonneg (by omega) (by omega)
    have := Int.mul_le_mul_of_nonneg_left (show 1 ≤ r by omega) h2
    omega
  refine ⟨div_by hr (by omega), mul_by 140 140 (Nat.lt_of_le_of_lt zb (by decide +kernel)) (Nat.lt_of_le_of_lt (m := 10 ^ 40) (by omega) (by decide +kernel)) (by decide) (by decide) (by decide), ?_⟩
  rw [show gapF r gs i + (qs.getD (i + 1) 0 - gapF r gs i) / r * r = gapH r qs gs i from rfl]
  refine ⟨_, rfl, by simp, fun ms hp hms => ?_⟩
  rw [show List.map D.int ms = IL ms from rfl]
  have lm : ms.length ≤ 4 := up_len hp fun k hk => (hms k).mp hk
  simp! only [IL_fz, hm]
  refine lcIL (xs := ms) (fun e => ∃ u7, e = [some (.tup [.int r, .lst false (IL qs)]), some (.lst o (IL gs)), some (.int ((i : Int) + 1)), some (.int r), some (.int (qs.getD (i + 1) 0)), some (.int (gapF r gs i)), some (.int (gapH r qs gs i)), u7]) (fun x => decide (gapF r gs i ≤ x) && decide (x ≤ gapH r qs gs i)) D.int ⟨_, rfl⟩ ?_ ?_
  · rintro x hx acc e k ⟨u7, rfl⟩ hla hk
    have hk2 := hk [some (.tup [.int r, .lst false (IL qs)]), some (.lst o (IL gs)), some (.int ((i : Int) + 1)), some (.int r), some (.int (qs.getD (i + 1) 0)), some (.int (gapF r gs i)), some (.int (gapH r qs gs i)), none] ⟨_, rfl⟩
    simp! only [lcStep, hm]
    by_cases c1 : gapF r gs i ≤ x
    · rw [if_pos c1]
      by_cases c2 : x ≤ gapH r qs gs i
      · rw [if_pos c2]
        rw [decide_eq_true c1, decide_eq_true c2, Bool.and_true, if_pos rfl] at hk2
        exact ⟨line60 (by omega), hk2⟩
      · rw [if_neg c2]
        rw [decide_eq_false c2, Bool.and_false, if_neg (by decide)] at hk2
        exact hk2
    · rw [if_neg c1]
      rw [decide_eq_false c1, Bool.false_and, if_neg (by decide)] at hk2
      exact hk2
  · rintro e ⟨u7, rfl⟩
    refine q _ (Nat.le_trans (List.length_filter_le _ _) lm) fun x => ?_
    rw [List.mem_filter, hms x, Bool.and_eq_true, decide_eq_true_eq, decide_eq_true_eq]
    simp only [List.mem_cons, List.not_mem_nil, or_false]
/-- the costs over all of these gaps are those over the nearest and the farthest one -/
def fNear (r : Int) (qs gs : List Int) (i : Nat) (g : Int) : Int := if g = 0 then cst r qs gs i true else g + rA qs i + cst r qs gs i false
def fFar (r : Int) (qs gs : List Int) (i : Nat) (g : Int) : Int := if g = qs.getD (i + 1) 0 then cst r qs gs i false else rA qs (i + 1) - g + cst r qs gs i true
theorem gaps_cost {r : Int} {qs gs : List Int} (hr : 0 < r) (hq : ∀ q ∈ qs, 0 ≤ q) (hd : Dl r qs gs) {i : Nat} (hi : i + 1 < qs.length) {L : List Int} (hL : ∀ x, x ∈ L ↔ (x = gapF r gs i ∨ x = gapF r gs i + r ∨ x = gapH r qs gs i - r ∨ x = gapH r qs gs i) ∧ gapF r gs i ≤ x ∧ x ≤ gapH r qs gs i) :
    (cst r qs gs (i + 1) true ∈ L.map (fNear r qs gs i) ∧ ∀ v ∈ L.map (fNear r qs gs i), cst r qs gs (i + 1) true ≤ v) ∧ (cst r qs gs (i + 1) false ∈ L.map (fFar r qs gs i) ∧ ∀ v ∈ L.map (fFar r qs gs i), cst r qs gs (i + 1) false ≤ v) := by
  have g := gapF_bd hr gs i
  have g1 := hd i (by omega)
  have g2 := gapH_bd (qs := qs) hr g1
  have e : rA qs (i + 1) = rA qs i + qs.getD (i + 1) 0 := rA_succ (by omega)
  have ri := rA_ge hq (show i < qs.length by omega)
  have xy := cst_xy hr hq hd (show i < qs.length by omega)
  refine ⟨⟨List.mem_map.mpr ⟨gapF r gs i, (hL _).mpr ⟨.inl rfl, by omega, by omega⟩, ?_⟩, fun v hv => ?_⟩, List.mem_map.mpr ⟨gapH r qs gs i, (hL _).mpr ⟨.inr (.inr (.inr rfl)), by omega, by omega⟩, ?_⟩, fun v hv => ?_⟩
  · simp only [fNear, cst]
    by_cases c : gapF r gs i = 0
    · rw [if_pos c, if_neg (by omega)]
    · rw [if_neg c, if_pos (by omega)]
  · obtain ⟨x, hx, rfl⟩ := List.mem_map.mp hv
    obtain ⟨_, h1, h2⟩ := (hL x).mp hx
    simp only [fNear, cst]
    split <;> split <;> omega
  · simp only [fFar, cst]
    by_cases c : gapH r qs gs i = qs.getD (i + 1) 0
    · rw [if_pos c, if_neg (by omega)]
    · rw [if_neg c, if_pos (by omega)]
  · obtain ⟨x, hx, rfl⟩ := List.mem_map.mp hv
    obtain ⟨_, h1, h2⟩ := (hL x).mp hx
    simp only [fFar, cst]
    split <;> split <;> omega
theorem lock_mul {r : Int} {qs : List Int} {m : Int} (hm : 0 < m) (h : LockOk r qs) : LockOk (r * m) (qs.map (· * m)) := by
  have h2 := Int.mul_le_mul_of_nonneg_left (show 1 ≤ m by omega) (show 0 ≤ r by have := h.1; omega)
  refine ⟨by have := h.1; omega, by rw [List.length_map]; exact h.2.1, by rw [List.length_map]; exact h.2.2.1, fun p hp => ?_⟩
  obtain ⟨q, hq, rfl⟩ := List.mem_map.mp hp
  exact Int.mul_nonneg (h.2.2.2 q hq) (by omega)
theorem gates_mul {r : Int} {qs gs : List Int} {m : Int} (hm : 0 < m) (h : GatesOk r qs gs) : GatesOk (r * m) (qs.map (· * m)) (gs.map (· * m)) := by
  refine ⟨by rw [List.length_map, List.length_map]; exact h.1, fun g hg => ?_⟩
  obtain ⟨x, hx, rfl⟩ := List.mem_map.mp hg
  exact ⟨Int.mul_nonneg (h.2 x hx).1 (by omega), Int.mul_lt_mul_of_pos_right (h.2 x hx).2 hm⟩
theorem IL_mulmap (xs : List Int) (m : Int) : xs.map (fun x => D.int (x * m)) = IL (xs.map (· * m)) := by unfold IL; rw [List.map_map]; rfl
theorem mul_lt {x m : Int} (h : x < 10 ^ 38) (h0 : 0 ≤ x) (m0 : 0 ≤ m) (m1 : m ≤ 20) : x * m < 10 ^ 40 := by
  have := Int.mul_le_mul_of_nonneg_left m1 h0
  omega
/-- a cost: by how many last wheels stay, and by where the next one is set -/
def CandL (r : Int) (qs gs : List Int) (d : Int) (ps : List Int) (c : Int) : Prop :=
  (c = 0 ∧ ∀ j < qs.length, (ps.getD j 0 - gs.getD j 0) % r = 0) ∨
  ∃ i < qs.length, (∀ j, i < j → j < qs.length → (ps.getD j 0 - gs.getD j 0) % r = 0) ∧ ∃ k : Int, (i + 1 = qs.length ∨ (0 ≤ gs.getD i 0 + k * r - ps.getD (i + 1) 0 ∧ gs.getD i 0 + k * r - ps.getD (i + 1) 0 ≤ qs.getD (i + 1) 0)) ∧
    ((gs.getD i 0 + k * r < ps.getD i 0 ∧ c = d - (gs.getD i 0 + k * r) + cst r qs gs i true) ∨ (ps.getD i 0 < gs.getD i 0 + k * r ∧ c = gs.getD i 0 + k * r + rA qs i - d + cst r qs gs i false))
def MinL (r : Int) (qs gs : List Int) (d : Int) (ps : List Int) (v : Int) : Prop := CandL r qs gs d ps v ∧ ∀ c, CandL r qs gs d ps c → v ≤ c
theorem MinL.uniq {r : Int} {qs gs : List Int} {d : Int} {ps : List Int} {v w : Int} (h : MinL r qs gs d ps v) (h' : MinL r qs gs d ps w) : v = w := by
  have := h.2 w h'.1
  have := h'.2 v h.1
  omega
theorem cst_nn {r : Int} {qs gs : List Int} (hr : 0 < r) (hq : ∀ q ∈ qs, 0 ≤ q) (hd : Dl r qs gs) {i : Nat} {low : Bool} (hi : i < qs.length) : 0 ≤ cst r qs gs i low := by
  rw [← cst_sa (pl := 0) (low := low) hr hq hd hi]
  exact (wayS_ge _ _ 0).1
theorem CandL.nn {r : Int} {qs gs : List Int} {d : Int} {ps : List Int} {c : Int} (hr : 0 < r) (hq : ∀ q ∈ qs, 0 ≤ q) (hd : Dl r qs gs) (hc : Chain d qs ps) (h : CandL r qs gs d ps c) : 0 ≤ c := by
  rcases h with ⟨rfl, _⟩ | ⟨i, hi, _, k, _, h⟩
  · exact Int.le_refl 0
  · have a := chain_at0 (a := 0) hc hq hi
    have e : (sumsS 0 qs).getD i 0 = rA qs i := rfl
    have c1 := cst_nn (low := true) hr hq hd hi
    have c2 := cst_nn (low := false) hr hq hd hi
    rcases h with ⟨h1, h2⟩ | ⟨h1, h2⟩ <;> omega
theorem way_above {r : Int} {qs gs ps : List Int} {d p : Int} {i : Nat} (hr : 0 < r) (hq : ∀ q ∈ qs, 0 ≤ q) (hd : Dl r qs gs) (hc : Chain d qs ps) (hi : i < qs.length) (h : ps.getD i 0 < p) : wayT (tto d ((p + rA qs i) :: saF r qs gs i p false)) = p + rA qs i - d + cst r qs gs i false := by
  have a := chain_at0 (a := 0) hc hq hi
  have e : (sumsS 0 qs).getD i 0 = rA qs i := rfl
  have c := cst_sa (pl := p) (low := false) hr hq hd hi
  rw [if_neg (by decide)] at c
  rw [← wayS_tto]
  simp only [wayS]
  rw [c]
  omega
theorem way_below {r : Int} {qs gs ps : List Int} {d p : Int} {i : Nat} (hr : 0 < r) (hq : ∀ q ∈ qs, 0 ≤ q) (hd : Dl r qs gs) (hc : Chain d qs ps) (hi : i < qs.length) (h : p < ps.getD i 0) : wayT (tto d (p :: saF r qs gs i p true)) = d - p + cst r qs gs i true := by
  have a := chain_at0 (a := 0) hc hq hi
  have c := cst_sa (pl := p) (low := true) hr hq hd hi
  rw [if_pos rfl] at c
  rw [← wayS_tto]
  simp only [wayS]
  rw [c]
  omega
theorem di_lift {r : Int} {qs ps gs S : List Int} {i : Nat} : ∀ {k : Nat}, i ≤ k → (∀ j, i ≤ j → j < k → (ps.getD j 0 - gs.getD j 0) % r = 0) → S ∈ diF r qs ps gs i → S ∈ diF r qs ps gs k
  | 0, hik, _, hS => by rw [show i = 0 by omega] at hS; exact hS
  | k + 1, hik, hs, hS => by
    by_cases c : i = k + 1
    · rw [← c]; exact hS
    · unfold diF
      refine List.mem_append_right _ ?_
      rw [if_pos (hs k (by omega) (by omega))]
      exact di_lift (by omega) (fun j h1 h2 => hs j h1 (by omega)) hS
theorem di_cand {r : Int} {qs ps gs : List Int} {d : Int} (hr : 0 < r) (hq : ∀ q ∈ qs, 0 ≤ q) (hd : Dl r qs gs) (hc : Chain d qs ps) : ∀ {k : Nat} {S : List Int}, k ≤ qs.length → (∀ j, k ≤ j → j < qs.length → (ps.getD j 0 - gs.getD j 0) % r = 0) → S ∈ diF r qs ps gs k → CandL r qs gs d ps (wayT (tto d S))
  | 0, S, _, hs, hS => by
    rw [List.mem_singleton.mp hS]
    exact .inl ⟨rfl, fun j hj => hs j (Nat.zero_le _) hj⟩
  | i + 1, S, hk, hs, hS => by
    have ri := rA_ge hq (show i < qs.length by omega)
    obtain ⟨ab1, ka, ab2⟩ := above_ok (p := ps.getD i 0) (g := gs.getD i 0) hr
    obtain ⟨be1, kb, be2⟩ := below_ok (p := ps.getD i 0) (g := gs.getD i 0) hr
    unfold diF at hS
    rcases List.mem_append.mp hS with hS | hS
    · rcases List.mem_append.mp hS with hS | hS
      · split at hS
        · rename_i c
          rw [List.mem_singleton.mp hS, way_above hr hq hd hc (by omega) ab1]
          refine .inr ⟨i, by omega, fun j h1 h2 => hs j (by omega) h2, ka, ?_, .inr ⟨by omega, by rw [ab2]⟩⟩
          rcases c with c | c
          · exact .inl c
          · rw [← ab2]
            by_cases ci : i + 1 = qs.length
            · exact .inl ci
            · have b := chain_ix (a := 0) hc hq (show i < i + 1 by omega) (show i + 1 < qs.length by omega)
              exact .inr ⟨by omega, c⟩
        · cases hS
      · split at hS
        · rename_i c
          rw [List.mem_singleton.mp hS, way_below hr hq hd hc (by omega) be1]
          refine .inr ⟨i, by omega, fun j h1 h2 => hs j (by omega) h2, kb, ?_, .inl ⟨by omega, by rw [be2]⟩⟩
          rcases c with c | c
          · exact .inl c
          · rw [← be2]
            by_cases ci : i + 1 = qs.length
            · exact .inl ci
            · have b := chain_ix (a := 0) hc hq (show i < i + 1 by omega) (show i + 1 < qs.length by omega)
              have e : (sumsS 0 qs).getD (i + 1) 0 = (sumsS 0 qs).getD i 0 + qs.getD (i + 1) 0 := rA_succ (by omega)
              exact .inr ⟨by omega, by omega⟩
        · cases hS
    · split at hS
      · rename_i c
        exact di_cand hr hq hd hc (by omega) (fun b h1 h2 => by
          by_cases cb : b = i
          · rw [cb]; exact c
          · exact hs b (by omega) h2) hS
      · cases hS
/-- the nearest numbers are the best -/
theorem cand_di {r : Int} {qs ps gs : List Int} {d c : Int} (hr : 0 < r) (hq : ∀ q ∈ qs, 0 ≤ q) (hd : Dl r qs gs) (hc : Chain d qs ps) (h : CandL r qs gs d ps c) : ∃ S ∈ diF r qs ps gs qs.length, wayT (tto d S) ≤ c := by
  rcases h with ⟨rfl, h⟩ | ⟨i, hi, hs, k, hf, h⟩
  · refine ⟨[], di_lift (i := 0) (Nat.zero_le _) (fun j _ h2 => h j h2) (by unfold diF; simp), ?_⟩
    exact Int.le_refl 0
  · have up : ∀ S, S ∈ diF r qs ps gs (i + 1) → S ∈ diF r qs ps gs qs.length := fun S hS => di_lift (by omega) (fun j h1 h2 => hs j (by omega) h2) hS
    have m0 := Int.emod_nonneg (gs.getD i 0 - ps.getD i 0 - 1) (show r ≠ 0 by omega)
    have m1 := Int.emod_lt_of_pos (gs.getD i 0 - ps.getD i 0 - 1) hr
    have m2 := Int.emod_nonneg (ps.getD i 0 - gs.getD i 0 - 1) (show r ≠ 0 by omega)
    have m3 := Int.emod_lt_of_pos (ps.getD i 0 - gs.getD i 0 - 1) hr
    obtain ⟨ab1, ka, ab2⟩ := above_ok (p := ps.getD i 0) (g := gs.getD i 0) hr
    obtain ⟨be1, kb, be2⟩ := below_ok (p := ps.getD i 0) (g := gs.getD i 0) hr
    have ha : aboveF r (ps.getD i 0) (gs.getD i 0) = ps.getD i 0 + (gs.getD i 0 - ps.getD i 0 - 1) % r + 1 := rfl
    have hb : belowF r (ps.getD i 0) (gs.getD i 0) = ps.getD i 0 - (ps.getD i 0 - gs.getD i 0 - 1) % r - 1 := rfl
    rcases h with ⟨h1, h2⟩ | ⟨h1, h2⟩
    · have le : gs.getD i 0 + k * r ≤ belowF r (ps.getD i 0) (gs.getD i 0) := by
        have s := mul_step (k := k - kb) hr
        rw [Int.sub_mul] at s
        by_cases c : k - kb ≤ 0
        · have := s.1 c; omega
        · have := s.2 (by omega); omega
      refine ⟨belowF r (ps.getD i 0) (gs.getD i 0) :: saF r qs gs i (belowF r (ps.getD i 0) (gs.getD i 0)) true, up _ ?_, ?_⟩
      · unfold diF
        refine List.mem_append_left _ (List.mem_append_right _ ?_)
        rw [if_pos (by rcases hf with hf | hf; exact .inl hf; exact .inr (by omega))]
        exact List.mem_singleton.mpr rfl
      · rw [way_below hr hq hd hc hi be1]; omega
    · have le : aboveF r (ps.getD i 0) (gs.getD i 0) ≤ gs.getD i 0 + k * r := by
        have s := mul_step (k := ka - k) hr
        rw [Int.sub_mul] at s
        by_cases c : ka - k ≤ 0
        · have := s.1 c; omega
        · have := s.2 (by omega); omega
      refine ⟨(aboveF r (ps.getD i 0) (gs.getD i 0) + rA qs i) :: saF r qs gs i (aboveF r (ps.getD i 0) (gs.getD i 0)) false, up _ ?_, ?_⟩
      · unfold diF
        refine List.mem_append_left _ (List.mem_append_left _ ?_)
        rw [if_pos (by rcases hf with hf | hf; exact .inl hf; exact .inr (by omega))]
        exact List.mem_singleton.mpr rfl
      · rw [way_above hr hq hd hc hi ab1]; omega
theorem least_min {r : Int} {qs : List Int} {d : Int} {ps gs ts : List Int} (hlk : LockOk r qs) (hc : Chain d qs ps) (hd : Dl r qs gs) (h : LeastT r qs d ps gs ts) : MinL r qs gs d ps (wayT ts) := by
  obtain ⟨i, ⟨hi, hmin, _⟩, rfl⟩ := h
  have r2 := hlk.1
  have hq := hlk.2.2.2
  have hm : (diF r qs ps gs qs.length).getD i [] ∈ diF r qs ps gs qs.length := by
    rw [List.getD_eq_getElem?_getD, List.getElem?_eq_getElem hi, Option.getD_some]
    exact List.getElem_mem _
  refine ⟨di_cand (by omega) hq hd hc (Nat.le_refl _) (fun j h1 h2 => by omega) hm, fun c hc2 => ?_⟩
  obtain ⟨S, hS, hle⟩ := cand_di (by omega) hq hd hc hc2
  obtain ⟨j, hj, rfl⟩ := List.getElem_of_mem hS
  have := hmin j hj
  rw [List.getD_eq_getElem?_getD (l := diF r qs ps gs qs.length) (i := j), List.getElem?_eq_getElem hj, Option.getD_some] at this
  omega
theorem mod_mul0 {a r m : Int} (hm : 0 < m) : (a * m) % (r * m) = 0 ↔ a % r = 0 := by
  rw [Int.mul_comm a m, Int.mul_comm r m, Int.mul_emod_mul_of_pos _ _ hm]
  constructor
  · intro h
    rcases Int.mul_eq_zero.mp h with h | h
    · omega
    · exact h
  · intro h
    rw [h, Int.mul_zero]
theorem CandL.mul {r : Int} {qs gs : List Int} {d : Int} {ps : List Int} {c m : Int} (hm : 0 < m) (h : CandL r qs gs d ps c) : CandL (r * m) (qs.map (· * m)) (gs.map (· * m)) (d * m) (ps.map (· * m)) (c * m) := by
  have mm : ∀ {a b : Int}, a < b → a * m < b * m := fun h => Int.mul_lt_mul_of_pos_right h hm
  have ml : ∀ {a b : Int}, a ≤ b → a * m ≤ b * m := fun h => Int.mul_le_mul_of_nonneg_right h (by omega)
  have pk : ∀ (k : Int) (i : Nat), (gs.map (· * m)).getD i 0 + k * (r * m) = (gs.getD i 0 + k * r) * m := fun k i => by rw [getD_mul, Int.add_mul, Int.mul_assoc]
  unfold CandL
  rw [List.length_map]
  rcases h with ⟨rfl, h⟩ | ⟨i, hi, hs, k, hf, h⟩
  · refine .inl ⟨Int.zero_mul m, fun j hj => ?_⟩
    rw [getD_mul, getD_mul, ← Int.sub_mul]
    exact (mod_mul0 hm).mpr (h j hj)
  · refine .inr ⟨i, hi, fun j h1 h2 => ?_, k, ?_, ?_⟩
    · rw [getD_mul, getD_mul, ← Int.sub_mul]
      exact (mod_mul0 hm).mpr (hs j h1 h2)
    · rcases hf with hf | ⟨h1, h2⟩
      · exact .inl hf
      · rw [pk, getD_mul, getD_mul, ← Int.sub_mul]
        exact .inr ⟨Int.mul_nonneg h1 (by omega), ml h2⟩
    · rw [pk, getD_mul, rA_mul, cst_mul hm, cst_mul hm]
      rcases h with ⟨h1, rfl⟩ | ⟨h1, rfl⟩
      · exact .inl ⟨mm h1, by rw [Int.add_mul, Int.sub_mul]⟩
      · exact .inr ⟨mm h1, by rw [Int.add_mul, Int.sub_mul, Int.add_mul]⟩
theorem CandL.unmul {r : Int} {qs gs : List Int} {d : Int} {ps : List Int} {c m : Int} (hm : 0 < m) (h : CandL (r * m) (qs.map (· * m)) (gs.map (· * m)) (d * m) (ps.map (· * m)) c) : ∃ c', c = c' * m ∧ CandL r qs gs d ps c' := by
  have mm : ∀ {a b : Int}, a * m < b * m → a < b := fun h => Int.lt_of_mul_lt_mul_right h (by omega)
  have ml : ∀ {a b : Int}, a * m ≤ b * m → a ≤ b := fun h => Int.le_of_mul_le_mul_right h hm
  have pk : ∀ (k : Int) (i : Nat), (gs.map (· * m)).getD i 0 + k * (r * m) = (gs.getD i 0 + k * r) * m := fun k i => by rw [getD_mul, Int.add_mul, Int.mul_assoc]
  unfold CandL at h
  rw [List.length_map] at h
  rcases h with ⟨rfl, h⟩ | ⟨i, hi, hs, k, hf, h⟩
  · refine ⟨0, (Int.zero_mul m).symm, .inl ⟨rfl, fun j hj => ?_⟩⟩
    have := h j hj
    rw [getD_mul, getD_mul, ← Int.sub_mul] at this
    exact (mod_mul0 hm).mp this
  · have hs' : ∀ j, i < j → j < qs.length → (ps.getD j 0 - gs.getD j 0) % r = 0 := fun j h1 h2 => by
      have := hs j h1 h2
      rw [getD_mul, getD_mul, ← Int.sub_mul] at this
      exact (mod_mul0 hm).mp this
    have hf' : i + 1 = qs.length ∨ (0 ≤ gs.getD i 0 + k * r - ps.getD (i + 1) 0 ∧ gs.getD i 0 + k * r - ps.getD (i + 1) 0 ≤ qs.getD (i + 1) 0) := by
      rcases hf with hf | ⟨h1, h2⟩
      · exact .inl hf
      · rw [pk, getD_mul, ← Int.sub_mul] at h1 h2
        rw [getD_mul] at h2
        exact .inr ⟨ml (by rw [Int.zero_mul]; exact h1), ml h2⟩
    rw [pk, getD_mul, rA_mul, cst_mul hm, cst_mul hm] at h
    rcases h with ⟨h1, rfl⟩ | ⟨h1, rfl⟩
    · exact ⟨_, by rw [← Int.sub_mul, ← Int.add_mul], .inr ⟨i, hi, hs', k, hf', .inl ⟨mm h1, rfl⟩⟩⟩
    · exact ⟨_, by rw [← Int.add_mul, ← Int.sub_mul, ← Int.add_mul], .inr ⟨i, hi, hs', k, hf', .inr ⟨mm h1, rfl⟩⟩⟩
theorem MinL.mul {r : Int} {qs gs : List Int} {d : Int} {ps : List Int} {v m : Int} (hm : 0 < m) (h : MinL r qs gs d ps v) : MinL (r * m) (qs.map (· * m)) (gs.map (· * m)) (d * m) (ps.map (· * m)) (v * m) := by
  refine ⟨h.1.mul hm, fun c hc => ?_⟩
  obtain ⟨c', rfl, hc'⟩ := hc.unmul hm
  exact Int.mul_le_mul_of_nonneg_right (h.2 c' hc') (by omega)
def sp_lahead29 : FSpec := fun ds Q _ => ∃ r qs o gs o2, ds = [LockD r qs, .lst o (IL gs), .lst o2 (IL (sumsS 0 qs))] ∧ LockOk r qs ∧ gs.length = qs.length ∧ r < 10 ^ 40 ∧ (∀ q ∈ qs, q < 10 ^ 40) ∧ Dl r qs gs ∧ Q (.lst true ((List.range qs.length).map fun i => D.tup [.int (cst r qs gs i true), .int (cst r qs gs i false)])) []
theorem w_lahead29 {Γ : Sig} (hm : Γ.me = []) (H1 : Has Γ "_law_gaps" [] sp_lgaps) (ds : List D) (Q : D → List D → Prop) (R : Exc → Prop) (h : sp_lahead29 ds Q R) : wpF Γ f__law_ahead_0 ds Q R := by
  obtain ⟨r, qs, o, gs, o2, rfl, hlk, gl, hr, hq, hd, q⟩ := h
  have r2 := hlk.1
  have n1 := hlk.2.1
  have n8 := hlk.2.2.1
  have hq0 := hlk.2.2.2
  obtain ⟨cD, hcD⟩ : ∃ cD : Nat → D, cD = fun i => D.tup [.int (cst r qs gs i true), .int (cst r qs gs i false)] := ⟨_, rfl⟩
  rw [← hcD] at q
  simp! only [wpF_eq, LockD, f__law_ahead_0, startE, List.map_cons, List.map_nil, hm, H1.sp, H1.io]
  refine ⟨by omega, ?_⟩
  rw [show ((gs.length : Int) - 1).toNat = gs.length - 1 by omega]
  refine forRgS (a := 1) (c := 1) (fun i e => ∃ (o1 o3 : Bool) (u4 u5 u6 u7 u8 u9 u10 u11 u12 : Option D), e = [some (.tup [.int r, .lst false (IL qs)]), some (.lst o1 (IL gs)), some (.lst o3 (IL (sumsS 0 qs))), some (.lst true ((List.range (i + 1)).map cD)), u4, u5, u6, u7, u8, u9, u10, u11, u12]) ⟨_, _, _, _, _, _, _, _, _, _, _, by rw [hcD]; rfl⟩ ?_ ?_
  · rintro e ⟨o1, o3, u4, u5, u6, u7, u8, u9, u10, u11, u12, rfl⟩
    rw [show gs.length - 1 + 1 = qs.length by omega]
    simp! only [hm, H1.sp, H1.io]
    exact q
  · rintro i e k bk hi ⟨o1, o3, u4, u5, u6, u7, u8, u9, u10, u11, u12, rfl⟩ hk _
    have sl := sumsS_len qs 0
    have e1 : (1 : Int) + (i : Int) * 1 = (i : Int) + 1 := by omega
    have as1 : L2.atI (IL (sumsS 0 qs)) ((i : Int) + 1) = some (.int (rA qs (i + 1))) := at_D (i := i + 1) (by omega) (by omega)
    have as0 : L2.atI (IL (sumsS 0 qs)) ((i : Int) + 1 - 1) = some (.int (rA qs i)) := at_D (i := i) (by omega) (by omega)
    have aq : L2.atI (IL qs) ((i : Int) + 1) = some (.int (qs.getD (i + 1) 0)) := at_D (i := i + 1) (by omega) (by omega)
    have al : L2.atI ((List.range (i + 1)).map cD) (-1) = some (.tup [.int (cst r qs gs i true), .int (cst r qs gs i false)]) := by
      rw [List.range_succ, List.map_append]
      rw [show (D.tup [.int (cst r qs gs i true), .int (cst r qs gs i false)]) = cD i by rw [hcD]]
      exact at_last
    rw [e1]
    simp! only [f__law_ahead_0_b2, al, hm, H1.sp, H1.io]
    refine ⟨_, qs, _, gs, i, rfl, by omega, hr, by omega, by omega, fun q h => ⟨hq0 q h, hq q h⟩, hd i (by omega), fun L lL hL => ⟨rfl, ?_⟩⟩
    simp! only [IL_fz, hm, H1.sp, H1.io]
    refine forIL (xs := L) (fun pre _ e => ∃ (o1 o3 : Bool) (u9 u10 : Option D), e = [some (.tup [.int r, .lst false (IL qs)]), some (.lst o1 (IL gs)), some (.lst o3 (IL (sumsS 0 qs))), some (.lst true ((List.range (i + 1)).map cD)), some (.int ((i : Int) + 1)), some (.int (cst r qs gs i true)), some (.int (cst r qs gs i false)), some (.lst true (IL (pre.map (fNear r qs gs i)))), some (.lst true (IL (pre.map (fFar r qs gs i)))), u9, u10, u11, u12]) ⟨_, _, _, _, rfl⟩ ?_ ?_
    · rintro e ⟨o1, o3, u9, u10, rfl⟩
      obtain ⟨⟨m1, m2⟩, m3, m4⟩ := gaps_cost (by omega) hq0 hd (show i + 1 < qs.length by omega) hL
      have xy := cst_xy (show 0 < r by omega) hq0 hd (show i + 1 < qs.length by omega)
      simp! only [f__law_ahead_0_r1, hm, H1.sp, H1.io]
      refine minL_of m1 m2 ?_
      simp! only [hm, H1.sp, H1.io]
      refine minL_of m3 m4 ?_
      simp! only [as1, hm, H1.sp, H1.io]
      rw [if_neg (by omega), if_neg (by omega)]
      have er : (List.range (i + 1)).map cD ++ [D.tup [D.int (cst r qs gs (i + 1) true), D.int (cst r qs gs (i + 1) false)]] = (List.range (i + 1 + 1)).map cD := by
        rw [List.range_succ (n := i + 1), List.map_append, hcD]; rfl
      rw [er]
      exact ⟨line60 (by rw [List.length_map, List.length_range]; omega), hk _ ⟨_, _, _, _, _, _, _, _, _, _, _, rfl⟩⟩
    · rintro pre g suf e k2 bk2 hsp ⟨o1, o3, u9, u10, rfl⟩ hk2 _
      have pl : pre.length ≤ 4 := by
        have := congrArg List.length hsp
        simp only [List.length_append, List.length_cons] at this
        omega
      have hk3 := fun u10 => hk2 [some (.tup [.int r, .lst false (IL qs)]), some (.lst o1 (IL gs)), some (.lst o3 (IL (sumsS 0 qs))), some (.lst true ((List.range (i + 1)).map cD)), some (.int ((i : Int) + 1)), some (.int (cst r qs gs i true)), some (.int (cst r qs gs i false)), some (.lst true (IL ((pre ++ [g]).map (fNear r qs gs i)))), some (.lst true (IL ((pre ++ [g]).map (fFar r qs gs i)))), some (.int g), u10, u11, u12] ⟨_, _, _, _, rfl⟩
      simp only [List.map_append, List.map_cons, List.map_nil, fNear, fFar] at hk3
      simp! only [f__law_ahead_0_b1, as1, as0, aq, IL_app, hm, H1.sp, H1.io]
      have fin : ∀ (K : Con) (z : Int), K.nx = k2 → z = fNear r qs gs i g → wpSs Γ f__law_ahead_0_r3 [some (.tup [.int r, .lst false (IL qs)]), some (.lst o1 (IL gs)), some (.lst o3 (IL (sumsS 0 qs))), some (.lst true ((List.range (i + 1)).map cD)), some (.int ((i : Int) + 1)), some (.int (cst r qs gs i true)), some (.int (cst r qs gs i false)), some (.lst true (IL (pre.map (fNear r qs gs i) ++ [z]))), some (.lst true (IL (pre.map (fFar r qs gs i)))), some (.int g), u10, u11, u12] K := fun K z hK hz => by
        subst hz
        have hk4 := hk3 (some (.int (rA qs (i + 1) - g + cst r qs gs i true)))
        simp! only [f__law_ahead_0_r3, f__law_ahead_0_r2, as1, as0, aq, IL_app, hm, H1.sp, H1.io]
        rw [hK]
        by_cases c : g = qs.getD (i + 1) 0
        · rw [if_pos c]
          rw [if_pos c] at hk4
          exact ⟨line60 (by rw [List.length_map]; omega), hk4⟩
        · rw [if_neg c]
          rw [if_neg c] at hk4
          exact ⟨line60 (by rw [List.length_map]; omega), hk4⟩
      have l6 : (pre.map (fNear r qs gs i)).length < PySem.sizeLine := line60 (by rw [List.length_map]; omega)
      by_cases c : g = 0
      · rw [if_pos c]
        exact ⟨l6, fin _ _ rfl (by unfold fNear; rw [if_pos c])⟩
      · rw [if_neg c]
        exact ⟨l6, fin _ _ rfl (by unfold fNear; rw [if_neg c])⟩
def sp_ldue29 : FSpec := fun ds Q _ => ∃ r qs d ps o gs v, ds = [LockD r qs, StateD d ps, .lst o (IL gs)] ∧ LockOk r qs ∧ Chain d qs ps ∧ GatesOk r qs gs ∧ r < 10 ^ 40 ∧ (∀ q ∈ qs, q < 10 ^ 40) ∧ Dl r qs gs ∧ MinL r qs gs d ps v ∧ Q (.int v) []
theorem w_ldue29 {Γ : Sig} (hm : Γ.me = []) (H1 : Has Γ "_law_sums" [] sp_lreaches) (H2 : Has Γ "_law_ahead" [] sp_lahead29) (ds : List D) (Q : D → List D → Prop) (R : Exc → Prop) (h : sp_ldue29 ds Q R) : wpF Γ f__law_due_7 ds Q R := by
  obtain ⟨r, qs, d, ps, o, gs, v, rfl, hlk, hc, hg, hr, hq, hd, hv, q⟩ := h
  have r2 := hlk.1
  have n1 := hlk.2.1
  have n8 := hlk.2.2.1
  have hq0 := hlk.2.2.2
  have gl := hg.1
  have psl := chain_len2 hc
  have sl := sumsS_len qs 0
  obtain ⟨cD, hcD⟩ : ∃ cD : Nat → D, cD = fun i => D.tup [.int (cst r qs gs i true), .int (cst r qs gs i false)] := ⟨_, rfl⟩
  have cF : fzL ((List.range qs.length).map cD) = (List.range qs.length).map cD := by
    rw [fzL_map, List.map_map, hcD]; rfl
  simp! only [wpF_eq, LockD, StateD, f__law_due_7, startE, List.map_cons, List.map_nil, IL_fz, hm, H1.sp, H1.io, H2.sp, H2.io]
  refine ⟨_, qs, rfl, n8, rfl, ?_⟩
  simp! only [IL_fz, hm, H1.sp, H1.io, H2.sp, H2.io]
  refine ⟨_, qs, _, gs, _, rfl, hlk, gl, hr, hq, hd, rfl, ?_⟩
  rw [← hcD]
  simp! only [IL_fz, cF, hm, H1.sp, H1.io, H2.sp, H2.io]
  refine ⟨by omega, by omega, ?_⟩
  rw [show ((gs.length : Nat) : Int).toNat = gs.length by omega]
  unfold rngD
  refine lcAll (f := fun k : Nat => D.int (0 + (k : Int) * 1)) (xs := List.range gs.length) (fun e => ∃ u9, e = [some (.tup [.int r, .lst false (IL qs)]), some (.tup [.int d, .lst false (IL ps)]), some (.lst false (IL gs)), some (.lst false (IL (sumsS 0 qs))), some (.int r), some (.int gs.length), some (.lst true ((List.range qs.length).map cD)), some (.lst true []), none, u9, none, none, none, none]) (fun t : Nat => .int ((gs.length : Int) - 1 - (0 + (t : Int) * 1))) ⟨_, rfl⟩ ?_ ?_
  · rintro t ht acc e k ⟨u9, rfl⟩ hla hk
    rw [List.length_range] at hla
    simp! only [lcStep, hm, H1.sp, H1.io, H2.sp, H2.io]
    exact ⟨line60 (by omega), hk _ ⟨_, rfl⟩⟩
  rintro e ⟨u9, rfl⟩
  rw [show fzL ((List.range gs.length).map fun t : Nat => D.int ((gs.length : Int) - 1 - (0 + (t : Int) * 1))) = (List.range gs.length).map fun t : Nat => D.int ((gs.length : Int) - 1 - (0 + (t : Int) * 1)) by rw [fzL_map, List.map_map]; rfl]
  have num : ∀ i, i < qs.length → ((ps.getD i 0 - gs.getD i 0) % r = 0 ↔ ps.getD i 0 % r = gs.getD i 0) := fun i hi => by
    have := hg.2 _ (getD_in (xs := gs) (j := i) (by omega))
    rw [← Int.emod_eq_emod_iff_emod_sub_eq_zero, Int.emod_eq_of_lt this.1 this.2]
  refine forN (fun t => D.int ((gs.length : Int) - 1 - (0 + (t : Int) * 1))) (fun t e => ∃ (F : List Int) (o6 : Bool) (u8 u10 u11 u12 u13 : Option D), e = [some (.tup [.int r, .lst false (IL qs)]), some (.tup [.int d, .lst false (IL ps)]), some (.lst false (IL gs)), some (.lst false (IL (sumsS 0 qs))), some (.int r), some (.int gs.length), some (.lst o6 ((List.range qs.length).map cD)), some (.lst true (IL F)), u8, none, u10, u11, u12, u13] ∧ F.length ≤ 10 * t ∧ (∀ f ∈ F, CandL r qs gs d ps f) ∧ (∀ j, qs.length - t ≤ j → j < qs.length → (ps.getD j 0 - gs.getD j 0) % r = 0) ∧
      (∀ i, qs.length - t ≤ i → i < qs.length → ∀ k c, (i + 1 = qs.length ∨ (0 ≤ gs.getD i 0 + k * r - ps.getD (i + 1) 0 ∧ gs.getD i 0 + k * r - ps.getD (i + 1) 0 ≤ qs.getD (i + 1) 0)) → ((gs.getD i 0 + k * r < ps.getD i 0 ∧ c = d - (gs.getD i 0 + k * r) + cst r qs gs i true) ∨ (ps.getD i 0 < gs.getD i 0 + k * r ∧ c = gs.getD i 0 + k * r + rA qs i - d + cst r qs gs i false)) → ∃ f ∈ F, f ≤ c)) ⟨[], _, _, _, _, _, _, rfl, by simp, (fun _ h => nomatch h), fun j h1 h2 => by omega, fun j h1 h2 => by omega⟩ ?_ ?_
  · rintro e ⟨F, o6, u8, u10, u11, u12, u13, rfl, lF, f1, f2, f3⟩
    simp! only [hm, H1.sp, H1.io, H2.sp, H2.io]
    have h0 : v ≤ 0 := hv.2 0 (.inl ⟨rfl, fun j hj => f2 j (by omega) hj⟩)
    have h1 := hv.1.nn (by omega) hq0 hd hc
    rw [show v = 0 by omega] at q
    exact q
  · rintro t e k bk ht ⟨F, o6, u8, u10, u11, u12, u13, rfl, lF, f1, f2, f3⟩ hk _
    obtain ⟨i, hi⟩ : ∃ i, i = gs.length - 1 - t := ⟨_, rfl⟩
    rw [show (gs.length : Int) - 1 - (0 + (t : Int) * 1) = (i : Nat) by omega]
    have ap : L2.atI (IL ps) (i : Int) = some (.int (ps.getD i 0)) := at_D (by omega) rfl
    have ag : L2.atI (IL gs) (i : Int) = some (.int (gs.getD i 0)) := at_D (by omega) rfl
    have as1 : L2.atI (IL (sumsS 0 qs)) (i : Int) = some (.int (rA qs i)) := at_D (by omega) rfl
    have ac : L2.atI ((List.range qs.length).map cD) (i : Int) = some (.tup [.int (cst r qs gs i true), .int (cst r qs gs i false)]) := by
      rw [atI_map, show L2.atI (List.range qs.length) (i : Int) = some i from (by
        unfold L2.atI L2.ixN
        rw [if_pos (by omega), if_pos (by rw [List.length_range]; omega)]
        have : i < qs.length := by omega
        simp [this]), hcD]; rfl
    obtain ⟨H, hH⟩ : ∃ H, H = ps.getD i 0 := ⟨_, rfl⟩
    obtain ⟨G, hG⟩ : ∃ G, G = gs.getD i 0 := ⟨_, rfl⟩
    have fit : ∀ p : Int, ∃ fb : Bool, (fb = true ↔ (i + 1 = qs.length ∨ (0 ≤ p - ps.getD (i + 1) 0 ∧ p - ps.getD (i + 1) 0 ≤ qs.getD (i + 1) 0))) := fun p => ⟨decide (i + 1 = qs.length ∨ (0 ≤ p - ps.getD (i + 1) 0 ∧ p - ps.getD (i + 1) 0 ≤ qs.getD (i + 1) 0)), by rw [decide_eq_true_eq]⟩
    obtain ⟨kb, hkb⟩ : ∃ kb, H - (H - G) % r = G + kb * r := (low_ok (g := G) (m := H) (show 0 < r by omega)).1
    simp! only [f__law_due_7_b5, ap, hm, H1.sp, H1.io, H2.sp, H2.io]
    rw [← hH]
    refine forMap (f := D.int) (xs := [-2, -1, 0, 1, 2]) (fun pre _ e => ∃ (F2 : List Int) (o6 : Bool) (u11 u12 u13 : Option D), e = [some (.tup [.int r, .lst false (IL qs)]), some (.tup [.int d, .lst false (IL ps)]), some (.lst false (IL gs)), some (.lst false (IL (sumsS 0 qs))), some (.int r), some (.int gs.length), some (.lst o6 ((List.range qs.length).map cD)), some (.lst true (IL F2)), some (.int (i : Nat)), none, some (.int H), u11, u12, u13] ∧ F2.length ≤ 10 * t + 2 * pre.length ∧ (∀ f ∈ F2, CandL r qs gs d ps f) ∧ (∀ f ∈ F, f ∈ F2) ∧
      ∀ z ∈ pre, (i + 1 = qs.length ∨ (0 ≤ G + (kb + z) * r - ps.getD (i + 1) 0 ∧ G + (kb + z) * r - ps.getD (i + 1) 0 ≤ qs.getD (i + 1) 0)) → (G + (kb + z) * r < H → d - (G + (kb + z) * r) + cst r qs gs i true ∈ F2) ∧ (H < G + (kb + z) * r → G + (kb + z) * r + rA qs i - d + cst r qs gs i false ∈ F2)) ⟨F, _, _, _, _, rfl, by simpa using lF, f1, (fun _ h => h), (fun _ h => nomatch h)⟩ ?_ ?_
    · rintro e ⟨F2, o6, u11, u12, u13, rfl, lF2, g1, g2, g3⟩
      simp only [List.length_cons, List.length_nil] at lF2
      -- candidates of this wheel are not below what was found
      have g4 : ∀ k c, (i + 1 = qs.length ∨ (0 ≤ G + k * r - ps.getD (i + 1) 0 ∧ G + k * r - ps.getD (i + 1) 0 ≤ qs.getD (i + 1) 0)) → ((G + k * r < H ∧ c = d - (G + k * r) + cst r qs gs i true) ∨ (H < G + k * r ∧ c = G + k * r + rA qs i - d + cst r qs gs i false)) → ∃ f ∈ F2, f ≤ c := fun k c hf h => by
        have m0 := Int.emod_nonneg (H - G) (show r ≠ 0 by omega)
        have m1 := Int.emod_lt_of_pos (H - G) (show 0 < r by omega)
        have z1 : (kb + -1) * r = kb * r - r := by rw [Int.add_mul]; omega
        have z2 : (kb + 1) * r = kb * r + r := by rw [Int.add_mul]; omega
        have z3 : (kb + 0) * r = kb * r := by rw [Int.add_zero]
        have t0 := g3 0 (by simp)
        have t1 := g3 1 (by simp)
        have t2 := g3 (-1) (by simp)
        rw [z3] at t0
        rw [z2] at t1
        rw [z1] at t2
        have b1 : i + 1 = qs.length ∨ (ps.getD (i + 1) 0 ≤ H ∧ H - ps.getD (i + 1) 0 ≤ qs.getD (i + 1) 0) := by
          by_cases ci : i + 1 = qs.length
          · exact .inl ci
          · have b := chain_ix (a := 0) hc hq0 (show i < i + 1 by omega) (show i + 1 < qs.length by omega)
            have e : (sumsS 0 qs).getD (i + 1) 0 = (sumsS 0 qs).getD i 0 + qs.getD (i + 1) 0 := rA_succ (by omega)
            rw [hH]
            exact .inr ⟨by omega, by omega⟩
        have s := mul_step (k := k - kb) (show 0 < r by omega)
        have s2 := mul_step (k := k - kb - 1) (show 0 < r by omega)
        have s3 := mul_step (k := k - kb + 1) (show 0 < r by omega)
        rw [Int.sub_mul] at s
        rw [Int.sub_mul, Int.sub_mul, Int.one_mul] at s2
        rw [Int.add_mul, Int.sub_mul, Int.one_mul] at s3
        rcases h with ⟨h1, rfl⟩ | ⟨h1, rfl⟩
        · by_cases c0 : (H - G) % r = 0
          · have le : k - kb + 1 ≤ 0 := Int.not_lt.mp fun hh => by
              have := s3.2 (by omega)
              omega
            have l2 := s3.1 le
            refine ⟨_, (t2 ?_).1 (by omega), by omega⟩
            rcases b1 with b1 | b1
            · exact .inl b1
            · rcases hf with hf | hf
              · exact .inl hf
              · exact .inr ⟨by omega, by omega⟩
          · have le : k - kb ≤ 0 := Int.not_lt.mp fun hh => by
              have := s.2 (by omega)
              omega
            have l2 := s.1 le
            refine ⟨_, (t0 ?_).1 (by omega), by omega⟩
            rcases b1 with b1 | b1
            · exact .inl b1
            · rcases hf with hf | hf
              · exact .inl hf
              · exact .inr ⟨by omega, by omega⟩
        · have le : 1 ≤ k - kb := Int.not_lt.mp fun hh => by
            have := s.1 (by omega)
            omega
          have l2 := s.2 le
          refine ⟨_, (t1 ?_).2 (by omega), by omega⟩
          rcases b1 with b1 | b1
          · exact .inl b1
          · rcases hf with hf | hf
            · exact .inl hf
            · exact .inr ⟨by omega, by omega⟩
      have g5 : ∀ i', qs.length - (t + 1) ≤ i' → i' < qs.length → ∀ k c, (i' + 1 = qs.length ∨ (0 ≤ gs.getD i' 0 + k * r - ps.getD (i' + 1) 0 ∧ gs.getD i' 0 + k * r - ps.getD (i' + 1) 0 ≤ qs.getD (i' + 1) 0)) → ((gs.getD i' 0 + k * r < ps.getD i' 0 ∧ c = d - (gs.getD i' 0 + k * r) + cst r qs gs i' true) ∨ (ps.getD i' 0 < gs.getD i' 0 + k * r ∧ c = gs.getD i' 0 + k * r + rA qs i' - d + cst r qs gs i' false)) → ∃ f ∈ F2, f ≤ c := fun i' h1 h2 k c hf h => by
        by_cases ei : i' = i
        · subst ei
          rw [← hG, ← hH] at h
          rw [← hG] at hf
          exact g4 k c hf h
        · obtain ⟨f, hf1, hf2⟩ := f3 i' (by omega) h2 k c hf h
          exact ⟨f, g2 f hf1, hf2⟩
      have nm := num i (by omega)
      rw [← hG, ← hH] at nm
      rw [← hG] at ag
      simp! only [f__law_due_7_r1, ag, hm, H1.sp, H1.io, H2.sp, H2.io]
      refine ⟨by omega, ?_⟩
      by_cases c0 : H % r = G
      · rw [if_pos c0]
        refine hk _ ⟨F2, _, _, _, _, _, _, rfl, by omega, g1, fun j h1 h2 => ?_, g5⟩
        by_cases ej : j = i
        · rw [ej, ← hG, ← hH]; exact nm.mpr c0
        · exact f2 j (by omega) h2
      · rw [if_neg c0]
        simp! only [f__law_due_7_b1, hm, H1.sp, H1.io, H2.sp, H2.io]
        have vf : ∃ f ∈ F2, f ≤ v := by
          rcases hv.1 with ⟨_, ha⟩ | ⟨i0, hi0, hs, k0, hf0, h0⟩
          · exact absurd (nm.mp (by rw [hG, hH]; exact ha i (by omega))) c0
          · have : i ≤ i0 := Nat.not_lt.mp fun hh => c0 (nm.mp (by rw [hG, hH]; exact hs i hh (by omega)))
            exact g5 i0 (by omega) hi0 k0 v hf0 h0
        obtain ⟨f, hf1, hf2⟩ := vf
        have fv : f = v := by
          have := hv.2 f (g1 f hf1)
          omega
        rw [fv] at hf1
        exact minL_of hf1 (fun y hy => hv.2 y (g1 y hy)) q
    · rintro pre z suf e k2 bk2 hsp ⟨F2, o6, u11, u12, u13, rfl, lF2, g1, g2, g3⟩ hk2 _
      have pl : pre.length ≤ 4 := by
        have := congrArg List.length hsp
        simp only [List.length_append, List.length_cons, List.length_nil] at this
        omega
      have hz : z.natAbs ≤ 2 := by
        have : z ∈ ([-2, -1, 0, 1, 2] : List Int) := by rw [← hsp]; simp
        simp only [List.mem_cons, List.not_mem_nil, or_false] at this
        omega
      rw [← hG] at ag
      simp! only [f__law_due_7_b4, ag, hm, H1.sp, H1.io, H2.sp, H2.io]
      have ez : H - (H - G) % r + z * r = G + (kb + z) * r := by rw [hkb, Int.add_mul]; omega
      rw [ez]
      obtain ⟨p, hp⟩ : ∃ p, p = G + (kb + z) * r := ⟨_, rfl⟩
      rw [← hp]
      have R3 : ∀ (K : Con) (fb : Bool), K.nx = k2 → (fb = true ↔ (i + 1 = qs.length ∨ (0 ≤ p - ps.getD (i + 1) 0 ∧ p - ps.getD (i + 1) 0 ≤ qs.getD (i + 1) 0))) → wpSs Γ f__law_due_7_r3 [some (.tup [.int r, .lst false (IL qs)]), some (.tup [.int d, .lst false (IL ps)]), some (.lst false (IL gs)), some (.lst false (IL (sumsS 0 qs))), some (.int r), some (.int gs.length), some (.lst o6 ((List.range qs.length).map cD)), some (.lst true (IL F2)), some (.int (i : Nat)), none, some (.int H), some (.int z), some (.int p), some (.bl fb)] K := fun K fb hK hfb => by
        have hs : ∀ j, i < j → j < qs.length → (ps.getD j 0 - gs.getD j 0) % r = 0 := fun j h1 h2 => f2 j (by omega) h2
        have cF : (fzL ((List.range qs.length).map cD)) = (List.range qs.length).map cD := cF
        have R2 : ∀ (K : Con) (F3 : List Int) (o6 : Bool), K.nx = k2 → F3.length ≤ F2.length + 1 → (∀ f ∈ F3, CandL r qs gs d ps f) → (∀ f ∈ F2, f ∈ F3) → (fb = true → p < H → d - p + cst r qs gs i true ∈ F3) → wpSs Γ f__law_due_7_r2 [some (.tup [.int r, .lst false (IL qs)]), some (.tup [.int d, .lst false (IL ps)]), some (.lst false (IL gs)), some (.lst false (IL (sumsS 0 qs))), some (.int r), some (.int gs.length), some (.lst o6 ((List.range qs.length).map cD)), some (.lst true (IL F3)), some (.int (i : Nat)), none, some (.int H), some (.int z), some (.int p), some (.bl fb)] K := fun K F3 o6 hK l3 c3 s3 a3 => by
          have fin : ∀ (F4 : List Int) (o6 : Bool), F4.length ≤ F3.length + 1 → (∀ f ∈ F4, CandL r qs gs d ps f) → (∀ f ∈ F3, f ∈ F4) → (fb = true → H < p → p + rA qs i - d + cst r qs gs i false ∈ F4) → k2 [some (.tup [.int r, .lst false (IL qs)]), some (.tup [.int d, .lst false (IL ps)]), some (.lst false (IL gs)), some (.lst false (IL (sumsS 0 qs))), some (.int r), some (.int gs.length), some (.lst o6 ((List.range qs.length).map cD)), some (.lst true (IL F4)), some (.int (i : Nat)), none, some (.int H), some (.int z), some (.int p), some (.bl fb)] := fun F4 o6 l4 c4 s4 a4 => by
            refine hk2 _ ⟨F4, _, _, _, _, rfl, by rw [List.length_append, List.length_singleton]; omega, c4, fun f h => s4 f (s3 f (g2 f h)), fun y hy hfy => ?_⟩
            rcases List.mem_append.mp hy with hy | hy
            · have := g3 y hy hfy
              exact ⟨fun h => s4 _ (s3 _ (this.1 h)), fun h => s4 _ (s3 _ (this.2 h))⟩
            · rw [List.mem_singleton.mp hy, ← hp] at hfy ⊢
              exact ⟨fun h => s4 _ (a3 (hfb.mpr hfy) h), fun h => a4 (hfb.mpr hfy) h⟩
          cases fb with
          | false =>
            simp! only [f__law_due_7_r2, hm, H1.sp, H1.io, H2.sp, H2.io]
            rw [hK]
            exact fin F3 _ (by omega) c3 (fun _ h => h) (fun h => nomatch h)
          | true =>
            simp! only [f__law_due_7_r2, hm, H1.sp, H1.io, H2.sp, H2.io]
            by_cases c : H < p
            · rw [if_pos c]
              simp! only [f__law_due_7_b2, as1, ac, IL_app, cF, hm, H1.sp, H1.io, H2.sp, H2.io]
              rw [hK]
              refine ⟨line4k (by omega), ?_⟩
              refine fin _ _ (by rw [List.length_append, List.length_singleton]; omega) (fun f hf => ?_) (fun f h => List.mem_append_left _ h) (fun _ _ => List.mem_append_right _ (by simp))
              rcases List.mem_append.mp hf with hf | hf
              · exact c3 f hf
              · rw [List.mem_singleton.mp hf]
                exact .inr ⟨i, by omega, hs, kb + z, by rw [← hG, ← hp]; exact hfb.mp rfl, .inr ⟨by rw [← hG, ← hp, ← hH]; exact c, by rw [← hG, ← hp]⟩⟩
            · rw [if_neg c]
              rw [hK]
              exact fin F3 _ (by omega) c3 (fun _ h => h) (fun _ h => absurd h c)
        cases fb with
        | false =>
          simp! only [f__law_due_7_r3, hm, H1.sp, H1.io, H2.sp, H2.io]
          exact R2 _ F2 _ hK (by omega) g1 (fun _ h => h) (fun h => nomatch h)
        | true =>
          simp! only [f__law_due_7_r3, hm, H1.sp, H1.io, H2.sp, H2.io]
          by_cases c : p < H
          · rw [if_pos c]
            simp! only [f__law_due_7_b3, as1, ac, IL_app, cF, hm, H1.sp, H1.io, H2.sp, H2.io]
            refine ⟨line4k (by omega), ?_⟩
            refine R2 _ _ _ hK (by rw [List.length_append, List.length_singleton]; omega) (fun f hf => ?_) (fun f h => List.mem_append_left _ h) (fun _ _ => List.mem_append_right _ (by simp))
            rcases List.mem_append.mp hf with hf | hf
            · exact g1 f hf
            · rw [List.mem_singleton.mp hf]
              exact .inr ⟨i, by omega, hs, kb + z, by rw [← hG, ← hp]; exact hfb.mp rfl, .inl ⟨by rw [← hG, ← hp, ← hH]; exact c, by rw [← hG, ← hp]⟩⟩
          · rw [if_neg c]
            exact R2 _ F2 _ hK (by omega) g1 (fun _ h => h) (fun _ h => absurd h c)
      refine ⟨by omega, mul_by 2 140 (by omega) (Nat.lt_of_le_of_lt (m := 10 ^ 40) (by omega) (by decide +kernel)) (by decide) (by decide) (by decide), ?_⟩
      by_cases ci : (i : Int) = (gs.length : Int) - 1
      · rw [if_pos ci, decide_eq_true ci]
        exact R3 _ true rfl ⟨fun _ => .inl (by omega), fun _ => rfl⟩
      · rw [if_neg ci]
        have ap1 : L2.atI (IL ps) ((i : Int) + 1) = some (.int (ps.getD (i + 1) 0)) := at_D (i := i + 1) (by omega) (by omega)
        have aq1 : L2.atI (IL qs) ((i : Int) + 1) = some (.int (qs.getD (i + 1) 0)) := at_D (i := i + 1) (by omega) (by omega)
        simp! only [ap1, aq1, hm, H1.sp, H1.io, H2.sp, H2.io]
        by_cases c1 : 0 ≤ p - ps.getD (i + 1) 0
        · rw [if_pos c1]
          exact R3 _ _ rfl (by
            rw [decide_eq_true_eq]
            exact ⟨fun h => .inr ⟨c1, h⟩, fun h => by rcases h with h | h; omega; exact h.2⟩)
        · rw [if_neg c1]
          exact R3 _ false rfl ⟨fun h => (nomatch h), fun h => by rcases h with h | h; omega; exact absurd h.1 c1⟩

def sp_lright29 : FSpec := fun ds Q _ => ∃ b x r qs d ps o gs, ds = [x, LockD r qs, StateD d ps, .lst o (IL gs)] ∧ Coil b x ∧ b ≤ 10 ^ 10 ∧ LockOk r qs ∧ Chain d qs ps ∧ GatesOk r qs gs ∧ Dl r qs gs ∧ r < 10 ^ 38 ∧ (∀ q ∈ qs, q < 10 ^ 38) ∧ d.natAbs ≤ 10 ^ 41 ∧ ∀ y, Coil (b + 10) y → Q (.bl true) [y]
theorem w_lright29 {Γ : Sig} (hm : Γ.me = [0]) (H1 : Has Γ "least_turns" [] sp_least_turnsN) (H2 : Has Γ "_law_due" [] sp_ldue29) (H3 : Has Γ "least_way" [] sp_least_wayN) (H4 : Has Γ "_law_are_turns" [] sp_are_turnsV) (H5 : Has Γ "_law_length" [] sp_length_of) (H6 : Has Γ "_law_behind" [] sp_lbehind) (H8 : Has Γ "_law_has" [] sp_lhas) (H7 : Has Γ "_law_tap" [true] sp_cdraw) (ds : List D) (Q : D → List D → Prop) (R : Exc → Prop) (h : sp_lright29 ds Q R) : wpF Γ f__law_right_17 ds Q R := by
  obtain ⟨b, x, r, qs, d, ps, o, gs, rfl, hx, hb, hlk, hc, hg, hd, hr, hq, hdb, q⟩ := h
  have r2 := hlk.1
  have n8 := hlk.2.2.1
  have hq0 := hlk.2.2.2
  have psl := chain_len2 hc
  have hq40 : ∀ q ∈ qs, q < 10 ^ 40 := fun p hp => by have := hq p hp; omega
  simp! only [wpF_eq, LockD, StateD, f__law_right_17, startE, List.map_cons, List.map_nil, IL_fz, hm, H1.sp, H1.io, H2.sp, H2.io, H3.sp, H3.io, H4.sp, H4.io, H5.sp, H5.io, H6.sp, H6.io, H8.sp, H8.io, H7.sp, H7.io]
  refine ⟨_, qs, _, ps, _, gs, rfl, hlk, hc, hg, by omega, hq40, hd, fun o2 ts ht => ⟨rfl, ?_⟩⟩
  obtain ⟨tt, tl, tn⟩ := least_ok hlk hc hg hd ht
  have tb := least_bd hlk hc hd ht (by omega) hq40 hdb
  have mL := least_min hlk hc hd ht
  obtain ⟨V, hV⟩ : ∃ V, V = wayT ts := ⟨_, rfl⟩
  rw [← hV] at mL
  have vb : V.natAbs ≤ 10 * 10 ^ 45 := by
    rw [hV, way_abs]
    exact Nat.le_trans (sum_le tb) (Nat.mul_le_mul_right _ (by omega))
  simp! only [IL_fz, hm, H1.sp, H1.io, H2.sp, H2.io, H3.sp, H3.io, H4.sp, H4.io, H5.sp, H5.io, H6.sp, H6.io, H8.sp, H8.io, H7.sp, H7.io]
  refine ⟨_, qs, _, ps, _, gs, V, rfl, hlk, hc, hg, by omega, hq40, hd, mL, rfl, ?_⟩
  have rV : ∀ {Q : D → Prop}, Q (.str (D.int V).py.shown) → biD .repr [.int V] Q := fun h => repr_tm (n := 1) (Tm.int (Nat.le_trans vb (Nat.le_trans (Nat.mul_le_mul_right _ (show 10 ≤ 10 ^ 10 by decide)) (by decide +kernel)))) (by omega) h
  simp! only [IL_fz, f__law_right_17_r6, hm, H1.sp, H1.io, H2.sp, H2.io, H3.sp, H3.io, H4.sp, H4.io, H5.sp, H5.io, H6.sp, H6.io, H8.sp, H8.io, H7.sp, H7.io]
  refine ⟨_, qs, _, ps, _, gs, rfl, hlk, hc, hg, by omega, hq40, hd, fun us hus => ⟨rfl, ?_⟩⟩
  rw [(least_min hlk hc hd hus).uniq mL]
  refine rV ?_
  simp! only [IL_fz, hm, H1.sp, H1.io, H2.sp, H2.io, H3.sp, H3.io, H4.sp, H4.io, H5.sp, H5.io, H6.sp, H6.io, H8.sp, H8.io, H7.sp, H7.io]
  refine rV ?_
  refine ne_same rfl ?_
  simp! only [IL_fz, hm, H1.sp, H1.io, H2.sp, H2.io, H3.sp, H3.io, H4.sp, H4.io, H5.sp, H5.io, H6.sp, H6.io, H8.sp, H8.io, H7.sp, H7.io]
  refine ⟨_, ts, rfl, tt, rfl, ?_⟩
  simp! only [IL_fz, hm, H1.sp, H1.io, H2.sp, H2.io, H3.sp, H3.io, H4.sp, H4.io, H5.sp, H5.io, H6.sp, H6.io, H8.sp, H8.io, H7.sp, H7.io]
  refine ⟨_, ts, rfl, by omega, rfl, ?_⟩
  rw [← hV]
  simp! only [IL_fz, hm, H1.sp, H1.io, H2.sp, H2.io, H3.sp, H3.io, H4.sp, H4.io, H5.sp, H5.io, H6.sp, H6.io, H8.sp, H8.io, H7.sp, H7.io]
  simp! only [IL_fz, f__law_right_17_r5, hm, H1.sp, H1.io, H2.sp, H2.io, H3.sp, H3.io, H4.sp, H4.io, H5.sp, H5.io, H6.sp, H6.io, H8.sp, H8.io, H7.sp, H7.io]
  refine ⟨_, qs, _, ps, _, ts, rfl, n8, hq0, hc, tt.1, fun o3 => ⟨rfl, ?_⟩⟩
  have wl := chain_len2 (chain_walk hq0 ts ps d hc)
  simp! only [IL_fz, hm, H1.sp, H1.io, H2.sp, H2.io, H3.sp, H3.io, H4.sp, H4.io, H5.sp, H5.io, H6.sp, H6.io, H8.sp, H8.io, H7.sp, H7.io]
  refine ⟨_, qs, _, _, _, gs, rfl, by omega, by omega, rfl, ?_⟩
  rw [tn, decide_eq_true rfl]
  simp! only [IL_fz, f__law_right_17_r4, hm, H1.sp, H1.io, H2.sp, H2.io, H3.sp, H3.io, H4.sp, H4.io, H5.sp, H5.io, H6.sp, H6.io, H8.sp, H8.io, H7.sp, H7.io]
  refine ⟨_, _, _, rfl, hx, by omega, (by first | decide | omega), (by first | decide | omega | exact lt_wide (by omega)), fun s2 x2 s20 s21 k2 => ⟨rfl, ?_⟩⟩
  simp! only [hm, H1.sp, H1.io, H2.sp, H2.io, H3.sp, H3.io, H4.sp, H4.io, H5.sp, H5.io, H6.sp, H6.io, H8.sp, H8.io, H7.sp, H7.io]
  obtain ⟨m, hmm⟩ : ∃ m, m = 2 + s2 := ⟨_, rfl⟩
  rw [← hmm]
  simp! only [IL_fz, f__law_right_17_r3, hm, H1.sp, H1.io, H2.sp, H2.io, H3.sp, H3.io, H4.sp, H4.io, H5.sp, H5.io, H6.sp, H6.io, H8.sp, H8.io, H7.sp, H7.io]
  have m0 : 0 < m := by omega
  have cm : ∀ {y : Int}, y.natAbs ≤ 10 ^ 43 → L2.CMulW y m := fun h => mul_by 150 8 (Nat.lt_of_le_of_lt h (by decide +kernel)) (by omega) (by decide) (by decide) (by decide)
  have pb : ∀ p ∈ ps, p.natAbs ≤ 10 ^ 43 := fun p hp => by
    have := chain_bd (B := 10 ^ 40) (by omega) hc (fun q h => Int.le_of_lt (hq40 q h)) p hp
    have h2 : (qs.length : Int) * 10 ^ 40 ≤ 8 * 10 ^ 40 := by omega
    omega
  refine ⟨cm (by omega), ?_⟩
  refine lcILa (xs := qs) (fun e => ∃ u8, e = [some x2, some (.tup [.int r, .lst false (IL qs)]), some (.tup [.int d, .lst false (IL ps)]), some (.lst false (IL gs)), some (.lst false (IL ts)), some (.int V), some (.int m), none, u8, none, none, none]) (fun y => .int (y * m)) ⟨_, rfl⟩ ?_ ?_
  · rintro y hy acc e k ⟨u8, rfl⟩ hla hk
    have h1 := hq y hy
    have h2 := hq0 y hy
    simp! only [lcStep, hm, H1.sp, H1.io, H2.sp, H2.io, H3.sp, H3.io, H4.sp, H4.io, H5.sp, H5.io, H6.sp, H6.io, H8.sp, H8.io, H7.sp, H7.io]
    exact ⟨cm (by omega), line60 (by omega), hk _ ⟨_, rfl⟩⟩
  rintro e ⟨u8, rfl⟩
  rw [IL_mulmap]
  simp! only [IL_fz, f__law_right_17_r2, hm, H1.sp, H1.io, H2.sp, H2.io, H3.sp, H3.io, H4.sp, H4.io, H5.sp, H5.io, H6.sp, H6.io, H8.sp, H8.io, H7.sp, H7.io]
  refine ⟨cm (by omega), ?_⟩
  refine lcILa (xs := ps) (fun e => ∃ u10, e = [some x2, some (.tup [.int r, .lst false (IL qs)]), some (.tup [.int d, .lst false (IL ps)]), some (.lst false (IL gs)), some (.lst false (IL ts)), some (.int V), some (.int m), some (.tup [.int (r * m), .lst true (IL (qs.map (· * m)))]), none, none, u10, none]) (fun y => .int (y * m)) ⟨_, rfl⟩ ?_ ?_
  · rintro y hy acc e k ⟨u8, rfl⟩ hla hk
    simp! only [lcStep, hm, H1.sp, H1.io, H2.sp, H2.io, H3.sp, H3.io, H4.sp, H4.io, H5.sp, H5.io, H6.sp, H6.io, H8.sp, H8.io, H7.sp, H7.io]
    exact ⟨cm (pb y hy), line60 (by omega), hk _ ⟨_, rfl⟩⟩
  rintro e ⟨u10, rfl⟩
  rw [IL_mulmap]
  simp! only [IL_fz, f__law_right_17_r1, hm, H1.sp, H1.io, H2.sp, H2.io, H3.sp, H3.io, H4.sp, H4.io, H5.sp, H5.io, H6.sp, H6.io, H8.sp, H8.io, H7.sp, H7.io]
  refine lcILa (xs := gs) (fun e => ∃ u11, e = [some x2, some (.tup [.int r, .lst false (IL qs)]), some (.tup [.int d, .lst false (IL ps)]), some (.lst false (IL gs)), some (.lst false (IL ts)), some (.int V), some (.int m), some (.tup [.int (r * m), .lst false (IL (qs.map (· * m)))]), none, some (.tup [.int (d * m), .lst false (IL (ps.map (· * m)))]), none, u11]) (fun y => .int (y * m)) ⟨_, rfl⟩ ?_ ?_
  · rintro y hy acc e k ⟨u8, rfl⟩ hla hk
    have gb := hg.2 y hy
    have gl := hg.1
    simp! only [lcStep, hm, H1.sp, H1.io, H2.sp, H2.io, H3.sp, H3.io, H4.sp, H4.io, H5.sp, H5.io, H6.sp, H6.io, H8.sp, H8.io, H7.sp, H7.io]
    exact ⟨cm (by omega), line60 (by omega), hk _ ⟨_, rfl⟩⟩
  rintro e ⟨u11, rfl⟩
  rw [IL_mulmap]
  simp! only [IL_fz, hm, H1.sp, H1.io, H2.sp, H2.io, H3.sp, H3.io, H4.sp, H4.io, H5.sp, H5.io, H6.sp, H6.io, H8.sp, H8.io, H7.sp, H7.io]
  refine ⟨_, _, _, _, _, gs.map (· * m), rfl, lock_mul m0 hlk, chain_mul (by omega) hc, gates_mul m0 hg, mul_lt hr (by omega) (by omega) (by omega), fun p hp => ?_, Dl_mul m0 hd, fun us3 hus3 => ⟨rfl, ?_⟩⟩
  · obtain ⟨y, hy, rfl⟩ := List.mem_map.mp hp
    exact mul_lt (hq y hy) (hq0 y hy) (by omega) (by omega)
  rw [(least_min (lock_mul m0 hlk) (chain_mul (by omega) hc) (Dl_mul m0 hd) hus3).uniq (mL.mul m0)]
  simp! only [hm, H1.sp, H1.io, H2.sp, H2.io, H3.sp, H3.io, H4.sp, H4.io, H5.sp, H5.io, H6.sp, H6.io, H8.sp, H8.io, H7.sp, H7.io]
  refine ⟨mul_by 160 8 (Nat.lt_of_le_of_lt vb (by decide +kernel)) (by omega) (by decide) (by decide) (by decide), ?_⟩
  exact q _ (k2.mono (by omega))
def sp_law29 : FSpec := fun ds Q _ => ∃ o ns, ds = [.lst o (IL ns)] ∧ ns.length ≤ 63 ∧ Q (.bl true) []
theorem w_law29 {Γ : Sig} (hm : Γ.me = []) (H1 : Has Γ "_law_tank" [] sp_tank) (H2 : Has Γ "_law_tap" [true] sp_cdraw) (H3 : Has Γ "_law_box" [true] sp_boxT) (H4 : Has Γ "_law_pose" [true] sp_past) (H5 : Has Γ "_law_gates" [true] sp_lgates0) (H6 : Has Γ "_law_right" [true] sp_lright29) (H7 : Has Γ "_law_can" [] sp_lcan) (H8 : Has Γ "least_way" [] sp_least_wayN) (ds : List D) (Q : D → List D → Prop) (R : Exc → Prop) (h : sp_law29 ds Q R) : wpF Γ f_law_28 ds Q R := by
  obtain ⟨o, ns, rfl, hl, q⟩ := h
  have P : ∀ n : Int, 0 ≤ n → n ≤ 1000 → PowOk 10 n := fun n h0 h1 => pow_by 4 (by decide) (by decide) h0 (by omega)
  simp! only [wpF_eq, f_law_28, startE, List.map_cons, List.map_nil, hm, H1.sp, H1.io, H2.sp, H2.io, H3.sp, H3.io, H4.sp, H4.io, H5.sp, H5.io, H6.sp, H6.io, H7.sp, H7.io, H8.sp, H8.io]
  obtain ⟨N, hN, hN0, hN8⟩ : ∃ N : Int, (if (if (ns.length : Int) < 3 then (ns.length : Int) else 3) > 1 then (if (ns.length : Int) < 3 then (ns.length : Int) else 3) else 1) = N ∧ 0 ≤ N ∧ N ≤ 8 := ⟨_, rfl, by split <;> split <;> omega, by split <;> split <;> omega⟩
  rw [hN]
  refine ⟨by omega, by omega, ?_⟩
  refine forRg (fun i e => ∃ (o' : Bool) (u1 u2 u3 u4 u5 u6 u8 : Option D), e = [some (.lst o' (IL ns)), u1, u2, u3, u4, u5, u6, none, u8]) ⟨_, none, none, none, none, none, none, none, rfl⟩ ?_ ?_
  · rintro e ⟨o', u1, u2, u3, u4, u5, u6, u8, rfl⟩
    simp! only [f_law_28_r1, hm, H1.sp, H1.io, H2.sp, H2.io, H3.sp, H3.io, H4.sp, H4.io, H5.sp, H5.io, H6.sp, H6.io, H7.sp, H7.io, H8.sp, H8.io]
    have s8 : 1 * 8 ≤ PySem.sizeLine := Nat.le_of_lt (line60 (by omega))
    refine ⟨P _ (by decide) (by decide), P _ (by decide) (by decide), s8, s8, P _ (by decide) (by decide), s8, ?_⟩
    obtain ⟨q8, hq8⟩ : ∃ q8 : List Int, q8 = List.replicate 8 (10 ^ 28) := ⟨_, rfl⟩
    obtain ⟨g8, hg8⟩ : ∃ g8 : List Int, g8 = List.replicate 8 (10 ^ 29 - 1) := ⟨_, rfl⟩
    obtain ⟨p8, hp8⟩ : ∃ p8 : List Int, p8 = List.replicate 8 0 := ⟨_, rfl⟩
    have l8 : q8.length = 8 := by rw [hq8]; rfl
    have lk8 : LockOk (10 ^ 29) q8 := by rw [hq8]; exact ⟨by decide, by decide, by decide, by decide⟩
    have ch8 : Chain 0 q8 p8 := by rw [hq8, hp8]; simp [Chain]
    have go8 : GatesOk (10 ^ 29) q8 g8 := by rw [hq8, hg8]; exact ⟨rfl, by decide⟩
    have hd8 : Dl (10 ^ 29) q8 g8 := fun i hi => by
      have : i = 0 ∨ i = 1 ∨ i = 2 ∨ i = 3 ∨ i = 4 ∨ i = 5 ∨ i = 6 := by omega
      rw [hq8, hg8]
      rcases this with rfl | rfl | rfl | rfl | rfl | rfl | rfl <;> decide +kernel
    have gv : ∀ i, i < 8 → g8.getD i 0 = 10 ^ 29 - 1 := fun i hi => by
      rw [hg8, List.getD_eq_getElem?_getD, List.getElem?_replicate, if_pos hi]; rfl
    have pv : ∀ i, i < 8 → p8.getD i 0 = 0 := fun i hi => by
      rw [hp8, List.getD_eq_getElem?_getD, List.getElem?_replicate, if_pos hi]; rfl
    have m8 : MinL (10 ^ 29) q8 g8 0 p8 1 := by
      have c1 : rA q8 7 = 8 * 10 ^ 28 := by rw [hq8]; decide +kernel
      have c2 : cst (10 ^ 29) q8 g8 7 true = 0 := by rw [hq8, hg8]; decide +kernel
      have c3 : cst (10 ^ 29) q8 g8 7 false = 8 * 10 ^ 28 := by rw [hq8, hg8]; decide +kernel
      refine ⟨.inr ⟨7, by omega, fun j h1 h2 => by omega, -1, .inl (by omega), .inl ⟨by rw [gv 7 (by decide), pv 7 (by decide)]; decide, by rw [gv 7 (by decide), c2]; decide⟩⟩, fun c hc => ?_⟩
      rcases hc with ⟨_, h⟩ | ⟨i, hi, hs, k, _, h⟩
      · have := h 0 (by omega)
        rw [gv 0 (by decide), pv 0 (by decide)] at this
        exact absurd this (by decide +kernel)
      · have i7 : i = 7 := by
          by_cases e : i = 7
          · exact e
          · have := hs 7 (by omega) (by omega)
            rw [gv 7 (by decide), pv 7 (by decide)] at this
            exact absurd this (by decide +kernel)
        subst i7
        rw [gv 7 (by decide), pv 7 (by decide), c1, c2, c3] at h
        rcases h with ⟨h1, h2⟩ | ⟨h1, h2⟩ <;> omega
    have eq8 : fzL (repD [D.int 10000000000000000000000000000] 8) = IL q8 := by rw [hq8]; rfl
    have ep8 : fzL (repD [D.int 0] 8) = IL p8 := by rw [hp8]; rfl
    have eg8 : fzL (repD [D.int 99999999999999999999999999999] 8) = IL g8 := by rw [hg8]; rfl
    rw [eq8, ep8, eg8]
    refine ⟨_, q8, _, p8, _, g8, rfl, lk8, ch8, go8, by decide, fun q h => by rw [hq8] at h; rw [List.eq_of_mem_replicate h]; decide, hd8, fun us hus => ⟨rfl, ?_⟩⟩
    rw [(least_min lk8 ch8 hd8 hus).uniq m8]
    simp! only [hm, H1.sp, H1.io, H2.sp, H2.io, H3.sp, H3.io, H4.sp, H4.io, H5.sp, H5.io, H6.sp, H6.io, H7.sp, H7.io, H8.sp, H8.io]
    exact q
  · rintro i e k bk hi ⟨o', u1, u2, u3, u4, u5, u6, u8, rfl⟩ hk _
    simp! only [f_law_28_b5, hm, H1.sp, H1.io, H2.sp, H2.io, H3.sp, H3.io, H4.sp, H4.io, H5.sp, H5.io, H6.sp, H6.io, H7.sp, H7.io, H8.sp, H8.io]
    refine ⟨_, ns, _, rfl, by omega, by omega, fun y hy => ⟨rfl, ?_⟩⟩
    simp! only [hm, H1.sp, H1.io, H2.sp, H2.io, H3.sp, H3.io, H4.sp, H4.io, H5.sp, H5.io, H6.sp, H6.io, H7.sp, H7.io, H8.sp, H8.io]
    refine forRg (fun j e => ∃ (x : D) (u3 u4 u5 u6 u8 : Option D), e = [some (.lst false (IL ns)), some (.int (i : Nat)), some x, u3, u4, u5, u6, none, u8] ∧ Coil (1000 * j) x) ⟨y, _, _, _, _, _, rfl, hy.mono (by omega)⟩ ?_ ?_
    · rintro e ⟨x, u3, u4, u5, u6, u8, rfl, hx⟩
      simp! only [hm, H1.sp, H1.io, H2.sp, H2.io, H3.sp, H3.io, H4.sp, H4.io, H5.sp, H5.io, H6.sp, H6.io, H7.sp, H7.io, H8.sp, H8.io]
      exact hk _ ⟨_, _, _, _, _, _, _, _, rfl⟩
    · rintro j e k' bk' hj ⟨x, u3, u4, u5, u6, u8, rfl, hx⟩ hk' _
      have m0 := Int.emod_nonneg (j : Int) (show (3 : Int) ≠ 0 by decide)
      have m1 := Int.emod_lt_of_pos (j : Int) (show (0 : Int) < 3 by decide)
      simp! only [f_law_28_b4, hm, H1.sp, H1.io, H2.sp, H2.io, H3.sp, H3.io, H4.sp, H4.io, H5.sp, H5.io, H6.sp, H6.io, H7.sp, H7.io, H8.sp, H8.io]
      refine ⟨P _ (by decide) (by decide), ?_⟩
      refine at_int (lo := 9) (hi := 10 ^ 27) m0 (by simpa using m1) (by simp) fun v v0 v1 => ?_
      simp! only [hm, H1.sp, H1.io, H2.sp, H2.io, H3.sp, H3.io, H4.sp, H4.io, H5.sp, H5.io, H6.sp, H6.io, H7.sp, H7.io, H8.sp, H8.io]
      refine ⟨_, x, 8, v, rfl, hx, by omega, by decide, by decide, by omega, by omega, fun r qs y lk hp hr hl hy => ⟨rfl, ?_⟩⟩
      have r2 := lk.1
      have n8 := lk.2.2.1
      have q38 : ∀ q ∈ qs, q < 10 ^ 38 := fun q h => by have := hp q h; omega
      have q39 : ∀ q ∈ qs, q < 10 ^ 39 := fun q h => by have := hp q h; omega
      simp! only [IL_fz, hm, H1.sp, H1.io, H2.sp, H2.io, H3.sp, H3.io, H4.sp, H4.io, H5.sp, H5.io, H6.sp, H6.io, H7.sp, H7.io, H8.sp, H8.io]
      refine ⟨P _ (by decide) (by decide), ?_⟩
      refine ⟨_, _, _, rfl, hy, by omega, (by first | decide | omega), (by first | decide | omega | exact lt_wide (by omega)), fun s2 x2 s20 s21 k2 => ⟨rfl, ?_⟩⟩
      simp! only [hm, H1.sp, H1.io, H2.sp, H2.io, H3.sp, H3.io, H4.sp, H4.io, H5.sp, H5.io, H6.sp, H6.io, H7.sp, H7.io, H8.sp, H8.io]
      refine ⟨P _ (by decide) (by decide), mul_by 8 100 (by decide) (by decide) (by decide) (by decide) (by decide), ?_⟩
      refine ⟨_, x2, r, qs, _, rfl, k2, by omega, n8, fun p h => ⟨lk.2.2.2 p h, q39 p h⟩, fun ps y3 hc hy3 => ⟨rfl, ?_⟩⟩
      have psl := chain_len2 hc
      obtain ⟨d, hd0⟩ : ∃ d, d = s2 - 5 * 100000000000000000000000000 := ⟨_, rfl⟩
      have hdb : d.natAbs ≤ 10 ^ 41 := by omega
      rw [← hd0] at hc ⊢
      obtain ⟨g1, g2⟩ := num_ok (r := r) r2 hc
      simp! only [IL_fz, hm, H1.sp, H1.io, H2.sp, H2.io, H3.sp, H3.io, H4.sp, H4.io, H5.sp, H5.io, H6.sp, H6.io, H7.sp, H7.io, H8.sp, H8.io]
      refine lcILa (xs := ps) (fun e => ∃ u7, e = [some (.lst false (IL ns)), some (.int (i : Nat)), some y3, some (.int (j : Nat)), some (.tup [.int r, .lst false (IL qs)]), some (.tup [.int d, .lst false (IL ps)]), u6, u7, u8]) (fun p => .int (p % r)) ⟨_, rfl⟩ ?_ ?_
      · rintro p hp acc e kk ⟨u7, rfl⟩ hla hkk
        simp! only [lcStep, hm, H1.sp, H1.io, H2.sp, H2.io, H3.sp, H3.io, H4.sp, H4.io, H5.sp, H5.io, H6.sp, H6.io, H7.sp, H7.io, H8.sp, H8.io]
        exact ⟨by omega, line60 (by omega), hkk _ ⟨_, rfl⟩⟩
      rintro e ⟨u7, rfl⟩
      rw [numL_il]
      -- the last part, for any gates
      have R2 : ∀ (K : Con) (y : D) (o5 o6 : Bool) (G : List Int) (u8 : Option D), K.nx = k' → K.bk = bk' → (∀ d e, K.rt d e = Q d []) → GatesOk r qs G → Coil (1000 * j + 500) y → wpSs Γ f_law_28_r2 [some (.lst false (IL ns)), some (.int (i : Nat)), some y, some (.int (j : Nat)), some (.tup [.int r, .lst false (IL qs)]), some (.tup [.int d, .lst o5 (IL ps)]), some (.lst o6 (IL G)), none, u8] K := fun K y o5 o6 G u8 hK hb hrt hG hy => by
        simp! only [f_law_28_r2, IL_fz, hm, H1.sp, H1.io, H2.sp, H2.io, H3.sp, H3.io, H4.sp, H4.io, H5.sp, H5.io, H6.sp, H6.io, H7.sp, H7.io, H8.sp, H8.io]
        refine ⟨_, qs, _, G, rfl, by omega, hG.1, lk.2.1, n8, fun b hb => ⟨rfl, ?_⟩⟩
        cases b with
        | false =>
          simp! only [hm, H1.sp, H1.io, H2.sp, H2.io, H3.sp, H3.io, H4.sp, H4.io, H5.sp, H5.io, H6.sp, H6.io, H7.sp, H7.io, H8.sp, H8.io]
          rw [hK]
          exact hk' _ ⟨_, _, _, _, _, _, rfl, hy.mono (by push_cast; omega)⟩
        | true =>
          have hd := hb.mp rfl
          simp! only [IL_fz, hm, H1.sp, H1.io, H2.sp, H2.io, H3.sp, H3.io, H4.sp, H4.io, H5.sp, H5.io, H6.sp, H6.io, H7.sp, H7.io, H8.sp, H8.io]
          refine ⟨_, y, r, qs, _, ps, _, G, rfl, hy, by omega, lk, hc, hG, hd, by omega, q38, hdb, fun y5 hy5 => ⟨rfl, ?_⟩⟩
          simp! only [hm, H1.sp, H1.io, H2.sp, H2.io, H3.sp, H3.io, H4.sp, H4.io, H5.sp, H5.io, H6.sp, H6.io, H7.sp, H7.io, H8.sp, H8.io]
          rw [hK]
          exact hk' _ ⟨_, _, _, _, _, _, rfl, hy5.mono (by push_cast; omega)⟩
      have R3 : ∀ (K : Con) (y : D) (o5 o6 : Bool) (G : List Int), K.nx = k' → K.bk = bk' → (∀ d e, K.rt d e = Q d []) → GatesOk r qs G → Coil (1000 * j + 300) y → wpSs Γ f_law_28_r3 [some (.lst false (IL ns)), some (.int (i : Nat)), some y, some (.int (j : Nat)), some (.tup [.int r, .lst false (IL qs)]), some (.tup [.int d, .lst o5 (IL ps)]), some (.lst o6 (IL G)), none, u8] K := fun K y o5 o6 G hK hb hrt hG hy => by
        have gl := hG.1
        simp! only [f_law_28_r3, IL_fz, hm, H1.sp, H1.io, H2.sp, H2.io, H3.sp, H3.io, H4.sp, H4.io, H5.sp, H5.io, H6.sp, H6.io, H7.sp, H7.io, H8.sp, H8.io]
        split
        · have psl2 := psl
          have mixed : ∀ {s : Int}, 0 ≤ s → s ≤ qs.length → GatesOk r qs (G.take s.toNat ++ (numL r ps).drop s.toNat) := fun {s} s0 s1 => by
            refine ⟨by rw [List.length_append, List.length_take, List.length_drop, g1.1]; omega, fun g hg => ?_⟩
            rcases List.mem_append.mp hg with hg | hg
            · exact hG.2 g (List.mem_of_mem_take hg)
            · exact g1.2 g (List.mem_of_mem_drop hg)
          cases o5 <;>
          · simp! only [f_law_28_b2, IL_fz, hm, H1.sp, H1.io, H2.sp, H2.io, H3.sp, H3.io, H4.sp, H4.io, H5.sp, H5.io, H6.sp, H6.io, H7.sp, H7.io, H8.sp, H8.io]
            refine ⟨_, _, _, rfl, hy, by omega, (by first | decide | omega), (by first | decide | omega | exact lt_wide (by omega)), fun s5 x5 s50 s51 k5 => ⟨rfl, ?_⟩⟩
            simp! only [hm, H1.sp, H1.io, H2.sp, H2.io, H3.sp, H3.io, H4.sp, H4.io, H5.sp, H5.io, H6.sp, H6.io, H7.sp, H7.io, H8.sp, H8.io]
            refine lcILa (xs := ps) (fun e => ∃ u7, e = [some (.lst false (IL ns)), some (.int (i : Nat)), some x5, some (.int (j : Nat)), some (.tup [.int r, .lst false (IL qs)]), some (.tup [.int d, .lst false (IL ps)]), some (.lst false (IL G)), u7, some (.int s5)]) (fun p => .int (p % r)) ⟨_, rfl⟩ ?_ ?_
            · rintro p hp acc e kk ⟨u7, rfl⟩ hla hkk
              simp! only [lcStep, hm, H1.sp, H1.io, H2.sp, H2.io, H3.sp, H3.io, H4.sp, H4.io, H5.sp, H5.io, H6.sp, H6.io, H7.sp, H7.io, H8.sp, H8.io]
              exact ⟨by omega, line60 (by omega), hkk _ ⟨_, rfl⟩⟩
            rintro e ⟨u7, rfl⟩
            rw [numL_il, cut_take (by omega) (by omega)]
            simp! only [IL_fz, hm, H1.sp, H1.io, H2.sp, H2.io, H3.sp, H3.io, H4.sp, H4.io, H5.sp, H5.io, H6.sp, H6.io, H7.sp, H7.io, H8.sp, H8.io]
            rw [cut_drop (by omega) (by rw [g1.1]; omega), IL_fz]
            have mx := mixed (s := s5) (by omega) (by omega)
            refine ⟨Nat.le_of_lt (line60 (by rw [IL_len]; have := mx.1; rw [List.length_append] at this; omega)), ?_⟩
            rw [show IL (G.take s5.toNat) ++ IL ((numL r ps).drop s5.toNat) = IL (G.take s5.toNat ++ (numL r ps).drop s5.toNat) by unfold IL; rw [List.map_append]]
            exact R2 _ _ _ _ _ _ hK hb hrt mx (k5.mono (by omega))
        · exact R2 _ _ _ _ _ _ hK hb hrt hG (hy.mono (by omega))
      simp! only [f_law_28_r4, IL_fz, hm, H1.sp, H1.io, H2.sp, H2.io, H3.sp, H3.io, H4.sp, H4.io, H5.sp, H5.io, H6.sp, H6.io, H7.sp, H7.io, H8.sp, H8.io]
      split
      · simp! only [f_law_28_b3, IL_fz, hm, H1.sp, H1.io, H2.sp, H2.io, H3.sp, H3.io, H4.sp, H4.io, H5.sp, H5.io, H6.sp, H6.io, H7.sp, H7.io, H8.sp, H8.io]
        refine ⟨_, y3, r, qs, rfl, hy3, by omega, lk, by omega, q39, fun o4 G y4 g3 g4 hy4 => ⟨rfl, ?_⟩⟩
        simp! only [IL_fz, hm, H1.sp, H1.io, H2.sp, H2.io, H3.sp, H3.io, H4.sp, H4.io, H5.sp, H5.io, H6.sp, H6.io, H7.sp, H7.io, H8.sp, H8.io]
        exact R3 _ _ _ _ _ rfl rfl (fun _ _ => rfl) g3 (hy4.mono (by omega))
      · exact R3 _ _ _ _ _ rfl rfl (fun _ _ => rfl) g1 (hy3.mono (by omega))

end DP
namespace DP
open PySem (Addr Value Shared Str Stmt Scope World Program mainGlobals)
def top (i : Nat) : Stmt := PySem.Challenge.pw_dialpack_k29_dialings_of_great_numbers.main.body.getD i (.Pass ⟨0, 0, 0, 0⟩)
def glL : List (String × D) := [("MOST_WHEELS", .int 8)]
def clNm : List String := []
def e_length_of : Ent := { nm := "length_of", ps := ["turns"], ios := [], sp := sp_length_of, kws := [] }
def e_wheel_reaches : Ent := { nm := "wheel_reaches", ps := ["lock"], ios := [], sp := sp_wheel_reaches, kws := [] }
def e_stops_ahead : Ent := { nm := "stops_ahead", ps := ["lock", "gates", "index", "place", "is_low"], ios := [], sp := sp_stops_ahead, kws := [] }
def e_dialings : Ent := { nm := "dialings", ps := ["lock", "state", "gates"], ios := [], sp := sp_dialings, kws := [] }
def e_turns_to : Ent := { nm := "turns_to", ps := ["dial", "stops"], ios := [], sp := sp_turns_to, kws := [] }
def e_best_turns : Ent := { nm := "best_turns", ps := ["dial", "lists"], ios := [], sp := sp_best_turns, kws := [] }
def e_is_integer : Ent := { nm := "is_integer", ps := ["value"], ios := [], sp := sp_is_integer, kws := [] }
def e_is_at_least : Ent := { nm := "is_at_least", ps := ["value", "least"], ios := [], sp := sp_is_at_least, kws := [] }
def e_lock_fault : Ent := { nm := "lock_fault", ps := ["value"], ios := [], sp := sp_lock_fault, kws := [] }
def e_require_lock : Ent := { nm := "require_lock", ps := ["lock"], ios := [], sp := sp_require_lock, kws := [] }
def e_places_right : Ent := { nm := "places_right", ps := ["plays", "dial", "places"], ios := [], sp := sp_places_right, kws := [] }
def e_state_fault : Ent := { nm := "state_fault", ps := ["lock", "value"], ios := [], sp := sp_state_fault, kws := [] }
def e_require_state : Ent := { nm := "require_state", ps := ["lock", "state"], ios := [], sp := sp_require_state, kws := [] }
def e_gates_fault : Ent := { nm := "gates_fault", ps := ["lock", "value"], ios := [], sp := sp_gates_fault, kws := [] }
def e_require_gates : Ent := { nm := "require_gates", ps := ["lock", "gates"], ios := [], sp := sp_require_gates, kws := [] }
def e_require_dialed : Ent := { nm := "require_dialed", ps := ["lock", "gates"], ios := [], sp := sp_require_dialedN, kws := [] }
def e_require_dialing : Ent := { nm := "require_dialing", ps := ["lock", "state", "gates"], ios := [], sp := sp_require_dialingN, kws := [] }
def e_least_way : Ent := { nm := "least_way", ps := ["lock", "state", "gates"], ios := [], sp := sp_least_wayN, kws := [] }
def e__law_tank : Ent := { nm := "_law_tank", ps := ["script", "at"], ios := [], sp := sp_tank, kws := [] }
def e__law_tap : Ent := { nm := "_law_tap", ps := ["tank", "many"], ios := [true], sp := sp_cdraw, kws := [] }
def e__law_box : Ent := { nm := "_law_box", ps := ["tank", "most", "top"], ios := [true], sp := sp_boxT, kws := [] }
def e__law_pose : Ent := { nm := "_law_pose", ps := ["tank", "box", "spin"], ios := [true], sp := sp_past, kws := [] }
def e__law_gates : Ent := { nm := "_law_gates", ps := ["tank", "box", "kind"], ios := [true], sp := sp_lgates0, kws := [] }
def e__law_can : Ent := { nm := "_law_can", ps := ["box", "marks"], ios := [], sp := sp_lcan, kws := [] }
def e_least_turns : Ent := { nm := "least_turns", ps := ["lock", "state", "gates"], ios := [], sp := sp_least_turnsN, kws := [] }
def e__law_behind : Ent := { nm := "_law_behind", ps := ["box", "pose", "turned"], ios := [], sp := sp_lbehind, kws := [] }
def e__law_are_turns : Ent := { nm := "_law_are_turns", ps := ["thing"], ios := [], sp := sp_are_turnsV, kws := [] }
def e__law_length : Ent := { nm := "_law_length", ps := ["turned"], ios := [], sp := sp_length_of, kws := [] }
def e__law_has : Ent := { nm := "_law_has", ps := ["box", "pose", "marks"], ios := [], sp := sp_lhas, kws := [] }
def e__law_sums : Ent := { nm := "_law_sums", ps := ["box"], ios := [], sp := sp_lreaches, kws := [] }
def e__law_gaps : Ent := { nm := "_law_gaps", ps := ["box", "marks", "spot"], ios := [], sp := sp_lgaps, kws := [] }
def e__law_ahead : Ent := { nm := "_law_ahead", ps := ["box", "marks", "sums"], ios := [], sp := sp_lahead29, kws := [] }
def e__law_due : Ent := { nm := "_law_due", ps := ["box", "pose", "marks"], ios := [], sp := sp_ldue29, kws := [] }
def e__law_right : Ent := { nm := "_law_right", ps := ["tank", "box", "pose", "marks"], ios := [true], sp := sp_lright29, kws := [] }
theorem dok_length_of : dokB [] glL [] [] clNm f_length_of [] (top 20) = true := by decide +kernel
theorem bp_length_of : BindPos (PySem.Str.ofString "length_of") (top 20) (f_length_of.ps.map PySem.Str.ofString) := fun _ _ _ _ _ _ us hl => match us, hl with | [_], _ => rfl
theorem spec_length_of : ∀ ds Qd Rd, ds.length = f_length_of.ps.length → sp_length_of ds Qd Rd → wpF (sigOf [] (meFrom 0 [])) f_length_of ds Qd Rd := fun ds Qd Rd _ h => w_length_of rfl  ds Qd Rd h
theorem dok_wheel_reaches : dokB [e_length_of] glL [] [] clNm f_wheel_reaches [] (top 17) = true := by decide +kernel
theorem bp_wheel_reaches : BindPos (PySem.Str.ofString "wheel_reaches") (top 17) (f_wheel_reaches.ps.map PySem.Str.ofString) := fun _ _ _ _ _ _ us hl => match us, hl with | [_], _ => rfl
theorem spec_wheel_reaches : ∀ ds Qd Rd, ds.length = f_wheel_reaches.ps.length → sp_wheel_reaches ds Qd Rd → wpF (sigOf [e_length_of] (meFrom 0 [])) f_wheel_reaches ds Qd Rd := fun ds Qd Rd _ h => w_wheel_reaches rfl  ds Qd Rd h
theorem dok_stops_ahead : dokB [e_length_of, e_wheel_reaches] glL [] [("wheel_reaches", 1)] clNm f_stops_ahead [] (top 23) = true := by decide +kernel
theorem bp_stops_ahead : BindPos (PySem.Str.ofString "stops_ahead") (top 23) (f_stops_ahead.ps.map PySem.Str.ofString) := fun _ _ _ _ _ _ us hl => match us, hl with | [_, _, _, _, _], _ => rfl
theorem spec_stops_ahead : ∀ ds Qd Rd, ds.length = f_stops_ahead.ps.length → sp_stops_ahead ds Qd Rd → wpF (sigOf [e_length_of, e_wheel_reaches] (meFrom 0 [])) f_stops_ahead ds Qd Rd := fun ds Qd Rd _ h => w_stops_ahead rfl ⟨rfl, rfl⟩ ds Qd Rd h
theorem dok_dialings : dokB [e_length_of, e_wheel_reaches, e_stops_ahead] glL [] [("stops_ahead", 5), ("wheel_reaches", 1)] clNm f_dialings [] (top 24) = true := by decide +kernel
theorem bp_dialings : BindPos (PySem.Str.ofString "dialings") (top 24) (f_dialings.ps.map PySem.Str.ofString) := fun _ _ _ _ _ _ us hl => match us, hl with | [_, _, _], _ => rfl
theorem spec_dialings : ∀ ds Qd Rd, ds.length = f_dialings.ps.length → sp_dialings ds Qd Rd → wpF (sigOf [e_length_of, e_wheel_reaches, e_stops_ahead] (meFrom 0 [])) f_dialings ds Qd Rd := fun ds Qd Rd _ h => w_dialings rfl ⟨rfl, rfl⟩ ⟨rfl, rfl⟩ ds Qd Rd h
theorem dok_turns_to : dokB [e_length_of, e_wheel_reaches, e_stops_ahead, e_dialings] glL [] [] clNm f_turns_to [] (top 19) = true := by decide +kernel
theorem bp_turns_to : BindPos (PySem.Str.ofString "turns_to") (top 19) (f_turns_to.ps.map PySem.Str.ofString) := fun _ _ _ _ _ _ us hl => match us, hl with | [_, _], _ => rfl
theorem spec_turns_to : ∀ ds Qd Rd, ds.length = f_turns_to.ps.length → sp_turns_to ds Qd Rd → wpF (sigOf [e_length_of, e_wheel_reaches, e_stops_ahead, e_dialings] (meFrom 0 [])) f_turns_to ds Qd Rd := fun ds Qd Rd _ h => w_turns_to rfl  ds Qd Rd h
theorem dok_best_turns : dokB [e_length_of, e_wheel_reaches, e_stops_ahead, e_dialings, e_turns_to] glL [] [("length_of", 1), ("turns_to", 2)] clNm f_best_turns [] (top 25) = true := by decide +kernel
theorem bp_best_turns : BindPos (PySem.Str.ofString "best_turns") (top 25) (f_best_turns.ps.map PySem.Str.ofString) := fun _ _ _ _ _ _ us hl => match us, hl with | [_, _], _ => rfl
theorem spec_best_turns : ∀ ds Qd Rd, ds.length = f_best_turns.ps.length → sp_best_turns ds Qd Rd → wpF (sigOf [e_length_of, e_wheel_reaches, e_stops_ahead, e_dialings, e_turns_to] (meFrom 0 [])) f_best_turns ds Qd Rd := fun ds Qd Rd _ h => w_best_turns rfl ⟨rfl, rfl⟩ ⟨rfl, rfl⟩ ds Qd Rd h
theorem dok_is_integer : dokB [e_length_of, e_wheel_reaches, e_stops_ahead, e_dialings, e_turns_to, e_best_turns] glL [] [] clNm f_is_integer [] (top 8) = true := by decide +kernel
theorem bp_is_integer : BindPos (PySem.Str.ofString "is_integer") (top 8) (f_is_integer.ps.map PySem.Str.ofString) := fun _ _ _ _ _ _ us hl => match us, hl with | [_], _ => rfl
theorem spec_is_integer : ∀ ds Qd Rd, ds.length = f_is_integer.ps.length → sp_is_integer ds Qd Rd → wpF (sigOf [e_length_of, e_wheel_reaches, e_stops_ahead, e_dialings, e_turns_to, e_best_turns] (meFrom 0 [])) f_is_integer ds Qd Rd := fun ds Qd Rd _ h => w_is_integer rfl  ds Qd Rd h
theorem dok_is_at_least : dokB [e_length_of, e_wheel_reaches, e_stops_ahead, e_dialings, e_turns_to, e_best_turns, e_is_integer] glL [] [("is_integer", 1)] clNm f_is_at_least [] (top 9) = true := by decide +kernel
theorem bp_is_at_least : BindPos (PySem.Str.ofString "is_at_least") (top 9) (f_is_at_least.ps.map PySem.Str.ofString) := fun _ _ _ _ _ _ us hl => match us, hl with | [_, _], _ => rfl
theorem spec_is_at_least : ∀ ds Qd Rd, ds.length = f_is_at_least.ps.length → sp_is_at_least ds Qd Rd → wpF (sigOf [e_length_of, e_wheel_reaches, e_stops_ahead, e_dialings, e_turns_to, e_best_turns, e_is_integer] (meFrom 0 [])) f_is_at_least ds Qd Rd := fun ds Qd Rd _ h => w_is_at_least rfl ⟨rfl, rfl⟩ ds Qd Rd h
theorem dok_lock_fault : dokB [e_length_of, e_wheel_reaches, e_stops_ahead, e_dialings, e_turns_to, e_best_turns, e_is_integer, e_is_at_least] glL [] [("is_at_least", 2)] clNm f_lock_fault [] (top 10) = true := by decide +kernel
theorem bp_lock_fault : BindPos (PySem.Str.ofString "lock_fault") (top 10) (f_lock_fault.ps.map PySem.Str.ofString) := fun _ _ _ _ _ _ us hl => match us, hl with | [_], _ => rfl
theorem spec_lock_fault : ∀ ds Qd Rd, ds.length = f_lock_fault.ps.length → sp_lock_fault ds Qd Rd → wpF (sigOf [e_length_of, e_wheel_reaches, e_stops_ahead, e_dialings, e_turns_to, e_best_turns, e_is_integer, e_is_at_least] (meFrom 0 [])) f_lock_fault ds Qd Rd := fun ds Qd Rd _ h => w_lock_fault rfl ⟨rfl, rfl⟩ ds Qd Rd h
theorem dok_require_lock : dokB [e_length_of, e_wheel_reaches, e_stops_ahead, e_dialings, e_turns_to, e_best_turns, e_is_integer, e_is_at_least, e_lock_fault] glL [] [("lock_fault", 1)] clNm f_require_lock [] (top 14) = true := by decide +kernel
theorem bp_require_lock : BindPos (PySem.Str.ofString "require_lock") (top 14) (f_require_lock.ps.map PySem.Str.ofString) := fun _ _ _ _ _ _ us hl => match us, hl with | [_], _ => rfl
theorem spec_require_lock : ∀ ds Qd Rd, ds.length = f_require_lock.ps.length → sp_require_lock ds Qd Rd → wpF (sigOf [e_length_of, e_wheel_reaches, e_stops_ahead, e_dialings, e_turns_to, e_best_turns, e_is_integer, e_is_at_least, e_lock_fault] (meFrom 0 [])) f_require_lock ds Qd Rd := fun ds Qd Rd _ h => w_require_lock rfl ⟨rfl, rfl⟩ ds Qd Rd h
theorem dok_places_right : dokB [e_length_of, e_wheel_reaches, e_stops_ahead, e_dialings, e_turns_to, e_best_turns, e_is_integer, e_is_at_least, e_lock_fault, e_require_lock] glL [] [("is_integer", 1)] clNm f_places_right [] (top 11) = true := by decide +kernel
theorem bp_places_right : BindPos (PySem.Str.ofString "places_right") (top 11) (f_places_right.ps.map PySem.Str.ofString) := fun _ _ _ _ _ _ us hl => match us, hl with | [_, _, _], _ => rfl
theorem spec_places_right : ∀ ds Qd Rd, ds.length = f_places_right.ps.length → sp_places_right ds Qd Rd → wpF (sigOf [e_length_of, e_wheel_reaches, e_stops_ahead, e_dialings, e_turns_to, e_best_turns, e_is_integer, e_is_at_least, e_lock_fault, e_require_lock] (meFrom 0 [])) f_places_right ds Qd Rd := fun ds Qd Rd _ h => w_places_right rfl ⟨rfl, rfl⟩ ds Qd Rd h
theorem dok_state_fault : dokB [e_length_of, e_wheel_reaches, e_stops_ahead, e_dialings, e_turns_to, e_best_turns, e_is_integer, e_is_at_least, e_lock_fault, e_require_lock, e_places_right] glL [] [("is_integer", 1), ("places_right", 3)] clNm f_state_fault [] (top 12) = true := by decide +kernel
theorem bp_state_fault : BindPos (PySem.Str.ofString "state_fault") (top 12) (f_state_fault.ps.map PySem.Str.ofString) := fun _ _ _ _ _ _ us hl => match us, hl with | [_, _], _ => rfl
theorem spec_state_fault : ∀ ds Qd Rd, ds.length = f_state_fault.ps.length → sp_state_fault ds Qd Rd → wpF (sigOf [e_length_of, e_wheel_reaches, e_stops_ahead, e_dialings, e_turns_to, e_best_turns, e_is_integer, e_is_at_least, e_lock_fault, e_require_lock, e_places_right] (meFrom 0 [])) f_state_fault ds Qd Rd := fun ds Qd Rd _ h => w_state_fault rfl ⟨rfl, rfl⟩ ⟨rfl, rfl⟩ ds Qd Rd h
theorem dok_require_state : dokB [e_length_of, e_wheel_reaches, e_stops_ahead, e_dialings, e_turns_to, e_best_turns, e_is_integer, e_is_at_least, e_lock_fault, e_require_lock, e_places_right, e_state_fault] glL [] [("state_fault", 2)] clNm f_require_state [] (top 15) = true := by decide +kernel
theorem bp_require_state : BindPos (PySem.Str.ofString "require_state") (top 15) (f_require_state.ps.map PySem.Str.ofString) := fun _ _ _ _ _ _ us hl => match us, hl with | [_, _], _ => rfl
theorem spec_require_state : ∀ ds Qd Rd, ds.length = f_require_state.ps.length → sp_require_state ds Qd Rd → wpF (sigOf [e_length_of, e_wheel_reaches, e_stops_ahead, e_dialings, e_turns_to, e_best_turns, e_is_integer, e_is_at_least, e_lock_fault, e_require_lock, e_places_right, e_state_fault] (meFrom 0 [])) f_require_state ds Qd Rd := fun ds Qd Rd _ h => w_require_state rfl ⟨rfl, rfl⟩ ds Qd Rd h
theorem dok_gates_fault : dokB [e_length_of, e_wheel_reaches, e_stops_ahead, e_dialings, e_turns_to, e_best_turns, e_is_integer, e_is_at_least, e_lock_fault, e_require_lock, e_places_right, e_state_fault, e_require_state] glL [] [("is_at_least", 2)] clNm f_gates_fault [] (top 13) = true := by decide +kernel
theorem bp_gates_fault : BindPos (PySem.Str.ofString "gates_fault") (top 13) (f_gates_fault.ps.map PySem.Str.ofString) := fun _ _ _ _ _ _ us hl => match us, hl with | [_, _], _ => rfl
theorem spec_gates_fault : ∀ ds Qd Rd, ds.length = f_gates_fault.ps.length → sp_gates_fault ds Qd Rd → wpF (sigOf [e_length_of, e_wheel_reaches, e_stops_ahead, e_dialings, e_turns_to, e_best_turns, e_is_integer, e_is_at_least, e_lock_fault, e_require_lock, e_places_right, e_state_fault, e_require_state] (meFrom 0 [])) f_gates_fault ds Qd Rd := fun ds Qd Rd _ h => w_gates_fault rfl ⟨rfl, rfl⟩ ds Qd Rd h
theorem dok_require_gates : dokB [e_length_of, e_wheel_reaches, e_stops_ahead, e_dialings, e_turns_to, e_best_turns, e_is_integer, e_is_at_least, e_lock_fault, e_require_lock, e_places_right, e_state_fault, e_require_state, e_gates_fault] glL [] [("gates_fault", 2)] clNm f_require_gates [] (top 16) = true := by decide +kernel
theorem bp_require_gates : BindPos (PySem.Str.ofString "require_gates") (top 16) (f_require_gates.ps.map PySem.Str.ofString) := fun _ _ _ _ _ _ us hl => match us, hl with | [_, _], _ => rfl
theorem spec_require_gates : ∀ ds Qd Rd, ds.length = f_require_gates.ps.length → sp_require_gates ds Qd Rd → wpF (sigOf [e_length_of, e_wheel_reaches, e_stops_ahead, e_dialings, e_turns_to, e_best_turns, e_is_integer, e_is_at_least, e_lock_fault, e_require_lock, e_places_right, e_state_fault, e_require_state, e_gates_fault] (meFrom 0 [])) f_require_gates ds Qd Rd := fun ds Qd Rd _ h => w_require_gates rfl ⟨rfl, rfl⟩ ds Qd Rd h
theorem dok_require_dialed : dokB [e_length_of, e_wheel_reaches, e_stops_ahead, e_dialings, e_turns_to, e_best_turns, e_is_integer, e_is_at_least, e_lock_fault, e_require_lock, e_places_right, e_state_fault, e_require_state, e_gates_fault, e_require_gates] glL [] [] clNm f_require_dialed [] (top 22) = true := by decide +kernel
theorem bp_require_dialed : BindPos (PySem.Str.ofString "require_dialed") (top 22) (f_require_dialed.ps.map PySem.Str.ofString) := fun _ _ _ _ _ _ us hl => match us, hl with | [_, _], _ => rfl
theorem spec_require_dialed : ∀ ds Qd Rd, ds.length = f_require_dialed.ps.length → sp_require_dialedN ds Qd Rd → wpF (sigOf [e_length_of, e_wheel_reaches, e_stops_ahead, e_dialings, e_turns_to, e_best_turns, e_is_integer, e_is_at_least, e_lock_fault, e_require_lock, e_places_right, e_state_fault, e_require_state, e_gates_fault, e_require_gates] (meFrom 0 [])) f_require_dialed ds Qd Rd := fun ds Qd Rd _ h => w_require_dialedN rfl  ds Qd Rd h
theorem dok_require_dialing : dokB [e_length_of, e_wheel_reaches, e_stops_ahead, e_dialings, e_turns_to, e_best_turns, e_is_integer, e_is_at_least, e_lock_fault, e_require_lock, e_places_right, e_state_fault, e_require_state, e_gates_fault, e_require_gates, e_require_dialed] glL [] [("require_dialed", 2), ("require_gates", 2), ("require_lock", 1), ("require_state", 2)] clNm f_require_dialing [] (top 26) = true := by decide +kernel
theorem bp_require_dialing : BindPos (PySem.Str.ofString "require_dialing") (top 26) (f_require_dialing.ps.map PySem.Str.ofString) := fun _ _ _ _ _ _ us hl => match us, hl with | [_, _, _], _ => rfl
theorem spec_require_dialing : ∀ ds Qd Rd, ds.length = f_require_dialing.ps.length → sp_require_dialingN ds Qd Rd → wpF (sigOf [e_length_of, e_wheel_reaches, e_stops_ahead, e_dialings, e_turns_to, e_best_turns, e_is_integer, e_is_at_least, e_lock_fault, e_require_lock, e_places_right, e_state_fault, e_require_state, e_gates_fault, e_require_gates, e_require_dialed] (meFrom 0 [])) f_require_dialing ds Qd Rd := fun ds Qd Rd _ h => w_require_dialingN rfl ⟨rfl, rfl⟩ ⟨rfl, rfl⟩ ⟨rfl, rfl⟩ ⟨rfl, rfl⟩ ds Qd Rd h
theorem dok_least_way : dokB [e_length_of, e_wheel_reaches, e_stops_ahead, e_dialings, e_turns_to, e_best_turns, e_is_integer, e_is_at_least, e_lock_fault, e_require_lock, e_places_right, e_state_fault, e_require_state, e_gates_fault, e_require_gates, e_require_dialed, e_require_dialing] glL [] [("best_turns", 2), ("dialings", 3), ("length_of", 1), ("require_dialing", 3)] clNm f_least_way [] (top 28) = true := by decide +kernel
theorem bp_least_way : BindPos (PySem.Str.ofString "least_way") (top 28) (f_least_way.ps.map PySem.Str.ofString) := fun _ _ _ _ _ _ us hl => match us, hl with | [_, _, _], _ => rfl
theorem spec_least_way : ∀ ds Qd Rd, ds.length = f_least_way.ps.length → sp_least_wayN ds Qd Rd → wpF (sigOf [e_length_of, e_wheel_reaches, e_stops_ahead, e_dialings, e_turns_to, e_best_turns, e_is_integer, e_is_at_least, e_lock_fault, e_require_lock, e_places_right, e_state_fault, e_require_state, e_gates_fault, e_require_gates, e_require_dialed, e_require_dialing] (meFrom 0 [])) f_least_way ds Qd Rd := fun ds Qd Rd _ h => w_least_wayN rfl ⟨rfl, rfl⟩ ⟨rfl, rfl⟩ ⟨rfl, rfl⟩ ⟨rfl, rfl⟩ ds Qd Rd h
theorem dok__law_tank : dokB [e_length_of, e_wheel_reaches, e_stops_ahead, e_dialings, e_turns_to, e_best_turns, e_is_integer, e_is_at_least, e_lock_fault, e_require_lock, e_places_right, e_state_fault, e_require_state, e_gates_fault, e_require_gates, e_require_dialed, e_require_dialing, e_least_way] glL [] [] clNm f__law_tank [] (top 30) = true := by decide +kernel
theorem bp__law_tank : BindPos (PySem.Str.ofString "_law_tank") (top 30) (f__law_tank.ps.map PySem.Str.ofString) := fun _ _ _ _ _ _ us hl => match us, hl with | [_, _], _ => rfl
theorem spec__law_tank : ∀ ds Qd Rd, ds.length = f__law_tank.ps.length → sp_tank ds Qd Rd → wpF (sigOf [e_length_of, e_wheel_reaches, e_stops_ahead, e_dialings, e_turns_to, e_best_turns, e_is_integer, e_is_at_least, e_lock_fault, e_require_lock, e_places_right, e_state_fault, e_require_state, e_gates_fault, e_require_gates, e_require_dialed, e_require_dialing, e_least_way] (meFrom 0 [])) f__law_tank ds Qd Rd := fun ds Qd Rd _ h => w_tank rfl  ds Qd Rd h
theorem dok__law_tap : dokB [e_length_of, e_wheel_reaches, e_stops_ahead, e_dialings, e_turns_to, e_best_turns, e_is_integer, e_is_at_least, e_lock_fault, e_require_lock, e_places_right, e_state_fault, e_require_state, e_gates_fault, e_require_gates, e_require_dialed, e_require_dialing, e_least_way, e__law_tank] glL [] [] clNm f__law_tap [true] (top 31) = true := by decide +kernel
theorem bp__law_tap : BindPos (PySem.Str.ofString "_law_tap") (top 31) (f__law_tap.ps.map PySem.Str.ofString) := fun _ _ _ _ _ _ us hl => match us, hl with | [_, _], _ => rfl
theorem spec__law_tap : ∀ ds Qd Rd, ds.length = f__law_tap.ps.length → sp_cdraw ds Qd Rd → wpF (sigOf [e_length_of, e_wheel_reaches, e_stops_ahead, e_dialings, e_turns_to, e_best_turns, e_is_integer, e_is_at_least, e_lock_fault, e_require_lock, e_places_right, e_state_fault, e_require_state, e_gates_fault, e_require_gates, e_require_dialed, e_require_dialing, e_least_way, e__law_tank] (meFrom 0 [true])) f__law_tap ds Qd Rd := fun ds Qd Rd _ h => w_tap rfl  ds Qd Rd h
theorem dok__law_box : dokB [e_length_of, e_wheel_reaches, e_stops_ahead, e_dialings, e_turns_to, e_best_turns, e_is_integer, e_is_at_least, e_lock_fault, e_require_lock, e_places_right, e_state_fault, e_require_state, e_gates_fault, e_require_gates, e_require_dialed, e_require_dialing, e_least_way, e__law_tank, e__law_tap] glL [] [("_law_tap", 2)] clNm f__law_box_1 [true] (top 32) = true := by decide +kernel
theorem bp__law_box : BindPos (PySem.Str.ofString "_law_box") (top 32) (f__law_box_1.ps.map PySem.Str.ofString) := fun _ _ _ _ _ _ us hl => match us, hl with | [_, _, _], _ => rfl
theorem spec__law_box : ∀ ds Qd Rd, ds.length = f__law_box_1.ps.length → sp_boxT ds Qd Rd → wpF (sigOf [e_length_of, e_wheel_reaches, e_stops_ahead, e_dialings, e_turns_to, e_best_turns, e_is_integer, e_is_at_least, e_lock_fault, e_require_lock, e_places_right, e_state_fault, e_require_state, e_gates_fault, e_require_gates, e_require_dialed, e_require_dialing, e_least_way, e__law_tank, e__law_tap] (meFrom 0 [true])) f__law_box_1 ds Qd Rd := fun ds Qd Rd _ h => w_boxT rfl ⟨rfl, rfl⟩ ds Qd Rd h
theorem dok__law_pose : dokB [e_length_of, e_wheel_reaches, e_stops_ahead, e_dialings, e_turns_to, e_best_turns, e_is_integer, e_is_at_least, e_lock_fault, e_require_lock, e_places_right, e_state_fault, e_require_state, e_gates_fault, e_require_gates, e_require_dialed, e_require_dialing, e_least_way, e__law_tank, e__law_tap, e__law_box] glL [] [("_law_tap", 2)] clNm f__law_pose [true] (top 33) = true := by decide +kernel
theorem bp__law_pose : BindPos (PySem.Str.ofString "_law_pose") (top 33) (f__law_pose.ps.map PySem.Str.ofString) := fun _ _ _ _ _ _ us hl => match us, hl with | [_, _, _], _ => rfl
theorem spec__law_pose : ∀ ds Qd Rd, ds.length = f__law_pose.ps.length → sp_past ds Qd Rd → wpF (sigOf [e_length_of, e_wheel_reaches, e_stops_ahead, e_dialings, e_turns_to, e_best_turns, e_is_integer, e_is_at_least, e_lock_fault, e_require_lock, e_places_right, e_state_fault, e_require_state, e_gates_fault, e_require_gates, e_require_dialed, e_require_dialing, e_least_way, e__law_tank, e__law_tap, e__law_box] (meFrom 0 [true])) f__law_pose ds Qd Rd := fun ds Qd Rd _ h => w_pose rfl ⟨rfl, rfl⟩ ds Qd Rd h
theorem dok__law_gates : dokB [e_length_of, e_wheel_reaches, e_stops_ahead, e_dialings, e_turns_to, e_best_turns, e_is_integer, e_is_at_least, e_lock_fault, e_require_lock, e_places_right, e_state_fault, e_require_state, e_gates_fault, e_require_gates, e_require_dialed, e_require_dialing, e_least_way, e__law_tank, e__law_tap, e__law_box, e__law_pose] glL [] [("_law_pose", 3), ("_law_tap", 2)] clNm f__law_gates_0 [true] (top 38) = true := by decide +kernel
theorem bp__law_gates : BindPos (PySem.Str.ofString "_law_gates") (top 38) (f__law_gates_0.ps.map PySem.Str.ofString) := fun _ _ _ _ _ _ us hl => match us, hl with | [_, _, _], _ => rfl
theorem spec__law_gates : ∀ ds Qd Rd, ds.length = f__law_gates_0.ps.length → sp_lgates0 ds Qd Rd → wpF (sigOf [e_length_of, e_wheel_reaches, e_stops_ahead, e_dialings, e_turns_to, e_best_turns, e_is_integer, e_is_at_least, e_lock_fault, e_require_lock, e_places_right, e_state_fault, e_require_state, e_gates_fault, e_require_gates, e_require_dialed, e_require_dialing, e_least_way, e__law_tank, e__law_tap, e__law_box, e__law_pose] (meFrom 0 [true])) f__law_gates_0 ds Qd Rd := fun ds Qd Rd _ h => w_lgates0 rfl ⟨rfl, rfl⟩ ⟨rfl, rfl⟩ ds Qd Rd h
theorem dok__law_can : dokB [e_length_of, e_wheel_reaches, e_stops_ahead, e_dialings, e_turns_to, e_best_turns, e_is_integer, e_is_at_least, e_lock_fault, e_require_lock, e_places_right, e_state_fault, e_require_state, e_gates_fault, e_require_gates, e_require_dialed, e_require_dialing, e_least_way, e__law_tank, e__law_tap, e__law_box, e__law_pose, e__law_gates] glL [] [] clNm f__law_can [] (top 39) = true := by decide +kernel
theorem bp__law_can : BindPos (PySem.Str.ofString "_law_can") (top 39) (f__law_can.ps.map PySem.Str.ofString) := fun _ _ _ _ _ _ us hl => match us, hl with | [_, _], _ => rfl
theorem spec__law_can : ∀ ds Qd Rd, ds.length = f__law_can.ps.length → sp_lcan ds Qd Rd → wpF (sigOf [e_length_of, e_wheel_reaches, e_stops_ahead, e_dialings, e_turns_to, e_best_turns, e_is_integer, e_is_at_least, e_lock_fault, e_require_lock, e_places_right, e_state_fault, e_require_state, e_gates_fault, e_require_gates, e_require_dialed, e_require_dialing, e_least_way, e__law_tank, e__law_tap, e__law_box, e__law_pose, e__law_gates] (meFrom 0 [])) f__law_can ds Qd Rd := fun ds Qd Rd _ h => w_lcan rfl  ds Qd Rd h
theorem dok_least_turns : dokB [e_length_of, e_wheel_reaches, e_stops_ahead, e_dialings, e_turns_to, e_best_turns, e_is_integer, e_is_at_least, e_lock_fault, e_require_lock, e_places_right, e_state_fault, e_require_state, e_gates_fault, e_require_gates, e_require_dialed, e_require_dialing, e_least_way, e__law_tank, e__law_tap, e__law_box, e__law_pose, e__law_gates, e__law_can] glL [] [("best_turns", 2), ("dialings", 3), ("require_dialing", 3)] clNm f_least_turns [] (top 27) = true := by decide +kernel
theorem bp_least_turns : BindPos (PySem.Str.ofString "least_turns") (top 27) (f_least_turns.ps.map PySem.Str.ofString) := fun _ _ _ _ _ _ us hl => match us, hl with | [_, _, _], _ => rfl
theorem spec_least_turns : ∀ ds Qd Rd, ds.length = f_least_turns.ps.length → sp_least_turnsN ds Qd Rd → wpF (sigOf [e_length_of, e_wheel_reaches, e_stops_ahead, e_dialings, e_turns_to, e_best_turns, e_is_integer, e_is_at_least, e_lock_fault, e_require_lock, e_places_right, e_state_fault, e_require_state, e_gates_fault, e_require_gates, e_require_dialed, e_require_dialing, e_least_way, e__law_tank, e__law_tap, e__law_box, e__law_pose, e__law_gates, e__law_can] (meFrom 0 [])) f_least_turns ds Qd Rd := fun ds Qd Rd _ h => w_least_turnsN rfl ⟨rfl, rfl⟩ ⟨rfl, rfl⟩ ⟨rfl, rfl⟩ ds Qd Rd h
theorem dok__law_behind : dokB [e_length_of, e_wheel_reaches, e_stops_ahead, e_dialings, e_turns_to, e_best_turns, e_is_integer, e_is_at_least, e_lock_fault, e_require_lock, e_places_right, e_state_fault, e_require_state, e_gates_fault, e_require_gates, e_require_dialed, e_require_dialing, e_least_way, e__law_tank, e__law_tap, e__law_box, e__law_pose, e__law_gates, e__law_can, e_least_turns] glL [] [] clNm f__law_behind_2 [] (top 35) = true := by decide +kernel
theorem bp__law_behind : BindPos (PySem.Str.ofString "_law_behind") (top 35) (f__law_behind_2.ps.map PySem.Str.ofString) := fun _ _ _ _ _ _ us hl => match us, hl with | [_, _, _], _ => rfl
theorem spec__law_behind : ∀ ds Qd Rd, ds.length = f__law_behind_2.ps.length → sp_lbehind ds Qd Rd → wpF (sigOf [e_length_of, e_wheel_reaches, e_stops_ahead, e_dialings, e_turns_to, e_best_turns, e_is_integer, e_is_at_least, e_lock_fault, e_require_lock, e_places_right, e_state_fault, e_require_state, e_gates_fault, e_require_gates, e_require_dialed, e_require_dialing, e_least_way, e__law_tank, e__law_tap, e__law_box, e__law_pose, e__law_gates, e__law_can, e_least_turns] (meFrom 0 [])) f__law_behind_2 ds Qd Rd := fun ds Qd Rd _ h => w_lbehind2 rfl  ds Qd Rd h
theorem dok__law_are_turns : dokB [e_length_of, e_wheel_reaches, e_stops_ahead, e_dialings, e_turns_to, e_best_turns, e_is_integer, e_is_at_least, e_lock_fault, e_require_lock, e_places_right, e_state_fault, e_require_state, e_gates_fault, e_require_gates, e_require_dialed, e_require_dialing, e_least_way, e__law_tank, e__law_tap, e__law_box, e__law_pose, e__law_gates, e__law_can, e_least_turns, e__law_behind] glL [] [] clNm f__law_are_turns [] (top 36) = true := by decide +kernel
theorem bp__law_are_turns : BindPos (PySem.Str.ofString "_law_are_turns") (top 36) (f__law_are_turns.ps.map PySem.Str.ofString) := fun _ _ _ _ _ _ us hl => match us, hl with | [_], _ => rfl
theorem spec__law_are_turns : ∀ ds Qd Rd, ds.length = f__law_are_turns.ps.length → sp_are_turnsV ds Qd Rd → wpF (sigOf [e_length_of, e_wheel_reaches, e_stops_ahead, e_dialings, e_turns_to, e_best_turns, e_is_integer, e_is_at_least, e_lock_fault, e_require_lock, e_places_right, e_state_fault, e_require_state, e_gates_fault, e_require_gates, e_require_dialed, e_require_dialing, e_least_way, e__law_tank, e__law_tap, e__law_box, e__law_pose, e__law_gates, e__law_can, e_least_turns, e__law_behind] (meFrom 0 [])) f__law_are_turns ds Qd Rd := fun ds Qd Rd _ h => w_are_turnsV rfl  ds Qd Rd h
theorem dok__law_length : dokB [e_length_of, e_wheel_reaches, e_stops_ahead, e_dialings, e_turns_to, e_best_turns, e_is_integer, e_is_at_least, e_lock_fault, e_require_lock, e_places_right, e_state_fault, e_require_state, e_gates_fault, e_require_gates, e_require_dialed, e_require_dialing, e_least_way, e__law_tank, e__law_tap, e__law_box, e__law_pose, e__law_gates, e__law_can, e_least_turns, e__law_behind, e__law_are_turns] glL [] [] clNm f__law_length [] (top 37) = true := by decide +kernel
theorem bp__law_length : BindPos (PySem.Str.ofString "_law_length") (top 37) (f__law_length.ps.map PySem.Str.ofString) := fun _ _ _ _ _ _ us hl => match us, hl with | [_], _ => rfl
theorem spec__law_length : ∀ ds Qd Rd, ds.length = f__law_length.ps.length → sp_length_of ds Qd Rd → wpF (sigOf [e_length_of, e_wheel_reaches, e_stops_ahead, e_dialings, e_turns_to, e_best_turns, e_is_integer, e_is_at_least, e_lock_fault, e_require_lock, e_places_right, e_state_fault, e_require_state, e_gates_fault, e_require_gates, e_require_dialed, e_require_dialing, e_least_way, e__law_tank, e__law_tap, e__law_box, e__law_pose, e__law_gates, e__law_can, e_least_turns, e__law_behind, e__law_are_turns] (meFrom 0 [])) f__law_length ds Qd Rd := fun ds Qd Rd _ h => w_llength rfl  ds Qd Rd h
theorem dok__law_has : dokB [e_length_of, e_wheel_reaches, e_stops_ahead, e_dialings, e_turns_to, e_best_turns, e_is_integer, e_is_at_least, e_lock_fault, e_require_lock, e_places_right, e_state_fault, e_require_state, e_gates_fault, e_require_gates, e_require_dialed, e_require_dialing, e_least_way, e__law_tank, e__law_tap, e__law_box, e__law_pose, e__law_gates, e__law_can, e_least_turns, e__law_behind, e__law_are_turns, e__law_length] glL [] [] clNm f__law_has [] (top 40) = true := by decide +kernel
theorem bp__law_has : BindPos (PySem.Str.ofString "_law_has") (top 40) (f__law_has.ps.map PySem.Str.ofString) := fun _ _ _ _ _ _ us hl => match us, hl with | [_, _, _], _ => rfl
theorem spec__law_has : ∀ ds Qd Rd, ds.length = f__law_has.ps.length → sp_lhas ds Qd Rd → wpF (sigOf [e_length_of, e_wheel_reaches, e_stops_ahead, e_dialings, e_turns_to, e_best_turns, e_is_integer, e_is_at_least, e_lock_fault, e_require_lock, e_places_right, e_state_fault, e_require_state, e_gates_fault, e_require_gates, e_require_dialed, e_require_dialing, e_least_way, e__law_tank, e__law_tap, e__law_box, e__law_pose, e__law_gates, e__law_can, e_least_turns, e__law_behind, e__law_are_turns, e__law_length] (meFrom 0 [])) f__law_has ds Qd Rd := fun ds Qd Rd _ h => w_lhas rfl  ds Qd Rd h
theorem dok__law_sums : dokB [e_length_of, e_wheel_reaches, e_stops_ahead, e_dialings, e_turns_to, e_best_turns, e_is_integer, e_is_at_least, e_lock_fault, e_require_lock, e_places_right, e_state_fault, e_require_state, e_gates_fault, e_require_gates, e_require_dialed, e_require_dialing, e_least_way, e__law_tank, e__law_tap, e__law_box, e__law_pose, e__law_gates, e__law_can, e_least_turns, e__law_behind, e__law_are_turns, e__law_length, e__law_has] glL [] [] clNm f__law_sums [] (top 34) = true := by decide +kernel
theorem bp__law_sums : BindPos (PySem.Str.ofString "_law_sums") (top 34) (f__law_sums.ps.map PySem.Str.ofString) := fun _ _ _ _ _ _ us hl => match us, hl with | [_], _ => rfl
theorem spec__law_sums : ∀ ds Qd Rd, ds.length = f__law_sums.ps.length → sp_lreaches ds Qd Rd → wpF (sigOf [e_length_of, e_wheel_reaches, e_stops_ahead, e_dialings, e_turns_to, e_best_turns, e_is_integer, e_is_at_least, e_lock_fault, e_require_lock, e_places_right, e_state_fault, e_require_state, e_gates_fault, e_require_gates, e_require_dialed, e_require_dialing, e_least_way, e__law_tank, e__law_tap, e__law_box, e__law_pose, e__law_gates, e__law_can, e_least_turns, e__law_behind, e__law_are_turns, e__law_length, e__law_has] (meFrom 0 [])) f__law_sums ds Qd Rd := fun ds Qd Rd _ h => w_lsums rfl  ds Qd Rd h
theorem dok__law_gaps : dokB [e_length_of, e_wheel_reaches, e_stops_ahead, e_dialings, e_turns_to, e_best_turns, e_is_integer, e_is_at_least, e_lock_fault, e_require_lock, e_places_right, e_state_fault, e_require_state, e_gates_fault, e_require_gates, e_require_dialed, e_require_dialing, e_least_way, e__law_tank, e__law_tap, e__law_box, e__law_pose, e__law_gates, e__law_can, e_least_turns, e__law_behind, e__law_are_turns, e__law_length, e__law_has, e__law_sums] glL [] [] clNm f__law_gaps [] (top 41) = true := by decide +kernel
theorem bp__law_gaps : BindPos (PySem.Str.ofString "_law_gaps") (top 41) (f__law_gaps.ps.map PySem.Str.ofString) := fun _ _ _ _ _ _ us hl => match us, hl with | [_, _, _], _ => rfl
theorem spec__law_gaps : ∀ ds Qd Rd, ds.length = f__law_gaps.ps.length → sp_lgaps ds Qd Rd → wpF (sigOf [e_length_of, e_wheel_reaches, e_stops_ahead, e_dialings, e_turns_to, e_best_turns, e_is_integer, e_is_at_least, e_lock_fault, e_require_lock, e_places_right, e_state_fault, e_require_state, e_gates_fault, e_require_gates, e_require_dialed, e_require_dialing, e_least_way, e__law_tank, e__law_tap, e__law_box, e__law_pose, e__law_gates, e__law_can, e_least_turns, e__law_behind, e__law_are_turns, e__law_length, e__law_has, e__law_sums] (meFrom 0 [])) f__law_gaps ds Qd Rd := fun ds Qd Rd _ h => w_lgaps rfl  ds Qd Rd h
theorem dok__law_ahead : dokB [e_length_of, e_wheel_reaches, e_stops_ahead, e_dialings, e_turns_to, e_best_turns, e_is_integer, e_is_at_least, e_lock_fault, e_require_lock, e_places_right, e_state_fault, e_require_state, e_gates_fault, e_require_gates, e_require_dialed, e_require_dialing, e_least_way, e__law_tank, e__law_tap, e__law_box, e__law_pose, e__law_gates, e__law_can, e_least_turns, e__law_behind, e__law_are_turns, e__law_length, e__law_has, e__law_sums, e__law_gaps] glL [] [("_law_gaps", 3)] clNm f__law_ahead_0 [] (top 42) = true := by decide +kernel
theorem bp__law_ahead : BindPos (PySem.Str.ofString "_law_ahead") (top 42) (f__law_ahead_0.ps.map PySem.Str.ofString) := fun _ _ _ _ _ _ us hl => match us, hl with | [_, _, _], _ => rfl
theorem spec__law_ahead : ∀ ds Qd Rd, ds.length = f__law_ahead_0.ps.length → sp_lahead29 ds Qd Rd → wpF (sigOf [e_length_of, e_wheel_reaches, e_stops_ahead, e_dialings, e_turns_to, e_best_turns, e_is_integer, e_is_at_least, e_lock_fault, e_require_lock, e_places_right, e_state_fault, e_require_state, e_gates_fault, e_require_gates, e_require_dialed, e_require_dialing, e_least_way, e__law_tank, e__law_tap, e__law_box, e__law_pose, e__law_gates, e__law_can, e_least_turns, e__law_behind, e__law_are_turns, e__law_length, e__law_has, e__law_sums, e__law_gaps] (meFrom 0 [])) f__law_ahead_0 ds Qd Rd := fun ds Qd Rd _ h => w_lahead29 rfl ⟨rfl, rfl⟩ ds Qd Rd h
theorem dok__law_due : dokB [e_length_of, e_wheel_reaches, e_stops_ahead, e_dialings, e_turns_to, e_best_turns, e_is_integer, e_is_at_least, e_lock_fault, e_require_lock, e_places_right, e_state_fault, e_require_state, e_gates_fault, e_require_gates, e_require_dialed, e_require_dialing, e_least_way, e__law_tank, e__law_tap, e__law_box, e__law_pose, e__law_gates, e__law_can, e_least_turns, e__law_behind, e__law_are_turns, e__law_length, e__law_has, e__law_sums, e__law_gaps, e__law_ahead] glL [] [("_law_ahead", 3), ("_law_sums", 1)] clNm f__law_due_7 [] (top 43) = true := by decide +kernel
theorem bp__law_due : BindPos (PySem.Str.ofString "_law_due") (top 43) (f__law_due_7.ps.map PySem.Str.ofString) := fun _ _ _ _ _ _ us hl => match us, hl with | [_, _, _], _ => rfl
theorem spec__law_due : ∀ ds Qd Rd, ds.length = f__law_due_7.ps.length → sp_ldue29 ds Qd Rd → wpF (sigOf [e_length_of, e_wheel_reaches, e_stops_ahead, e_dialings, e_turns_to, e_best_turns, e_is_integer, e_is_at_least, e_lock_fault, e_require_lock, e_places_right, e_state_fault, e_require_state, e_gates_fault, e_require_gates, e_require_dialed, e_require_dialing, e_least_way, e__law_tank, e__law_tap, e__law_box, e__law_pose, e__law_gates, e__law_can, e_least_turns, e__law_behind, e__law_are_turns, e__law_length, e__law_has, e__law_sums, e__law_gaps, e__law_ahead] (meFrom 0 [])) f__law_due_7 ds Qd Rd := fun ds Qd Rd _ h => w_ldue29 rfl ⟨rfl, rfl⟩ ⟨rfl, rfl⟩ ds Qd Rd h
theorem dok__law_right : dokB [e_length_of, e_wheel_reaches, e_stops_ahead, e_dialings, e_turns_to, e_best_turns, e_is_integer, e_is_at_least, e_lock_fault, e_require_lock, e_places_right, e_state_fault, e_require_state, e_gates_fault, e_require_gates, e_require_dialed, e_require_dialing, e_least_way, e__law_tank, e__law_tap, e__law_box, e__law_pose, e__law_gates, e__law_can, e_least_turns, e__law_behind, e__law_are_turns, e__law_length, e__law_has, e__law_sums, e__law_gaps, e__law_ahead, e__law_due] glL [] [("_law_are_turns", 1), ("_law_behind", 3), ("_law_due", 3), ("_law_has", 3), ("_law_length", 1), ("_law_tap", 2), ("least_turns", 3), ("least_way", 3)] clNm f__law_right_17 [true] (top 44) = true := by decide +kernel
theorem bp__law_right : BindPos (PySem.Str.ofString "_law_right") (top 44) (f__law_right_17.ps.map PySem.Str.ofString) := fun _ _ _ _ _ _ us hl => match us, hl with | [_, _, _, _], _ => rfl
theorem spec__law_right : ∀ ds Qd Rd, ds.length = f__law_right_17.ps.length → sp_lright29 ds Qd Rd → wpF (sigOf [e_length_of, e_wheel_reaches, e_stops_ahead, e_dialings, e_turns_to, e_best_turns, e_is_integer, e_is_at_least, e_lock_fault, e_require_lock, e_places_right, e_state_fault, e_require_state, e_gates_fault, e_require_gates, e_require_dialed, e_require_dialing, e_least_way, e__law_tank, e__law_tap, e__law_box, e__law_pose, e__law_gates, e__law_can, e_least_turns, e__law_behind, e__law_are_turns, e__law_length, e__law_has, e__law_sums, e__law_gaps, e__law_ahead, e__law_due] (meFrom 0 [true])) f__law_right_17 ds Qd Rd := fun ds Qd Rd _ h => w_lright29 rfl ⟨rfl, rfl⟩ ⟨rfl, rfl⟩ ⟨rfl, rfl⟩ ⟨rfl, rfl⟩ ⟨rfl, rfl⟩ ⟨rfl, rfl⟩ ⟨rfl, rfl⟩ ⟨rfl, rfl⟩ ds Qd Rd h
theorem dok_law : dokB [e_length_of, e_wheel_reaches, e_stops_ahead, e_dialings, e_turns_to, e_best_turns, e_is_integer, e_is_at_least, e_lock_fault, e_require_lock, e_places_right, e_state_fault, e_require_state, e_gates_fault, e_require_gates, e_require_dialed, e_require_dialing, e_least_way, e__law_tank, e__law_tap, e__law_box, e__law_pose, e__law_gates, e__law_can, e_least_turns, e__law_behind, e__law_are_turns, e__law_length, e__law_has, e__law_sums, e__law_gaps, e__law_ahead, e__law_due, e__law_right] glL [] [("_law_box", 3), ("_law_can", 2), ("_law_gates", 3), ("_law_pose", 3), ("_law_right", 4), ("_law_tank", 2), ("_law_tap", 2), ("least_way", 3)] clNm f_law_28 [] (top 45) = true := by decide +kernel
theorem bp_law : BindPos (PySem.Str.ofString "law") (top 45) (f_law_28.ps.map PySem.Str.ofString) := fun _ _ _ _ _ _ us hl => match us, hl with | [_], _ => rfl
theorem spec_law : ∀ ds Qd Rd, ds.length = f_law_28.ps.length → sp_law29 ds Qd Rd → wpF (sigOf [e_length_of, e_wheel_reaches, e_stops_ahead, e_dialings, e_turns_to, e_best_turns, e_is_integer, e_is_at_least, e_lock_fault, e_require_lock, e_places_right, e_state_fault, e_require_state, e_gates_fault, e_require_gates, e_require_dialed, e_require_dialing, e_least_way, e__law_tank, e__law_tap, e__law_box, e__law_pose, e__law_gates, e__law_can, e_least_turns, e__law_behind, e__law_are_turns, e__law_length, e__law_has, e__law_sums, e__law_gaps, e__law_ahead, e__law_due, e__law_right] []) f_law_28 ds Qd Rd := fun ds Qd Rd _ h => w_law29 rfl ⟨rfl, rfl⟩ ⟨rfl, rfl⟩ ⟨rfl, rfl⟩ ⟨rfl, rfl⟩ ⟨rfl, rfl⟩ ⟨rfl, rfl⟩ ⟨rfl, rfl⟩ ⟨rfl, rfl⟩ ds Qd Rd h
theorem all_mk {P : Program} {w : World} {K : PySem.W.Frag} {mg : Str → Option Value} {h : PySem.Heap} {fa : Addr} (X : K.In h) (G : h.Ns mainGlobals mg) (hfa : mg "law" = some (.ref fa)) (hnl : noLst K) (nb : NoB K) (hcl : clsB K clNm = true) (at_length_of : AtK K (PySem.Str.ofString "length_of") (top 20)) (at_wheel_reaches : AtK K (PySem.Str.ofString "wheel_reaches") (top 17)) (at_stops_ahead : AtK K (PySem.Str.ofString "stops_ahead") (top 23)) (at_dialings : AtK K (PySem.Str.ofString "dialings") (top 24)) (at_turns_to : AtK K (PySem.Str.ofString "turns_to") (top 19)) (at_best_turns : AtK K (PySem.Str.ofString "best_turns") (top 25)) (at_is_integer : AtK K (PySem.Str.ofString "is_integer") (top 8)) (at_is_at_least : AtK K (PySem.Str.ofString "is_at_least") (top 9)) (at_lock_fault : AtK K (PySem.Str.ofString "lock_fault") (top 10)) (at_require_lock : AtK K (PySem.Str.ofString "require_lock") (top 14)) (at_places_right : AtK K (PySem.Str.ofString "places_right") (top 11)) (at_state_fault : AtK K (PySem.Str.ofString "state_fault") (top 12)) (at_require_state : AtK K (PySem.Str.ofString "require_state") (top 15)) (at_gates_fault : AtK K (PySem.Str.ofString "gates_fault") (top 13)) (at_require_gates : AtK K (PySem.Str.ofString "require_gates") (top 16)) (at_require_dialed : AtK K (PySem.Str.ofString "require_dialed") (top 22)) (at_require_dialing : AtK K (PySem.Str.ofString "require_dialing") (top 26)) (at_least_way : AtK K (PySem.Str.ofString "least_way") (top 28)) (at__law_tank : AtK K (PySem.Str.ofString "_law_tank") (top 30)) (at__law_tap : AtK K (PySem.Str.ofString "_law_tap") (top 31)) (at__law_box : AtK K (PySem.Str.ofString "_law_box") (top 32)) (at__law_pose : AtK K (PySem.Str.ofString "_law_pose") (top 33)) (at__law_gates : AtK K (PySem.Str.ofString "_law_gates") (top 38)) (at__law_can : AtK K (PySem.Str.ofString "_law_can") (top 39)) (at_least_turns : AtK K (PySem.Str.ofString "least_turns") (top 27)) (at__law_behind : AtK K (PySem.Str.ofString "_law_behind") (top 35)) (at__law_are_turns : AtK K (PySem.Str.ofString "_law_are_turns") (top 36)) (at__law_length : AtK K (PySem.Str.ofString "_law_length") (top 37)) (at__law_has : AtK K (PySem.Str.ofString "_law_has") (top 40)) (at__law_sums : AtK K (PySem.Str.ofString "_law_sums") (top 34)) (at__law_gaps : AtK K (PySem.Str.ofString "_law_gaps") (top 41)) (at__law_ahead : AtK K (PySem.Str.ofString "_law_ahead") (top 42)) (at__law_due : AtK K (PySem.Str.ofString "_law_due") (top 43)) (at__law_right : AtK K (PySem.Str.ofString "_law_right") (top 44)) (at_law : AtK K (PySem.Str.ofString "law") (top 45))  {ug0 : Value} (g0 : PySem.W.nsIn K mainGlobals (PySem.Str.ofString "MOST_WHEELS") = some (some ug0)) (gr0 : L2.RelV (.int 8) ug0) : ∃ ct : CT, @LawG ct P w K mg 37 63 fa := by
  refine ⟨ctOf K clNm, ?_⟩
  letI : CT := ctOf K clNm
  have hxw : ∀ base : PySem.Heap, Xw clNm P w K mg base := fun base => xw_of X G hcl fun c hc f hf => by
    simp [clNm] at hc
  have hg : ∀ p ∈ glL, ∃ u v, mg (Str.ofString p.1) = some u ∧ L2.RelV v u ∧ ∀ F, Rep F p.2 v [] := by
    intro p hp
    simp only [glL, List.mem_cons, List.not_mem_nil, or_false] at hp
    subst hp
    exact gl_of X G g0 gr0 fun F => .int _
  refine law_of (L := [e_length_of, e_wheel_reaches, e_stops_ahead, e_dialings, e_turns_to, e_best_turns, e_is_integer, e_is_at_least, e_lock_fault, e_require_lock, e_places_right, e_state_fault, e_require_state, e_gates_fault, e_require_gates, e_require_dialed, e_require_dialing, e_least_way, e__law_tank, e__law_tap, e__law_box, e__law_pose, e__law_gates, e__law_can, e_least_turns, e__law_behind, e__law_are_turns, e__law_length, e__law_has, e__law_sums, e__law_gaps, e__law_ahead, e__law_due, e__law_right]) (gl := glL) (cl := clNm) (x := "script") hnl X G hfa at_law bp_law rfl rfl (dok_by dok_law) (by decide) (fun base h1 h2 => ?_) spec_law (fun ns hl hb => ⟨_, ns, rfl, hl, rfl⟩)
  have wd0 : Wd [] glL clNm P w K mg base 2 := wd_nil X G nb h1 (hxw base) hg
  have wd1 : Wd [e_length_of] glL clNm P w K mg base 3 := wd0.snoc (kn_of (e := e_length_of) X G at_length_of bp_length_of (fun kw hkw => nomatch hkw) rfl rfl rfl (dok_by dok_length_of) (by decide) wd0 spec_length_of)
  have wd2 : Wd [e_length_of, e_wheel_reaches] glL clNm P w K mg base 4 := wd1.snoc (kn_of (e := e_wheel_reaches) X G at_wheel_reaches bp_wheel_reaches (fun kw hkw => nomatch hkw) rfl rfl rfl (dok_by dok_wheel_reaches) (by decide) wd1 spec_wheel_reaches)
  have wd3 : Wd [e_length_of, e_wheel_reaches, e_stops_ahead] glL clNm P w K mg base 5 := wd2.snoc (kn_of (e := e_stops_ahead) X G at_stops_ahead bp_stops_ahead (fun kw hkw => nomatch hkw) rfl rfl rfl (dok_by dok_stops_ahead) (by decide) wd2 spec_stops_ahead)
  have wd4 : Wd [e_length_of, e_wheel_reaches, e_stops_ahead, e_dialings] glL clNm P w K mg base 6 := wd3.snoc (kn_of (e := e_dialings) X G at_dialings bp_dialings (fun kw hkw => nomatch hkw) rfl rfl rfl (dok_by dok_dialings) (by decide) wd3 spec_dialings)
  have wd5 : Wd [e_length_of, e_wheel_reaches, e_stops_ahead, e_dialings, e_turns_to] glL clNm P w K mg base 7 := wd4.snoc (kn_of (e := e_turns_to) X G at_turns_to bp_turns_to (fun kw hkw => nomatch hkw) rfl rfl rfl (dok_by dok_turns_to) (by decide) wd4 spec_turns_to)
  have wd6 : Wd [e_length_of, e_wheel_reaches, e_stops_ahead, e_dialings, e_turns_to, e_best_turns] glL clNm P w K mg base 8 := wd5.snoc (kn_of (e := e_best_turns) X G at_best_turns bp_best_turns (fun kw hkw => nomatch hkw) rfl rfl rfl (dok_by dok_best_turns) (by decide) wd5 spec_best_turns)
  have wd7 : Wd [e_length_of, e_wheel_reaches, e_stops_ahead, e_dialings, e_turns_to, e_best_turns, e_is_integer] glL clNm P w K mg base 9 := wd6.snoc (kn_of (e := e_is_integer) X G at_is_integer bp_is_integer (fun kw hkw => nomatch hkw) rfl rfl rfl (dok_by dok_is_integer) (by decide) wd6 spec_is_integer)
  have wd8 : Wd [e_length_of, e_wheel_reaches, e_stops_ahead, e_dialings, e_turns_to, e_best_turns, e_is_integer, e_is_at_least] glL clNm P w K mg base 10 := wd7.snoc (kn_of (e := e_is_at_least) X G at_is_at_least bp_is_at_least (fun kw hkw => nomatch hkw) rfl rfl rfl (dok_by dok_is_at_least) (by decide) wd7 spec_is_at_least)
  have wd9 : Wd [e_length_of, e_wheel_reaches, e_stops_ahead, e_dialings, e_turns_to, e_best_turns, e_is_integer, e_is_at_least, e_lock_fault] glL clNm P w K mg base 11 := wd8.snoc (kn_of (e := e_lock_fault) X G at_lock_fault bp_lock_fault (fun kw hkw => nomatch hkw) rfl rfl rfl (dok_by dok_lock_fault) (by decide) wd8 spec_lock_fault)
  have wd10 : Wd [e_length_of, e_wheel_reaches, e_stops_ahead, e_dialings, e_turns_to, e_best_turns, e_is_integer, e_is_at_least, e_lock_fault, e_require_lock] glL clNm P w K mg base 12 := wd9.snoc (kn_of (e := e_require_lock) X G at_require_lock bp_require_lock (fun kw hkw => nomatch hkw) rfl rfl rfl (dok_by dok_require_lock) (by decide) wd9 spec_require_lock)
  have wd11 : Wd [e_length_of, e_wheel_reaches, e_stops_ahead, e_dialings, e_turns_to, e_best_turns, e_is_integer, e_is_at_least, e_lock_fault, e_require_lock, e_places_right] glL clNm P w K mg base 13 := wd10.snoc (kn_of (e := e_places_right) X G at_places_right bp_places_right (fun kw hkw => nomatch hkw) rfl rfl rfl (dok_by dok_places_right) (by decide) wd10 spec_places_right)
  have wd12 : Wd [e_length_of, e_wheel_reaches, e_stops_ahead, e_dialings, e_turns_to, e_best_turns, e_is_integer, e_is_at_least, e_lock_fault, e_require_lock, e_places_right, e_state_fault] glL clNm P w K mg base 14 := wd11.snoc (kn_of (e := e_state_fault) X G at_state_fault bp_state_fault (fun kw hkw => nomatch hkw) rfl rfl rfl (dok_by dok_state_fault) (by decide) wd11 spec_state_fault)
  have wd13 : Wd [e_length_of, e_wheel_reaches, e_stops_ahead, e_dialings, e_turns_to, e_best_turns, e_is_integer, e_is_at_least, e_lock_fault, e_require_lock, e_places_right, e_state_fault, e_require_state] glL clNm P w K mg base 15 := wd12.snoc (kn_of (e := e_require_state) X G at_require_state bp_require_state (fun kw hkw => nomatch hkw) rfl rfl rfl (dok_by dok_require_state) (by decide) wd12 spec_require_state)
  have wd14 : Wd [e_length_of, e_wheel_reaches, e_stops_ahead, e_dialings, e_turns_to, e_best_turns, e_is_integer, e_is_at_least, e_lock_fault, e_require_lock, e_places_right, e_state_fault, e_require_state, e_gates_fault] glL clNm P w K mg base 16 := wd13.snoc (kn_of (e := e_gates_fault) X G at_gates_fault bp_gates_fault (fun kw hkw => nomatch hkw) rfl rfl rfl (dok_by dok_gates_fault) (by decide) wd13 spec_gates_fault)
  have wd15 : Wd [e_length_of, e_wheel_reaches, e_stops_ahead, e_dialings, e_turns_to, e_best_turns, e_is_integer, e_is_at_least, e_lock_fault, e_require_lock, e_places_right, e_state_fault, e_require_state, e_gates_fault, e_require_gates] glL clNm P w K mg base 17 := wd14.snoc (kn_of (e := e_require_gates) X G at_require_gates bp_require_gates (fun kw hkw => nomatch hkw) rfl rfl rfl (dok_by dok_require_gates) (by decide) wd14 spec_require_gates)
  have wd16 : Wd [e_length_of, e_wheel_reaches, e_stops_ahead, e_dialings, e_turns_to, e_best_turns, e_is_integer, e_is_at_least, e_lock_fault, e_require_lock, e_places_right, e_state_fault, e_require_state, e_gates_fault, e_require_gates, e_require_dialed] glL clNm P w K mg base 18 := wd15.snoc (kn_of (e := e_require_dialed) X G at_require_dialed bp_require_dialed (fun kw hkw => nomatch hkw) rfl rfl rfl (dok_by dok_require_dialed) (by decide) wd15 spec_require_dialed)
  have wd17 : Wd [e_length_of, e_wheel_reaches, e_stops_ahead, e_dialings, e_turns_to, e_best_turns, e_is_integer, e_is_at_least, e_lock_fault, e_require_lock, e_places_right, e_state_fault, e_require_state, e_gates_fault, e_require_gates, e_require_dialed, e_require_dialing] glL clNm P w K mg base 19 := wd16.snoc (kn_of (e := e_require_dialing) X G at_require_dialing bp_require_dialing (fun kw hkw => nomatch hkw) rfl rfl rfl (dok_by dok_require_dialing) (by decide) wd16 spec_require_dialing)
  have wd18 : Wd [e_length_of, e_wheel_reaches, e_stops_ahead, e_dialings, e_turns_to, e_best_turns, e_is_integer, e_is_at_least, e_lock_fault, e_require_lock, e_places_right, e_state_fault, e_require_state, e_gates_fault, e_require_gates, e_require_dialed, e_require_dialing, e_least_way] glL clNm P w K mg base 20 := wd17.snoc (kn_of (e := e_least_way) X G at_least_way bp_least_way (fun kw hkw => nomatch hkw) rfl rfl rfl (dok_by dok_least_way) (by decide) wd17 spec_least_way)
  have wd19 : Wd [e_length_of, e_wheel_reaches, e_stops_ahead, e_dialings, e_turns_to, e_best_turns, e_is_integer, e_is_at_least, e_lock_fault, e_require_lock, e_places_right, e_state_fault, e_require_state, e_gates_fault, e_require_gates, e_require_dialed, e_require_dialing, e_least_way, e__law_tank] glL clNm P w K mg base 21 := wd18.snoc (kn_of (e := e__law_tank) X G at__law_tank bp__law_tank (fun kw hkw => nomatch hkw) rfl rfl rfl (dok_by dok__law_tank) (by decide) wd18 spec__law_tank)
  have wd20 : Wd [e_length_of, e_wheel_reaches, e_stops_ahead, e_dialings, e_turns_to, e_best_turns, e_is_integer, e_is_at_least, e_lock_fault, e_require_lock, e_places_right, e_state_fault, e_require_state, e_gates_fault, e_require_gates, e_require_dialed, e_require_dialing, e_least_way, e__law_tank, e__law_tap] glL clNm P w K mg base 22 := wd19.snoc (kn_of (e := e__law_tap) X G at__law_tap bp__law_tap (fun kw hkw => nomatch hkw) rfl rfl rfl (dok_by dok__law_tap) (by decide) wd19 spec__law_tap)
  have wd21 : Wd [e_length_of, e_wheel_reaches, e_stops_ahead, e_dialings, e_turns_to, e_best_turns, e_is_integer, e_is_at_least, e_lock_fault, e_require_lock, e_places_right, e_state_fault, e_require_state, e_gates_fault, e_require_gates, e_require_dialed, e_require_dialing, e_least_way, e__law_tank, e__law_tap, e__law_box] glL clNm P w K mg base 23 := wd20.snoc (kn_of (e := e__law_box) X G at__law_box bp__law_box (fun kw hkw => nomatch hkw) rfl rfl rfl (dok_by dok__law_box) (by decide) wd20 spec__law_box)
  have wd22 : Wd [e_length_of, e_wheel_reaches, e_stops_ahead, e_dialings, e_turns_to, e_best_turns, e_is_integer, e_is_at_least, e_lock_fault, e_require_lock, e_places_right, e_state_fault, e_require_state, e_gates_fault, e_require_gates, e_require_dialed, e_require_dialing, e_least_way, e__law_tank, e__law_tap, e__law_box, e__law_pose] glL clNm P w K mg base 24 := wd21.snoc (kn_of (e := e__law_pose) X G at__law_pose bp__law_pose (fun kw hkw => nomatch hkw) rfl rfl rfl (dok_by dok__law_pose) (by decide) wd21 spec__law_pose)
  have wd23 : Wd [e_length_of, e_wheel_reaches, e_stops_ahead, e_dialings, e_turns_to, e_best_turns, e_is_integer, e_is_at_least, e_lock_fault, e_require_lock, e_places_right, e_state_fault, e_require_state, e_gates_fault, e_require_gates, e_require_dialed, e_require_dialing, e_least_way, e__law_tank, e__law_tap, e__law_box, e__law_pose, e__law_gates] glL clNm P w K mg base 25 := wd22.snoc (kn_of (e := e__law_gates) X G at__law_gates bp__law_gates (fun kw hkw => nomatch hkw) rfl rfl rfl (dok_by dok__law_gates) (by decide) wd22 spec__law_gates)
  have wd24 : Wd [e_length_of, e_wheel_reaches, e_stops_ahead, e_dialings, e_turns_to, e_best_turns, e_is_integer, e_is_at_least, e_lock_fault, e_require_lock, e_places_right, e_state_fault, e_require_state, e_gates_fault, e_require_gates, e_require_dialed, e_require_dialing, e_least_way, e__law_tank, e__law_tap, e__law_box, e__law_pose, e__law_gates, e__law_can] glL clNm P w K mg base 26 := wd23.snoc (kn_of (e := e__law_can) X G at__law_can bp__law_can (fun kw hkw => nomatch hkw) rfl rfl rfl (dok_by dok__law_can) (by decide) wd23 spec__law_can)
  have wd25 : Wd [e_length_of, e_wheel_reaches, e_stops_ahead, e_dialings, e_turns_to, e_best_turns, e_is_integer, e_is_at_least, e_lock_fault, e_require_lock, e_places_right, e_state_fault, e_require_state, e_gates_fault, e_require_gates, e_require_dialed, e_require_dialing, e_least_way, e__law_tank, e__law_tap, e__law_box, e__law_pose, e__law_gates, e__law_can, e_least_turns] glL clNm P w K mg base 27 := wd24.snoc (kn_of (e := e_least_turns) X G at_least_turns bp_least_turns (fun kw hkw => nomatch hkw) rfl rfl rfl (dok_by dok_least_turns) (by decide) wd24 spec_least_turns)
  have wd26 : Wd [e_length_of, e_wheel_reaches, e_stops_ahead, e_dialings, e_turns_to, e_best_turns, e_is_integer, e_is_at_least, e_lock_fault, e_require_lock, e_places_right, e_state_fault, e_require_state, e_gates_fault, e_require_gates, e_require_dialed, e_require_dialing, e_least_way, e__law_tank, e__law_tap, e__law_box, e__law_pose, e__law_gates, e__law_can, e_least_turns, e__law_behind] glL clNm P w K mg base 28 := wd25.snoc (kn_of (e := e__law_behind) X G at__law_behind bp__law_behind (fun kw hkw => nomatch hkw) rfl rfl rfl (dok_by dok__law_behind) (by decide) wd25 spec__law_behind)
  have wd27 : Wd [e_length_of, e_wheel_reaches, e_stops_ahead, e_dialings, e_turns_to, e_best_turns, e_is_integer, e_is_at_least, e_lock_fault, e_require_lock, e_places_right, e_state_fault, e_require_state, e_gates_fault, e_require_gates, e_require_dialed, e_require_dialing, e_least_way, e__law_tank, e__law_tap, e__law_box, e__law_pose, e__law_gates, e__law_can, e_least_turns, e__law_behind, e__law_are_turns] glL clNm P w K mg base 29 := wd26.snoc (kn_of (e := e__law_are_turns) X G at__law_are_turns bp__law_are_turns (fun kw hkw => nomatch hkw) rfl rfl rfl (dok_by dok__law_are_turns) (by decide) wd26 spec__law_are_turns)
  have wd28 : Wd [e_length_of, e_wheel_reaches, e_stops_ahead, e_dialings, e_turns_to, e_best_turns, e_is_integer, e_is_at_least, e_lock_fault, e_require_lock, e_places_right, e_state_fault, e_require_state, e_gates_fault, e_require_gates, e_require_dialed, e_require_dialing, e_least_way, e__law_tank, e__law_tap, e__law_box, e__law_pose, e__law_gates, e__law_can, e_least_turns, e__law_behind, e__law_are_turns, e__law_length] glL clNm P w K mg base 30 := wd27.snoc (kn_of (e := e__law_length) X G at__law_length bp__law_length (fun kw hkw => nomatch hkw) rfl rfl rfl (dok_by dok__law_length) (by decide) wd27 spec__law_length)
  have wd29 : Wd [e_length_of, e_wheel_reaches, e_stops_ahead, e_dialings, e_turns_to, e_best_turns, e_is_integer, e_is_at_least, e_lock_fault, e_require_lock, e_places_right, e_state_fault, e_require_state, e_gates_fault, e_require_gates, e_require_dialed, e_require_dialing, e_least_way, e__law_tank, e__law_tap, e__law_box, e__law_pose, e__law_gates, e__law_can, e_least_turns, e__law_behind, e__law_are_turns, e__law_length, e__law_has] glL clNm P w K mg base 31 := wd28.snoc (kn_of (e := e__law_has) X G at__law_has bp__law_has (fun kw hkw => nomatch hkw) rfl rfl rfl (dok_by dok__law_has) (by decide) wd28 spec__law_has)
  have wd30 : Wd [e_length_of, e_wheel_reaches, e_stops_ahead, e_dialings, e_turns_to, e_best_turns, e_is_integer, e_is_at_least, e_lock_fault, e_require_lock, e_places_right, e_state_fault, e_require_state, e_gates_fault, e_require_gates, e_require_dialed, e_require_dialing, e_least_way, e__law_tank, e__law_tap, e__law_box, e__law_pose, e__law_gates, e__law_can, e_least_turns, e__law_behind, e__law_are_turns, e__law_length, e__law_has, e__law_sums] glL clNm P w K mg base 32 := wd29.snoc (kn_of (e := e__law_sums) X G at__law_sums bp__law_sums (fun kw hkw => nomatch hkw) rfl rfl rfl (dok_by dok__law_sums) (by decide) wd29 spec__law_sums)
  have wd31 : Wd [e_length_of, e_wheel_reaches, e_stops_ahead, e_dialings, e_turns_to, e_best_turns, e_is_integer, e_is_at_least, e_lock_fault, e_require_lock, e_places_right, e_state_fault, e_require_state, e_gates_fault, e_require_gates, e_require_dialed, e_require_dialing, e_least_way, e__law_tank, e__law_tap, e__law_box, e__law_pose, e__law_gates, e__law_can, e_least_turns, e__law_behind, e__law_are_turns, e__law_length, e__law_has, e__law_sums, e__law_gaps] glL clNm P w K mg base 33 := wd30.snoc (kn_of (e := e__law_gaps) X G at__law_gaps bp__law_gaps (fun kw hkw => nomatch hkw) rfl rfl rfl (dok_by dok__law_gaps) (by decide) wd30 spec__law_gaps)
  have wd32 : Wd [e_length_of, e_wheel_reaches, e_stops_ahead, e_dialings, e_turns_to, e_best_turns, e_is_integer, e_is_at_least, e_lock_fault, e_require_lock, e_places_right, e_state_fault, e_require_state, e_gates_fault, e_require_gates, e_require_dialed, e_require_dialing, e_least_way, e__law_tank, e__law_tap, e__law_box, e__law_pose, e__law_gates, e__law_can, e_least_turns, e__law_behind, e__law_are_turns, e__law_length, e__law_has, e__law_sums, e__law_gaps, e__law_ahead] glL clNm P w K mg base 34 := wd31.snoc (kn_of (e := e__law_ahead) X G at__law_ahead bp__law_ahead (fun kw hkw => nomatch hkw) rfl rfl rfl (dok_by dok__law_ahead) (by decide) wd31 spec__law_ahead)
  have wd33 : Wd [e_length_of, e_wheel_reaches, e_stops_ahead, e_dialings, e_turns_to, e_best_turns, e_is_integer, e_is_at_least, e_lock_fault, e_require_lock, e_places_right, e_state_fault, e_require_state, e_gates_fault, e_require_gates, e_require_dialed, e_require_dialing, e_least_way, e__law_tank, e__law_tap, e__law_box, e__law_pose, e__law_gates, e__law_can, e_least_turns, e__law_behind, e__law_are_turns, e__law_length, e__law_has, e__law_sums, e__law_gaps, e__law_ahead, e__law_due] glL clNm P w K mg base 35 := wd32.snoc (kn_of (e := e__law_due) X G at__law_due bp__law_due (fun kw hkw => nomatch hkw) rfl rfl rfl (dok_by dok__law_due) (by decide) wd32 spec__law_due)
  have wd34 : Wd [e_length_of, e_wheel_reaches, e_stops_ahead, e_dialings, e_turns_to, e_best_turns, e_is_integer, e_is_at_least, e_lock_fault, e_require_lock, e_places_right, e_state_fault, e_require_state, e_gates_fault, e_require_gates, e_require_dialed, e_require_dialing, e_least_way, e__law_tank, e__law_tap, e__law_box, e__law_pose, e__law_gates, e__law_can, e_least_turns, e__law_behind, e__law_are_turns, e__law_length, e__law_has, e__law_sums, e__law_gaps, e__law_ahead, e__law_due, e__law_right] glL clNm P w K mg base 36 := wd33.snoc (kn_of (e := e__law_right) X G at__law_right bp__law_right (fun kw hkw => nomatch hkw) rfl rfl rfl (dok_by dok__law_right) (by decide) wd33 spec__law_right)
  exact wd34
end DP
open PySem PySem.W PyProof.Rows
set_option maxRecDepth 100000 in
set_option maxHeartbeats 0 in
theorem PySem.Challenge.cw_dialpack_k29_dialings_of_great_numbers_holds : PySem.Challenge.rw_dialpack_k29_dialings_of_great_numbers.Holds := by
  w_on; o_law; k_head; (case hw => w_witness2)
  k_fill
  refine DP.walk_ofG (l := PySem.Challenge.rw_dialpack_k29_dialings_of_great_numbers) (n := 63) (k := 37) rfl (by decide +kernel) rfl ⟨rfl, by decide, by decide⟩ (fun w h Y => PySem.W.kIn_of Y) ?F
  case F =>
    intro w mg fa h KX G hmg
    refine' DP.all_mk KX G hmg ?dpNl ?dpNb ?dpCl ?dpA0 ?dpA1 ?dpA2 ?dpA3 ?dpA4 ?dpA5 ?dpA6 ?dpA7 ?dpA8 ?dpA9 ?dpA10 ?dpA11 ?dpA12 ?dpA13 ?dpA14 ?dpA15 ?dpA16 ?dpA17 ?dpA18 ?dpA19 ?dpA20 ?dpA21 ?dpA22 ?dpA23 ?dpA24 ?dpA25 ?dpA26 ?dpA27 ?dpA28 ?dpA29 ?dpA30 ?dpA31 ?dpA32 ?dpA33 ?dpA34 ?dpG0 ?dpR0
    case dpNl => exact DP.noLst_by (by kernel_rfl)
    case dpCl => kernel_rfl
    case dpNb =>
      unfold DP.NoB DP.bnames
      simp only [List.forall_mem_cons, List.not_mem_nil, false_implies, implies_true, and_true]
      refine' ⟨?dpN0, ?dpN1, ?dpN2, ?dpN3, ?dpN4, ?dpN5, ?dpN6, ?dpN7, ?dpN8, ?dpN9, ?dpN10, ?dpN11, ?dpN12, ?dpN13, ?dpN14, ?dpN15, ?dpN16, ?dpN17, ?dpN18, ?dpN19, ?dpN20, ?dpN21⟩
      (case dpN0 => k_is)
      (case dpN1 => k_is)
      (case dpN2 => k_is)
      (case dpN3 => k_is)
      (case dpN4 => k_is)
      (case dpN5 => k_is)
      (case dpN6 => k_is)
      (case dpN7 => k_is)
      (case dpN8 => k_is)
      (case dpN9 => k_is)
      (case dpN10 => k_is)
      (case dpN11 => k_is)
      (case dpN12 => k_is)
      (case dpN13 => k_is)
      (case dpN14 => k_is)
      (case dpN15 => k_is)
      (case dpN16 => k_is)
      (case dpN17 => k_is)
      (case dpN18 => k_is)
      (case dpN19 => k_is)
      (case dpN20 => k_is)
      (case dpN21 => k_is)
    (case dpA0 => refine' DP.at_mk ?dpW0 ?dpX0 ?dpY0 ?dpZ0; (case dpW0 => k_is); (case dpX0 => k_is); (case dpY0 => k_is); (case dpZ0 => k_is))
    (case dpA1 => refine' DP.at_mk ?dpW1 ?dpX1 ?dpY1 ?dpZ1; (case dpW1 => k_is); (case dpX1 => k_is); (case dpY1 => k_is); (case dpZ1 => k_is))
    (case dpA2 => refine' DP.at_mk ?dpW2 ?dpX2 ?dpY2 ?dpZ2; (case dpW2 => k_is); (case dpX2 => k_is); (case dpY2 => k_is); (case dpZ2 => k_is))
    (case dpA3 => refine' DP.at_mk ?dpW3 ?dpX3 ?dpY3 ?dpZ3; (case dpW3 => k_is); (case dpX3 => k_is); (case dpY3 => k_is); (case dpZ3 => k_is))
    (case dpA4 => refine' DP.at_mk ?dpW4 ?dpX4 ?dpY4 ?dpZ4; (case dpW4 => k_is); (case dpX4 => k_is); (case dpY4 => k_is); (case dpZ4 => k_is))
    (case dpA5 => refine' DP.at_mk ?dpW5 ?dpX5 ?dpY5 ?dpZ5; (case dpW5 => k_is); (case dpX5 => k_is); (case dpY5 => k_is); (case dpZ5 => k_is))
    (case dpA6 => refine' DP.at_mk ?dpW6 ?dpX6 ?dpY6 ?dpZ6; (case dpW6 => k_is); (case dpX6 => k_is); (case dpY6 => k_is); (case dpZ6 => k_is))
    (case dpA7 => refine' DP.at_mk ?dpW7 ?dpX7 ?dpY7 ?dpZ7; (case dpW7 => k_is); (case dpX7 => k_is); (case dpY7 => k_is); (case dpZ7 => k_is))
    (case dpA8 => refine' DP.at_mk ?dpW8 ?dpX8 ?dpY8 ?dpZ8; (case dpW8 => k_is); (case dpX8 => k_is); (case dpY8 => k_is); (case dpZ8 => k_is))
    (case dpA9 => refine' DP.at_mk ?dpW9 ?dpX9 ?dpY9 ?dpZ9; (case dpW9 => k_is); (case dpX9 => k_is); (case dpY9 => k_is); (case dpZ9 => k_is))
    (case dpA10 => refine' DP.at_mk ?dpW10 ?dpX10 ?dpY10 ?dpZ10; (case dpW10 => k_is); (case dpX10 => k_is); (case dpY10 => k_is); (case dpZ10 => k_is))
    (case dpA11 => refine' DP.at_mk ?dpW11 ?dpX11 ?dpY11 ?dpZ11; (case dpW11 => k_is); (case dpX11 => k_is); (case dpY11 => k_is); (case dpZ11 => k_is))
    (case dpA12 => refine' DP.at_mk ?dpW12 ?dpX12 ?dpY12 ?dpZ12; (case dpW12 => k_is); (case dpX12 => k_is); (case dpY12 => k_is); (case dpZ12 => k_is))
    (case dpA13 => refine' DP.at_mk ?dpW13 ?dpX13 ?dpY13 ?dpZ13; (case dpW13 => k_is); (case dpX13 => k_is); (case dpY13 => k_is); (case dpZ13 => k_is))
    (case dpA14 => refine' DP.at_mk ?dpW14 ?dpX14 ?dpY14 ?dpZ14; (case dpW14 => k_is); (case dpX14 => k_is); (case dpY14 => k_is); (case dpZ14 => k_is))
    (case dpA15 => refine' DP.at_mk ?dpW15 ?dpX15 ?dpY15 ?dpZ15; (case dpW15 => k_is); (case dpX15 => k_is); (case dpY15 => k_is); (case dpZ15 => k_is))
    (case dpA16 => refine' DP.at_mk ?dpW16 ?dpX16 ?dpY16 ?dpZ16; (case dpW16 => k_is); (case dpX16 => k_is); (case dpY16 => k_is); (case dpZ16 => k_is))
    (case dpA17 => refine' DP.at_mk ?dpW17 ?dpX17 ?dpY17 ?dpZ17; (case dpW17 => k_is); (case dpX17 => k_is); (case dpY17 => k_is); (case dpZ17 => k_is))
    (case dpA18 => refine' DP.at_mk ?dpW18 ?dpX18 ?dpY18 ?dpZ18; (case dpW18 => k_is); (case dpX18 => k_is); (case dpY18 => k_is); (case dpZ18 => k_is))
    (case dpA19 => refine' DP.at_mk ?dpW19 ?dpX19 ?dpY19 ?dpZ19; (case dpW19 => k_is); (case dpX19 => k_is); (case dpY19 => k_is); (case dpZ19 => k_is))
    (case dpA20 => refine' DP.at_mk ?dpW20 ?dpX20 ?dpY20 ?dpZ20; (case dpW20 => k_is); (case dpX20 => k_is); (case dpY20 => k_is); (case dpZ20 => k_is))
    (case dpA21 => refine' DP.at_mk ?dpW21 ?dpX21 ?dpY21 ?dpZ21; (case dpW21 => k_is); (case dpX21 => k_is); (case dpY21 => k_is); (case dpZ21 => k_is))
    (case dpA22 => refine' DP.at_mk ?dpW22 ?dpX22 ?dpY22 ?dpZ22; (case dpW22 => k_is); (case dpX22 => k_is); (case dpY22 => k_is); (case dpZ22 => k_is))
    (case dpA23 => refine' DP.at_mk ?dpW23 ?dpX23 ?dpY23 ?dpZ23; (case dpW23 => k_is); (case dpX23 => k_is); (case dpY23 => k_is); (case dpZ23 => k_is))
    (case dpA24 => refine' DP.at_mk ?dpW24 ?dpX24 ?dpY24 ?dpZ24; (case dpW24 => k_is); (case dpX24 => k_is); (case dpY24 => k_is); (case dpZ24 => k_is))
    (case dpA25 => refine' DP.at_mk ?dpW25 ?dpX25 ?dpY25 ?dpZ25; (case dpW25 => k_is); (case dpX25 => k_is); (case dpY25 => k_is); (case dpZ25 => k_is))
    (case dpA26 => refine' DP.at_mk ?dpW26 ?dpX26 ?dpY26 ?dpZ26; (case dpW26 => k_is); (case dpX26 => k_is); (case dpY26 => k_is); (case dpZ26 => k_is))
    (case dpA27 => refine' DP.at_mk ?dpW27 ?dpX27 ?dpY27 ?dpZ27; (case dpW27 => k_is); (case dpX27 => k_is); (case dpY27 => k_is); (case dpZ27 => k_is))
    (case dpA28 => refine' DP.at_mk ?dpW28 ?dpX28 ?dpY28 ?dpZ28; (case dpW28 => k_is); (case dpX28 => k_is); (case dpY28 => k_is); (case dpZ28 => k_is))
    (case dpA29 => refine' DP.at_mk ?dpW29 ?dpX29 ?dpY29 ?dpZ29; (case dpW29 => k_is); (case dpX29 => k_is); (case dpY29 => k_is); (case dpZ29 => k_is))
    (case dpA30 => refine' DP.at_mk ?dpW30 ?dpX30 ?dpY30 ?dpZ30; (case dpW30 => k_is); (case dpX30 => k_is); (case dpY30 => k_is); (case dpZ30 => k_is))
    (case dpA31 => refine' DP.at_mk ?dpW31 ?dpX31 ?dpY31 ?dpZ31; (case dpW31 => k_is); (case dpX31 => k_is); (case dpY31 => k_is); (case dpZ31 => k_is))
    (case dpA32 => refine' DP.at_mk ?dpW32 ?dpX32 ?dpY32 ?dpZ32; (case dpW32 => k_is); (case dpX32 => k_is); (case dpY32 => k_is); (case dpZ32 => k_is))
    (case dpA33 => refine' DP.at_mk ?dpW33 ?dpX33 ?dpY33 ?dpZ33; (case dpW33 => k_is); (case dpX33 => k_is); (case dpY33 => k_is); (case dpZ33 => k_is))
    (case dpA34 => refine' DP.at_mk ?dpW34 ?dpX34 ?dpY34 ?dpZ34; (case dpW34 => k_is); (case dpX34 => k_is); (case dpY34 => k_is); (case dpZ34 => k_is))
    (case dpG0 => k_is); (case dpR0 => exact ⟨_, rfl⟩)
#print axioms PySem.Challenge.cw_dialpack_k29_dialings_of_great_numbers_holds
